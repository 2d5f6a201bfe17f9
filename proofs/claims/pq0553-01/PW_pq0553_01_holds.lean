import PyProof.Rows.All
import Wide.All
import OpenK.AllK
import Wide.FinOn
import PySem.Challenge.RW_pq0553_01
set_option Elab.async false
set_option linter.unusedVariables false
set_option linter.unusedSimpArgs false
set_option linter.deprecated false
set_option maxRecDepth 100000
set_option maxHeartbeats 8000000
section
set_option maxHeartbeats 8000000
open PySem PySem.W PyProof.Rows
namespace Mine
open_top hd for PySem.Challenge.rw_pq0553_01
end Mine
end
section
open PySem PySem.W PyProof.Rows PySem.Calls
namespace Mine

noncomputable abbrev KK (w : World) : Frag := hd.heap_39 w.params

noncomputable abbrev sh (s : Shared) (h : Heap) (tk : Nat) : Shared := { s with heap := h, toks := tk }
noncomputable def Le (h h' : Heap) : Prop := ∀ b o, h.get? b = some o → h'.get? b = some o
theorem Le.rfl {h : Heap} : Le h h := fun _ _ e => e
theorem Le.trans {a b c : Heap} (x : Le a b) (y : Le b c) : Le a c := fun _ _ e => y _ _ (x _ _ e)
theorem Le.push {a b : Heap} (x : Le a b) (o : Obj) : Le a (b.push o) := fun _ _ e => Heap.get?_push_of_some _ (x _ _ e)
theorem Le.none {a b : Heap} (x : Le a b) {c : Addr} (e : b.get? c = none) : a.get? c = none := by
  cases q : a.get? c with
  | none => rfl
  | some o => have := x _ _ q; rw [e] at this; cases this
theorem Le.size {a b : Heap} {c : Addr} {o : Obj} (x : Le a b) (e : a.get? c = some o) : c < b.objs.size := Heap.lt_size (x _ _ e)
theorem get_fresh (h : Heap) {c : Addr} (hc : h.objs.size ≤ c) : h.get? c = none := by
  cases e : h.get? c with
  | none => rfl
  | some o' => exact absurd (Heap.lt_size e) (Nat.not_lt.mpr hc)

noncomputable def mask (h : Heap) (p : Addr → Bool) : Heap := { h with objs := h.objs.mapIdx fun i o => if p i then o else { o with data := .freed } }
theorem mask_get (h : Heap) (p : Addr → Bool) (b : Addr) : (mask h p).get? b = if p b then h.get? b else none := by
  unfold mask Heap.get?
  simp only [Array.getElem?_mapIdx]
  cases e : h.objs[b]? with
  | none => simp
  | some o => cases hp : p b <;> simp

structure Grow (z h z' h' : Heap) : Prop where
  zz : Le z z'
  zh : Le z' h'
  hh : Le h h'
  nw : ∀ b o, z'.get? b = some o → z.get? b = some o ∨ h.get? b = none
theorem Grow.refl {z h : Heap} (x : Le z h) : Grow z h z h := ⟨Le.rfl, x, Le.rfl, fun _ _ e => .inl e⟩
theorem Grow.step {z h h' : Heap} (x : Le z h) (y : Le h h') : Grow z h z h' := ⟨Le.rfl, x.trans y, y, fun _ _ e => .inl e⟩
theorem Grow.trans {z h z' h' z'' h'' : Heap} (x : Grow z h z' h') (y : Grow z' h' z'' h'') : Grow z h z'' h'' :=
  ⟨x.zz.trans y.zz, y.zh, x.hh.trans y.hh, fun b o e => (y.nw b o e).elim (x.nw b o) fun e => .inr (x.hh.none e)⟩
theorem Grow.more {z h z' h' h'' : Heap} (x : Grow z h z' h') (y : Le h' h'') : Grow z h z' h'' := ⟨x.zz, x.zh.trans y, x.hh.trans y, x.nw⟩
/-- an address that was there and not in the zone stays out of the zone -/
theorem Grow.off {z h z' h' : Heap} (x : Grow z h z' h') {b : Addr} {o : Obj} (e : h.get? b = some o) (n : z.get? b = none) : z'.get? b = none := by
  cases q : z'.get? b with
  | none => rfl
  | some o' => rcases x.nw b o' q with q' | q'
               · rw [n] at q'; cases q'
               · rw [e] at q'; cases q'
theorem Grow.add {z h z' h' : Heap} (x : Grow z h z' h') {l : Addr} {o : Obj} (n : h.get? l = none) (e : h'.get? l = some o) : ∃ z'', Grow z h z'' h' ∧ Le z' z'' ∧ z''.get? l = some o := by
  refine ⟨mask h' fun b => (z'.get? b).isSome || b == l, ⟨fun b o' q => ?_, fun b o' q => ?_, x.hh, fun b o' q => ?_⟩, fun b o' q => ?_, ?_⟩
  · rw [mask_get, x.zz _ _ q]; simpa using x.zh _ _ (x.zz _ _ q)
  · rw [mask_get] at q; split at q
    · exact q
    · cases q
  · rw [mask_get] at q; split at q
    · rename_i c
      rcases Bool.or_eq_true_iff.mp c with c | c
      · obtain ⟨o₁, e₁⟩ := Option.isSome_iff_exists.mp c
        have := x.zh _ _ e₁
        rw [q] at this; cases this
        exact x.nw b o' e₁
      · exact .inr (by rw [beq_iff_eq.mp c]; exact n)
    · cases q
  · rw [mask_get, q]; simpa using x.zh _ _ q
  · rw [mask_get]; simpa using e
theorem Grow.full {z h h' : Heap} (zz : Le z h) (hh : Le h h') : ∃ z', Grow z h z' h' ∧ ∀ b o, h.get? b = none → h'.get? b = some o → z'.get? b = some o := by
  refine ⟨mask h' fun b => (z.get? b).isSome || (h.get? b).isNone, ⟨fun b o' q => ?_, fun b o' q => ?_, hh, fun b o' q => ?_⟩, fun b o' n e => ?_⟩
  · rw [mask_get, q]; simpa using hh _ _ (zz _ _ q)
  · rw [mask_get] at q; split at q
    · exact q
    · cases q
  · rw [mask_get] at q; split at q
    · rename_i c
      rcases Bool.or_eq_true_iff.mp c with c | c
      · obtain ⟨o₁, e₁⟩ := Option.isSome_iff_exists.mp c
        have := hh _ _ (zz _ _ e₁)
        rw [q] at this; cases this
        exact .inl e₁
      · exact .inr (by simpa using c)
    · cases q
  · rw [mask_get, n]; simpa using e

/-- abstract data -/
inductive AV where
  | int (i : Int)
  | bool (b : Bool)
  | none
  | list (xs : List AV)
  | tup (xs : List AV)
  | rng (a b : Int)
  | dfa (rows tags : AV)
  | val (v : Value)

noncomputable abbrev cDfa : Addr := 83
noncomputable abbrev lstO (vs : List Value) (n : Nat) : Obj := { cls := .type "list", data := .seq vs.toArray n }
noncomputable abbrev dfaDict (h1 h2 : Int) (t1 t2 : Tok) (vr vt : Value) (n : Nat) : Obj := dictOf [⟨h1, .str (Str.ofString "rows") t1, vr⟩, ⟨h2, .str (Str.ofString "tags") t2, vt⟩] n
mutual
inductive Rep (z : Heap) : Value → AV → Prop
  | int (i : Int) (t : Tok) : Rep z (.int i t) (.int i)
  | bool (b : Bool) : Rep z (.bool b) (.bool b)
  | none : Rep z .none .none
  | list {a : Addr} {vs : List Value} {n : Nat} {xs : List AV} : z.get? a = some (lstO vs n) → Reps z vs xs → Rep z (.ref a) (.list xs)
  | tup {a : Addr} {vs : List Value} {xs : List AV} : IsTup z a vs.toArray → Reps z vs xs → Rep z (.ref a) (.tup xs)
  | rng {r : Addr} {a b : Int} {t u v : Tok} : IsRange z r a b 1 t u v → Rep z (.ref r) (.rng a b)
  | dfa {x d : Addr} {h1 h2 : Int} {t1 t2 : Tok} {vr vt : Value} {n : Nat} {ar at' : AV} : z.get? x = some (instObj cDfa d) → z.get? d = some (dfaDict h1 h2 t1 t2 vr vt n) → Rep z vr ar → Rep z vt at' → Rep z (.ref x) (.dfa ar at')
  | val (v : Value) : Rep z v (.val v)
inductive Reps (z : Heap) : List Value → List AV → Prop
  | nil : Reps z [] []
  | cons {v : Value} {a : AV} {vs : List Value} {xs : List AV} : Rep z v a → Reps z vs xs → Reps z (v :: vs) (a :: xs)
end
theorem isList_of {z : Heap} {a : Addr} {vs : List Value} {n : Nat} (e : z.get? a = some (lstO vs n)) : z.IsList a vs.toArray := ⟨_, e, rfl, n, rfl⟩
theorem isList_le {z z' : Heap} {a : Addr} {xs : Array Value} (x : Le z z') (e : z.IsList a xs) : z'.IsList a xs := e.at fun o q => x _ o q
theorem Rep.le {z z' : Heap} (x : Le z z') {v : Value} {a : AV} (h : Rep z v a) : Rep z' v a :=
  h.rec (motive_1 := fun v a _ => Rep z' v a) (motive_2 := fun vs xs _ => Reps z' vs xs) (fun i t => .int i t) (fun b => .bool b) .none (fun e _ r => .list (x _ _ e) r) (fun e _ r => .tup (e.keeps x) r) (fun e => .rng (x _ _ e))
    (fun e f _ _ r q => .dfa (x _ _ e) (x _ _ f) r q) (fun v => .val v) .nil fun _ _ h t => .cons h t
theorem Reps.cons_inv {z : Heap} {v : Value} {vs : List Value} {a : AV} {xs : List AV} (h : Reps z (v :: vs) (a :: xs)) : Rep z v a ∧ Reps z vs xs := by cases h; exact ⟨‹_›, ‹_›⟩
theorem Reps.ind {z : Heap} {P : List Value → List AV → Prop} (hn : P [] []) (hc : ∀ {v a vs xs}, Rep z v a → Reps z vs xs → P vs xs → P (v :: vs) (a :: xs)) {vs : List Value} {xs : List AV} (h : Reps z vs xs) : P vs xs := by
  induction vs generalizing xs with
  | nil => cases xs with
    | nil => exact hn
    | cons a xs => cases h
  | cons v vs ih => cases xs with
    | nil => cases h
    | cons a xs => exact hc h.cons_inv.1 h.cons_inv.2 (ih h.cons_inv.2)
theorem Reps.le {z z' : Heap} (x : Le z z') {vs : List Value} {xs : List AV} (h : Reps z vs xs) : Reps z' vs xs := h.ind (P := fun vs xs => Reps z' vs xs) .nil fun h _ t => .cons (h.le x) t
theorem Reps.length {z : Heap} {vs : List Value} {xs : List AV} (h : Reps z vs xs) : vs.length = xs.length := h.ind (P := fun vs xs => vs.length = xs.length) rfl fun _ _ e => congrArg (· + 1) e
theorem Reps.append {z : Heap} {vs ws : List Value} {xs ys : List AV} (h : Reps z vs xs) (t : Reps z ws ys) : Reps z (vs ++ ws) (xs ++ ys) := h.ind (P := fun vs xs => Reps z (vs ++ ws) (xs ++ ys)) t fun h _ e => .cons h e
theorem Reps.get {z : Heap} {vs : List Value} {xs : List AV} (h : Reps z vs xs) : ∀ {i : Nat} {a : AV}, xs[i]? = some a → ∃ v, vs[i]? = some v ∧ Rep z v a :=
  h.ind (P := fun vs xs => ∀ {i : Nat} {a : AV}, xs[i]? = some a → ∃ v, vs[i]? = some v ∧ Rep z v a) (fun e => nomatch e) fun h _ ih i a e => match i with
    | 0 => ⟨_, rfl, Option.some.inj e ▸ h⟩
    | _ + 1 => ih e
theorem Reps.get' {z : Heap} {vs : List Value} {xs : List AV} (h : Reps z vs xs) : ∀ {i : Nat} {v : Value}, vs[i]? = some v → ∃ a, xs[i]? = some a ∧ Rep z v a :=
  h.ind (P := fun vs xs => ∀ {i : Nat} {v : Value}, vs[i]? = some v → ∃ a, xs[i]? = some a ∧ Rep z v a) (fun e => nomatch e) fun h _ ih i v e => match i with
    | 0 => ⟨_, rfl, Option.some.inj e ▸ h⟩
    | _ + 1 => ih e
theorem Reps.take {z : Heap} {vs : List Value} {xs : List AV} (h : Reps z vs xs) : ∀ k, Reps z (vs.take k) (xs.take k) :=
  h.ind (P := fun vs xs => ∀ k, Reps z (vs.take k) (xs.take k)) (fun k => by rw [List.take_nil, List.take_nil]; exact .nil) fun h _ ih k => match k with
    | 0 => .nil
    | k + 1 => .cons h (ih k)
theorem Reps.drop {z : Heap} {vs : List Value} {xs : List AV} (h : Reps z vs xs) : ∀ k, Reps z (vs.drop k) (xs.drop k) :=
  h.ind (P := fun vs xs => ∀ k, Reps z (vs.drop k) (xs.drop k)) (fun k => by rw [List.drop_nil, List.drop_nil]; exact .nil) fun h t ih k => match k with
    | 0 => .cons h t
    | k + 1 => ih k
theorem Reps.set {z : Heap} {vs : List Value} {xs : List AV} (h : Reps z vs xs) : ∀ (k : Nat) {v : Value} {a : AV}, Rep z v a → Reps z (vs.set k v) (xs.set k a) :=
  h.ind (P := fun vs xs => ∀ (k : Nat) {v : Value} {a : AV}, Rep z v a → Reps z (vs.set k v) (xs.set k a)) (fun _ _ _ _ => .nil) fun h t ih k _ _ r => match k with
    | 0 => .cons r t
    | k + 1 => .cons h (ih k r)
theorem Reps.replicate {z : Heap} {v : Value} {a : AV} (h : Rep z v a) (n : Nat) : Reps z (List.replicate n v) (List.replicate n a) := by
  induction n with
  | zero => exact .nil
  | succ n ih => exact .cons h ih
inductive RepL (z : Heap) (v : Value) (xs : List AV) : Prop
  | mk (a : Addr) (vs : List Value) (n : Nat) (ev : v = .ref a) (e : z.get? a = some (lstO vs n)) (r : Reps z vs xs)
inductive RepT (z : Heap) (v : Value) (xs : List AV) : Prop
  | mk (a : Addr) (vs : List Value) (ev : v = .ref a) (e : IsTup z a vs.toArray) (r : Reps z vs xs)
inductive RepsC (z : Heap) (vs : List Value) (a : AV) (xs : List AV) : Prop
  | mk (v : Value) (us : List Value) (ev : vs = v :: us) (h : Rep z v a) (t : Reps z us xs)
theorem Rep.lst {z : Heap} {v : Value} {xs : List AV} (h : Rep z v (.list xs)) : RepL z v xs := by cases h; exact ⟨_, _, _, rfl, ‹_›, ‹_›⟩
theorem Rep.tp {z : Heap} {v : Value} {xs : List AV} (h : Rep z v (.tup xs)) : RepT z v xs := by cases h; exact ⟨_, _, rfl, ‹_›, ‹_›⟩
theorem Reps.cns {z : Heap} {vs : List Value} {a : AV} {xs : List AV} (h : Reps z vs (a :: xs)) : RepsC z vs a xs := by cases h; exact ⟨_, _, rfl, ‹_›, ‹_›⟩
theorem Reps.nl {z : Heap} {vs : List Value} (h : Reps z vs []) : vs = [] := by cases h; rfl
theorem Rep.int_inv {z : Heap} {v : Value} {i : Int} (h : Rep z v (.int i)) : ∃ t, v = .int i t := by cases h; exact ⟨_, rfl⟩
theorem Rep.bool_inv {z : Heap} {v : Value} {i : Bool} (h : Rep z v (.bool i)) : v = .bool i := by cases h; rfl
theorem Rep.none_inv {z : Heap} {v : Value} (h : Rep z v .none) : v = .none := by cases h; rfl
theorem Rep.val_inv {z : Heap} {v u : Value} (h : Rep z v (.val u)) : v = u := by cases h; rfl

noncomputable abbrev ThenQ (prog : Program) (w : World) (A : Around) (rest : List Stmt) (env : Env) (Q : Flow → Shared → Prop) (E : Value → Shared → Prop) (f : Flow) (s' : Shared) : Prop :=
  match f with | .next => wpAny (model prog w) A (execs rest env) Q E s' | f => Q f s'
theorem ex_cons {prog : Program} {w : World} {A : Around} {st : Stmt} {rest : List Stmt} {env : Env} {Q : Flow → Shared → Prop} {E : Value → Shared → Prop} {s : Shared} (h : wpAny (model prog w) A (exec st env) (ThenQ prog w A rest env Q E) E s) : wpAny (model prog w) A (execs (st :: rest) env) Q E s := wpAny_execs_cons h
/-- the facts of the heap at which the law is called -/
structure Base (w : World) (b : Heap) : Prop where
  K : (KK w).In b
  top : ∃ p loose mg mb, TopRead p loose mg mb b
theorem Base.nolimit {w : World} {b : Heap} (B : Base w b) : b.NoLimit := let ⟨_, _, _, _, T⟩ := B.top; T.nolimit

/-- what a global name says -/
noncomputable def GV (w : World) (x : Str) (v : Value) : Prop := nsIn (KK w) mainGlobals x = some (some v) ∨ (nsIn (KK w) mainGlobals x = some none ∧ bootBuiltins x = some v ∧ x ≠ "__name__")

noncomputable abbrev Sig := List (Str × AV)
structure EnvOK (w : World) (b : Heap) (ns : List (Str × NameKind)) (env : Env) (z h : Heap) (σ : Sig) : Prop where
  bz : Le b z
  zh : Le z h
  nm : env.scope.names = ns
  kd : env.scope.kind = .function
  gl : env.globals = mainGlobals
  bi : env.builtins = builtinsNs
  top : b.objs.size ≤ env.locals
  loc : ∃ ml, h.Ns env.locals ml ∧ ∀ x a, σ.lookup x = some a → ns.lookup x = some .local → ∃ v, ml x = some v ∧ Rep z v a
  cel : ∀ x a, σ.lookup x = some a → ns.lookup x = some .cell ∨ ns.lookup x = some .free → ∃ c v, env.cells.lookup x = some c ∧ h.IsCell c (some v) ∧ Rep z v a
  cov : ∀ x a, σ.lookup x = some a → ns.lookup x = some .local ∨ ns.lookup x = some .cell ∨ ns.lookup x = some .free

theorem EnvOK.le {w : World} {b : Heap} {ns : List (Str × NameKind)} {env : Env} {z h z' h' : Heap} {σ : Sig} (X : EnvOK w b ns env z h σ) (g : Grow z h z' h') : EnvOK w b ns env z' h' σ := by
  obtain ⟨ml, hn, hl⟩ := X.loc
  refine ⟨X.bz.trans g.zz, g.zh, X.nm, X.kd, X.gl, X.bi, X.top, ⟨ml, hn.keeps g.hh, fun x a e k => ?_⟩, fun x a e k => ?_, X.cov⟩
  · obtain ⟨v, e1, e2⟩ := hl x a e k; exact ⟨v, e1, e2.le g.zz⟩
  · obtain ⟨c, v, e1, e2, e3⟩ := X.cel x a e k; exact ⟨c, v, e1, e2.keeps g.hh, e3.le g.zz⟩
theorem EnvOK.weak {w : World} {b : Heap} {ns : List (Str × NameKind)} {env : Env} {z h : Heap} {σ τ : Sig} (X : EnvOK w b ns env z h σ) (hs : ∀ x a, τ.lookup x = some a → σ.lookup x = some a) : EnvOK w b ns env z h τ := by
  obtain ⟨ml, hn, hl⟩ := X.loc
  exact ⟨X.bz, X.zh, X.nm, X.kd, X.gl, X.bi, X.top, ⟨ml, hn, fun x a e k => hl x a (hs x a e) k⟩, fun x a e k => X.cel x a (hs x a e) k, fun x a e => X.cov x a (hs x a e)⟩

structure Room (A : Around) (k : Nat) : Prop where
  hand : A.handled = none
  dep : A.depth + k < recursionLimit
  unit : A.units + 8 * k + 100 < cLine
theorem Room.less {A : Around} {k j : Nat} (R : Room A k) (h : j ≤ k) : Room A j := ⟨R.hand, by have := R.dep; lia, by have := R.unit; lia⟩
theorem Room.deeper {A : Around} {k : Nat} {env : Env} (R : Room A (k + 1)) : Room (A.deeper env) k :=
  ⟨R.hand, by have := R.dep; show A.depth + 1 + k < _; lia, by have := R.unit; show A.units + 3 + 8 * k + 100 < _; lia⟩

section
variable {prog : Program} {w : World} {b : Heap} {ns : List (Str × NameKind)} {σ : Sig}

theorem name_ {A : Around} {E : Value → Shared → Prop} {env : Env} {z : Heap} {s : Shared} {x : Str} {pos : Pos} {a : AV} {Q : Value → Shared → Prop} (X : EnvOK w b ns env z s.heap σ) (e : σ.lookup x = some a)
    (h : ∀ v, Rep z v a → Q v s) (hd : (x == ("__debug__" : Str)) = false := by decide) (hc : (x == ("__classdict__" : Str)) = false := by decide) : wpAny (model prog w) A (eval (.Name x pos) env) Q E s := by
  have hk : env.kindOf x = ns.lookup x := by unfold Env.kindOf; rw [X.nm]
  rcases X.cov x a e with k | k | k
  · obtain ⟨ml, hn, hl⟩ := X.loc
    obtain ⟨v, e1, e2⟩ := hl x a e k
    exact wpAny_Name (wpAny_loadName_local X.kd (hk.trans k) hn e1 (h v e2)) hd
  · obtain ⟨c, v, e1, e2, e3⟩ := X.cel x a e (.inl k)
    exact wpAny_Name (wpAny_loadName_cell X.kd (hk.trans k) e1 e2 (h v e3)) hd
  · obtain ⟨c, v, e1, e2, e3⟩ := X.cel x a e (.inr k)
    exact wpAny_Name (wpAny_loadName_free X.kd (hk.trans k) e1 e2 (h v e3) hc) hd
theorem global_ {A : Around} {E : Value → Shared → Prop} {env : Env} {z : Heap} {s : Shared} {x : Str} {pos : Pos} {v : Value} {Q : Value → Shared → Prop} (B : Base w b) (X : EnvOK w b ns env z s.heap σ) (k : ns.lookup x = some .globalImplicit)
    (e1 : GV w x v) (h : Q v s) (hd : (x == ("__debug__" : Str)) = false := by decide) : wpAny (model prog w) A (eval (.Name x pos) env) Q E s := by
  have hk : env.kindOf x = ns.lookup x := by unfold Env.kindOf; rw [X.nm]
  obtain ⟨p, loose, mg, mb, T⟩ := B.top
  have bh := X.bz.trans X.zh
  have hg : s.heap.Ns env.globals mg := by rw [X.gl]; exact T.g.keeps bh
  rcases e1 with q | ⟨q1, q2, q3⟩
  · exact Name_function_global X.kd (hk.trans k) (loadGlobal_global hg (mg_of B.K T.g q) h) hd
  · have hb : s.heap.Ns env.builtins mb := by rw [X.bi]; exact T.b.keeps bh
    exact Name_function_global X.kd (hk.trans k) (loadGlobal_builtin hg (mg_none_of B.K T.g q1) hb ((T.builtins x q3).trans q2) h) hd
end
end Mine
end
section
open PySem PySem.W PyProof.Rows PySem.Calls
namespace Mine
/-- some frame stands upon the heap of the call -/
noncomputable def HasFr (b h : Heap) : Prop := ∃ L m, Fr b L h m
theorem HasFr.le {b h h' : Heap} (F : HasFr b h) (l : Le h h') : HasFr b h' := let ⟨L, m, f⟩ := F; ⟨L, m, f.ns.keeps l, fun c o e => l _ _ (f.keep c o e), f.above⟩
theorem EnvOK.fr {w : World} {b : Heap} {ns : List (Str × NameKind)} {env : Env} {z h : Heap} {σ : Sig} (X : EnvOK w b ns env z h σ) : HasFr b h := let ⟨ml, hn, _⟩ := X.loc; ⟨env.locals, ml, hn, X.bz.trans X.zh, X.top⟩
section
variable (prog : Program) (w : World) (b : Heap) (k : Nat) (ns : List (Str × NameKind)) (σ : Sig)

/-- an expression gives a, making new objects alone -/
noncomputable def Ev (e : Expr) (a : AV) : Prop :=
  ∀ (env : Env) (z : Heap) (A : Around) (s : Shared) (Q E : Value → Shared → Prop), EnvOK w b ns env z s.heap σ → Room A k →
    (∀ v z' h' tk, Grow z s.heap z' h' → Rep z' v a → Q v (sh s h' tk)) → wpAny (model prog w) A (eval e env) Q E s
/-- a test is c -/
noncomputable def EvT (e : Expr) (c : Bool) : Prop :=
  ∀ (env : Env) (z : Heap) (A : Around) (s : Shared) (Q : Bool → Shared → Prop) (E : Value → Shared → Prop), EnvOK w b ns env z s.heap σ → Room A k →
    (∀ z' h' tk, Grow z s.heap z' h' → Q c (sh s h' tk)) → wpAny (model prog w) A (isTrue e env (eval e env)) Q E s
/-- a row of arguments -/
noncomputable def EvS (es : List Expr) (as : List AV) : Prop :=
  ∀ (env : Env) (z : Heap) (A : Around) (s : Shared) (pos : Pos) (Q : List Value → Shared → Prop) (E : Value → Shared → Prop), EnvOK w b ns env z s.heap σ → Room A k →
    (∀ vs z' h' tk, Grow z s.heap z' h' → Reps z' vs as → Q vs (sh s h' tk)) → wpAny (model prog w) A (spliced (backTo pos (starEach es env))) Q E s
/-- an expression that gives a new list -/
noncomputable def EvL (e : Expr) (xs : List AV) : Prop :=
  ∀ (env : Env) (z : Heap) (A : Around) (s : Shared) (Q E : Value → Shared → Prop), EnvOK w b ns env z s.heap σ → Room A k →
    (∀ l vs n z' h' tk, Grow z s.heap z' h' → s.heap.get? l = none → z'.get? l = none → h'.get? l = some (lstO vs n) → Reps z' vs xs → Q (.ref l) (sh s h' tk)) →
    wpAny (model prog w) A (eval e env) Q E s
noncomputable def BinR (op : Operator) (a c r : AV) : Prop :=
  ∀ (z : Heap) (A : Around) (s : Shared) (Q E : Value → Shared → Prop) (va vc : Value), HasFr b s.heap → Le z s.heap → Room A k → Rep z va a → Rep z vc c →
    (∀ v z' h' tk, Grow z s.heap z' h' → Rep z' v r → Q v (sh s h' tk)) → wpAny (model prog w) A (binaryOp op va vc) Q E s
noncomputable def CmpR (op : CmpOp) (a c : AV) (r : Bool) : Prop :=
  ∀ (z : Heap) (A : Around) (s : Shared) (Q E : Value → Shared → Prop) (va vc : Value), HasFr b s.heap → Le z s.heap → Room A k → Rep z va a → Rep z vc c →
    (∀ h' tk, Le s.heap h' → Q (.bool r) (sh s h' tk)) → wpAny (model prog w) A (compareOp op va vc) Q E s
/-- a call of f upon args gives r, making new objects alone -/
noncomputable def FnR (f : Value) (as : List AV) (r : AV) : Prop :=
  ∀ (z : Heap) (A : Around) (s : Shared) (Q E : Value → Shared → Prop) (vs : List Value), HasFr b s.heap → Le b z → Le z s.heap → Room A k → Reps z vs as →
    (∀ v z' h' tk, Grow z s.heap z' h' → Rep z' v r → Q v (sh s h' tk)) → wpAny (model prog w) A (call f vs) Q E s
noncomputable def FnL (f : Value) (as : List AV) (xs : List AV) : Prop :=
  ∀ (z : Heap) (A : Around) (s : Shared) (Q E : Value → Shared → Prop) (vs : List Value), HasFr b s.heap → Le b z → Le z s.heap → Room A k → Reps z vs as →
    (∀ l vs n z' h' tk, Grow z s.heap z' h' → s.heap.get? l = none → z'.get? l = none → h'.get? l = some (lstO vs n) → Reps z' vs xs → Q (.ref l) (sh s h' tk)) → wpAny (model prog w) A (call f vs) Q E s
end

noncomputable def Callable (w : World) (f : Value) : Prop := (∃ id, f = .builtin id) ∨ (∃ T, f = .type T) ∨ keepIn (KK w) f = true

section
variable {prog : Program} {w : World} {b : Heap} {k : Nat} {ns : List (Str × NameKind)} {σ : Sig}

theorem Ev.of_L {e : Expr} {xs : List AV} (H : EvL prog w b k ns σ e xs) : Ev prog w b k ns σ e (.list xs) := fun env z A s Q E X R h =>
  H env z A s Q E X R fun l vs n z' h' tk g n1 _ e1 r => by
    obtain ⟨z'', g', l', e2⟩ := g.add n1 e1
    exact h _ z'' h' tk g' (.list e2 (r.le l'))
theorem FnR.of_L {f : Value} {as xs : List AV} (H : FnL prog w b k f as xs) : FnR prog w b k f as (.list xs) := fun z A s Q E vs F X Y R r h =>
  H z A s Q E vs F X Y R r fun l vs n z' h' tk g n1 _ e1 r => by
    obtain ⟨z'', g', l', e2⟩ := g.add n1 e1
    exact h _ z'' h' tk g' (.list e2 (r.le l'))
theorem Ev.less {j : Nat} {e : Expr} {a : AV} (H : Ev prog w b j ns σ e a) (hj : j ≤ k) : Ev prog w b k ns σ e a := fun env z A s Q E X R h => H env z A s Q E X (R.less hj) h

theorem ev_int {i : Int} {kk : Nat} {pos : Pos} : Ev prog w b k ns σ (.Constant (.int i) kk pos) (.int i) := fun _ z _ s _ _ X _ h => wpAny_Constant_int (h _ z s.heap _ (Grow.refl X.zh) (.int _ _))
theorem ev_bool {c : Bool} {kk : Nat} {pos : Pos} : Ev prog w b k ns σ (.Constant (.bool c) kk pos) (.bool c) := fun _ z _ s _ _ X _ h => Constant_bool (h _ z s.heap s.toks (Grow.refl X.zh) (.bool _))
theorem ev_none {kk : Nat} {pos : Pos} : Ev prog w b k ns σ (.Constant .none kk pos) .none := fun _ z _ s _ _ X _ h => Constant_none (h _ z s.heap s.toks (Grow.refl X.zh) .none)
theorem ev_name {x : Str} {pos : Pos} {a : AV} (e : σ.lookup x = some a) (hd : (x == ("__debug__" : Str)) = false := by decide) (hc : (x == ("__classdict__" : Str)) = false := by decide) :
    Ev prog w b k ns σ (.Name x pos) a := fun _ z _ s _ _ X _ h => name_ X e (fun v r => h v z s.heap s.toks (Grow.refl X.zh) r) hd hc
theorem ev_glob (B : Base w b) {x : Str} {pos : Pos} {v : Value} {a : AV} (kx : ns.lookup x = some .globalImplicit) (g : GV w x v) (r : ∀ z, Rep z v a) (hd : (x == ("__debug__" : Str)) = false := by decide) :
    Ev prog w b k ns σ (.Name x pos) a := fun _ z _ s _ _ X _ h => global_ B X kx g (h v z s.heap s.toks (Grow.refl X.zh) (r z)) hd

theorem ev_bin {l r : Expr} {op : Operator} {pos : Pos} {a c d : AV} (hl : Ev prog w b k ns σ l a) (hr : Ev prog w b k ns σ r c) (ho : BinR prog w b k op a c d) : Ev prog w b k ns σ (.BinOp l op r pos) d :=
  fun env z A s Q E X R h => wpAny_BinOp (hl env z A s _ E X R fun v₁ z₁ h₁ tk₁ g₁ r₁ => hr env z₁ A _ _ E (X.le g₁) R fun v₂ z₂ h₂ tk₂ g₂ r₂ =>
    ho z₂ A _ Q E v₁ v₂ ((X.le g₁).le g₂).fr g₂.zh R (r₁.le g₂.zz) r₂ fun v z' h' tk g r => h v z' h' tk ((g₁.trans g₂).trans g) r)
theorem ev_neg {e : Expr} {pos : Pos} {i : Int} (H : Ev prog w b k ns σ e (.int i)) : Ev prog w b k ns σ (.UnaryOp .USub e pos) (.int (-i)) :=
  fun env z A s Q E X R h => UnaryOp_ (H env z A s _ E X R fun v z₁ h₁ tk₁ g₁ r₁ => by
    obtain ⟨t, rfl⟩ := r₁.int_inv
    exact PyProof.Rows.neg_int (h _ z₁ h₁ _ g₁ (.int _ _)))

theorem truthy_bool' {A : Around} {M : Model} {s : Shared} {c : Bool} {Q : Bool → Shared → Prop} {E : Value → Shared → Prop} (h : Q c s) : wpAny M A (truthy (.bool c)) Q E s := wpAny_truthy_bool h

theorem ev_cmp {l r : Expr} {op : CmpOp} {pos : Pos} {a c : AV} {d : Bool} (hl : Ev prog w b k ns σ l a) (hr : Ev prog w b k ns σ r c) (ho : CmpR prog w b k op a c d) (hm : behindInMarks op r = false := by with_unfolding_all rfl) :
    Ev prog w b k ns σ (.Compare l [op] [r] pos) (.bool d) :=
  fun env z A s Q E X R h => wpAny_Compare1 (hl env z A s _ E X R fun v₁ z₁ h₁ tk₁ g₁ r₁ => hr env z₁ A _ _ E (X.le g₁) R fun v₂ z₂ h₂ tk₂ g₂ r₂ =>
    ho z₂ A _ Q E v₁ v₂ ((X.le g₁).le g₂).fr g₂.zh R (r₁.le g₂.zz) r₂ fun h' tk l => h _ z₂ h' tk ((g₁.trans g₂).more l) (.bool _)) hm
theorem evt_cmp {l r : Expr} {op : CmpOp} {pos : Pos} {a c : AV} {d : Bool} (hl : Ev prog w b k ns σ l a) (hr : Ev prog w b k ns σ r c) (ho : CmpR prog w b k op a c d) (hm : behindInMarks op r = false := by with_unfolding_all rfl) :
    EvT prog w b k ns σ (.Compare l [op] [r] pos) d :=
  fun env z A s Q E X R h => wpAny_isTrue_Compare1 (hl env z A s _ E X R fun v₁ z₁ h₁ tk₁ g₁ r₁ => hr env z₁ A _ _ E (X.le g₁) R fun v₂ z₂ h₂ tk₂ g₂ r₂ =>
    ho z₂ A _ _ E v₁ v₂ ((X.le g₁).le g₂).fr g₂.zh R (r₁.le g₂.zz) r₂ fun h' tk l => wpAny_truthy_bool (h z₂ h' tk ((g₁.trans g₂).more l))) hm
theorem evt_bool {e : Expr} {c : Bool} (H : Ev prog w b k ns σ e (.bool c)) (he : ∀ env, isTrue e env (eval e env) = (do let v ← eval e env; standAt e.pos; holding [v] (truthy v)) := by intro _; rfl) : EvT prog w b k ns σ e c :=
  fun env z A s Q E X R h => isTrue_plain (H env z A s _ E X R fun v z' h' tk g r => by rw [r.bool_inv]; exact wpAny_truthy_bool (h z' h' tk g)) (he env)
theorem evt_not {e : Expr} {pos : Pos} {c : Bool} (H : EvT prog w b k ns σ e c) : EvT prog w b k ns σ (.UnaryOp .Not e pos) (!c) :=
  fun env z A s Q E X R h => isTrue_not (H env z A s _ E X R h)
theorem ev_not {e : Expr} {pos : Pos} {c : Bool} (H : Ev prog w b k ns σ e (.bool c)) : Ev prog w b k ns σ (.UnaryOp .Not e pos) (.bool !c) :=
  fun env z A s Q E X R h => UnaryOp_ (H env z A s _ E X R fun v z' h' tk g r => by rw [r.bool_inv]; exact not_of (wpAny_truthy_bool (h _ z' h' tk g (.bool _))))
theorem evt_or {e₁ e₂ : Expr} {pos : Pos} {c d : Bool} (H : EvT prog w b k ns σ e₁ c) (K : EvT prog w b k ns σ e₂ d) : EvT prog w b k ns σ (.BoolOp .Or [e₁, e₂] pos) (c || d) :=
  fun env z A s Q E X R h => isTrue_or (H env z A s _ E X R fun z' h' tk g => by
    cases c with
    | true => exact h z' h' tk g
    | false => exact isTrue_or (K env z' A _ _ E (X.le g) R fun z'' h'' tk' g' => by
        have := h z'' h'' tk' (g.trans g')
        cases d with
        | true => exact this
        | false => exact isTrue_or_nil this))
theorem ev_and {e₁ e₂ : Expr} {pos : Pos} {c d : Bool} (H : Ev prog w b k ns σ e₁ (.bool c)) (K : c = true → Ev prog w b k ns σ e₂ (.bool d)) : Ev prog w b k ns σ (.BoolOp .And [e₁, e₂] pos) (.bool (c && d)) :=
  fun env z A s Q E X R h => BoolOp_and (H env z A s _ E X R fun v z' h' tk g r => by
    rw [r.bool_inv]
    refine wpAny_truthy_bool ?_
    cases c with
    | false => exact h _ z' h' tk g (.bool _)
    | true => exact BoolOp_one (K rfl env z' A _ _ E (X.le g) R fun v z'' h'' tk' g' r' => h v z'' h'' tk' (g.trans g') r'))
theorem ev_ifexp {t e₁ e₂ : Expr} {pos : Pos} {c : Bool} {a d : AV} (H : EvT prog w b k ns σ t c) (H₁ : c = true → Ev prog w b k ns σ e₁ a) (H₂ : c = false → Ev prog w b k ns σ e₂ d) :
    Ev prog w b k ns σ (.IfExp t e₁ e₂ pos) (if c then a else d) :=
  fun env z A s Q E X R h => IfExp_ (H env z A s _ E X R fun z' h' tk g => by
    cases c with
    | true => exact H₁ rfl env z' A _ _ E (X.le g) R fun v z'' h'' tk' g' r => h v z'' h'' tk' (g.trans g') r
    | false => exact H₂ rfl env z' A _ _ E (X.le g) R fun v z'' h'' tk' g' r => h v z'' h'' tk' (g.trans g') r)

theorem evs_nil : EvS prog w b k ns σ [] [] := fun _ z _ s _ _ _ X _ h => args_nil (h [] z s.heap s.toks (Grow.refl X.zh) .nil)
theorem evs_cons {e : Expr} {es : List Expr} {a : AV} {as : List AV} (H : Ev prog w b k ns σ e a) (K : EvS prog w b k ns σ es as) (he : ∀ env, starEach (e :: es) env = (false, eval e env) :: starEach es env := by intro _; rfl) :
    EvS prog w b k ns σ (e :: es) (a :: as) := fun env z A s pos Q E X R h => args_cons (H env z A s _ E X R fun v z' h' tk g r => K env z' A _ pos _ E (X.le g) R fun vs z'' h'' tk' g' r' =>
      h (v :: vs) z'' h'' tk' (g.trans g') (.cons (r.le g'.zz) r')) (he env)

theorem Callable.call {A : Around} {E : Value → Shared → Prop} {f : Value} {e : Expr} {es : List Expr} {env : Env} {pos : Pos} {s : Shared} {Q : Value → Shared → Prop} (B : Base w b) (hf : Callable w f)
    (h : wpAny (model prog w) A (spliced (backTo pos (starEach (e :: es) env))) (fun vs s₁ => Le b s₁.heap ∧ wpAny (model prog w) A (call f vs) Q E s₁) E s)
    (he : starEach (e :: es) env = (false, eval e env) :: starEach es env) (hp : (backTo pos (starEach es env)).any (·.1) = false) :
    wpAny (model prog w) A (callWith pos f [] (backTo pos (starEach (e :: es) env)) []) Q E s := by
  rcases hf with ⟨id, rfl⟩ | ⟨T, rfl⟩ | hk
  · exact callWith_builtin1 (wpAny_mono h (fun _ _ x => x.2) fun _ _ x => x) he hp
  · exact PyProof.Rows.callWith_type1 (wpAny_mono h (fun _ _ x => x.2) fun _ _ x => x) he hp
  · exact callWith_K B.K hk (wpAny_mono h (fun _ _ x => ⟨fun a o q => x.1 _ _ (B.K a o q), x.2⟩) fun _ _ x => x) he hp

theorem ev_call (B : Base w b) {fe e : Expr} {es : List Expr} {pos : Pos} {f : Value} {as : List AV} {r : AV} (hf : Ev prog w b k ns σ fe (.val f)) (hc : Callable w f) (ha : EvS prog w b k ns σ (e :: es) as) (H : FnR prog w b k f as r)
    (he : ∀ env, starEach (e :: es) env = (false, eval e env) :: starEach es env := by intro _; rfl) (hp : ∀ env, (backTo pos (starEach es env)).any (·.1) = false := by intro _; rfl)
    (hx : ∀ env, eval (.Call fe (e :: es) [] pos) env = (do callWith pos (← eval fe env) [] (backTo pos (starEach (e :: es) env)) (backToKw pos (keywordEach [] env))) := by intro _; rfl) :
    Ev prog w b k ns σ (.Call fe (e :: es) [] pos) r := fun env z A s Q E X R h => Call_ (hf env z A s _ E X R fun v z₁ h₁ tk₁ g₁ r₁ => by
      rw [r₁.val_inv]
      exact hc.call B (ha env z₁ A _ pos _ E (X.le g₁) R fun vs z₂ h₂ tk₂ g₂ r₂ => ⟨((X.bz.trans g₁.zz).trans g₂.zz).trans g₂.zh,
        H z₂ A _ Q E vs ((X.le g₁).le g₂).fr ((X.bz.trans g₁.zz).trans g₂.zz) g₂.zh R r₂ fun v z' h' tk g r => h v z' h' tk ((g₁.trans g₂).trans g) r⟩) (he env) (hp env)) (hx env)
theorem ev_callL (B : Base w b) {fe e : Expr} {es : List Expr} {pos : Pos} {f : Value} {as xs : List AV} (hf : Ev prog w b k ns σ fe (.val f)) (hc : Callable w f) (ha : EvS prog w b k ns σ (e :: es) as) (H : FnL prog w b k f as xs)
    (he : ∀ env, starEach (e :: es) env = (false, eval e env) :: starEach es env := by intro _; rfl) (hp : ∀ env, (backTo pos (starEach es env)).any (·.1) = false := by intro _; rfl)
    (hx : ∀ env, eval (.Call fe (e :: es) [] pos) env = (do callWith pos (← eval fe env) [] (backTo pos (starEach (e :: es) env)) (backToKw pos (keywordEach [] env))) := by intro _; rfl) :
    EvL prog w b k ns σ (.Call fe (e :: es) [] pos) xs := fun env z A s Q E X R h => Call_ (hf env z A s _ E X R fun v z₁ h₁ tk₁ g₁ r₁ => by
      rw [r₁.val_inv]
      exact hc.call B (ha env z₁ A _ pos _ E (X.le g₁) R fun vs z₂ h₂ tk₂ g₂ r₂ => ⟨((X.bz.trans g₁.zz).trans g₂.zz).trans g₂.zh,
        H z₂ A _ Q E vs ((X.le g₁).le g₂).fr ((X.bz.trans g₁.zz).trans g₂.zz) g₂.zh R r₂ fun l vs n z' h' tk g e1 e2 e3 r => h l vs n z' h' tk ((g₁.trans g₂).trans g) ((g₁.trans g₂).hh.none e1) e2 e3 r⟩) (he env) (hp env)) (hx env)

theorem ev_list {es : List Expr} {pos : Pos} {as : List AV} (H : EvS prog w b k ns σ es as) (hsz : as.length ≤ sizeLine := by decide) : EvL prog w b k ns σ (.List es pos) as := fun env z A s Q E X R h =>
  List_ (H env z A s pos _ E X R fun vs z' h' tk g r => wpAny_newObj_type (h h'.objs.size vs 0 z' _ tk (g.more (Le.rfl.push _)) (g.hh.none (get_fresh _ (Nat.le_refl _))) (g.zh.none (get_fresh _ (Nat.le_refl _))) (Heap.get?_push_size _ rfl) r)
    (by show vs.toArray.size ≤ sizeLine; rw [List.size_toArray, r.length]; exact hsz))
theorem ev_tuple {es : List Expr} {kk : Nat} {pos : Pos} {as : List AV} (H : EvS prog w b k ns σ es as) (hsz : as.length ≤ sizeLine := by decide) : Ev prog w b k ns σ (.Tuple es kk pos) (.tup as) := fun env z A s Q E X R h =>
  Tuple_ (H env z A s pos _ E X R fun vs z' h' tk g r => wpAny_newObj_type (by
    obtain ⟨z'', g', l', e2⟩ := (g.more (Le.rfl.push { cls := .type "tuple", data := .seq vs.toArray })).add (l := h'.objs.size) (g.hh.none (get_fresh _ (Nat.le_refl _))) (Heap.get?_push_size _ rfl)
    exact h _ z'' _ tk g' (.tup ⟨_, e2, rfl, 0, rfl⟩ (r.le l'))) (by show vs.toArray.size ≤ sizeLine; rw [List.size_toArray, r.length]; exact hsz))
end
end Mine
end
section
open PySem PySem.W PyProof.Rows PySem.Calls PySem.Spec PySem.SeqAt
namespace Mine
section
variable {prog : Program} {w : World} {b : Heap} {k : Nat} {ns : List (Str × NameKind)} {σ : Sig}

noncomputable abbrev avI (l : List Int) : List AV := l.map AV.int
noncomputable abbrev avB (l : List Bool) : List AV := l.map AV.bool
theorem Reps.intsAre {z : Heap} {vs : List Value} {l : List Int} (h : Reps z vs (avI l)) : IntsAre vs l := by
  induction l generalizing vs with
  | nil => cases vs with
    | nil => exact .nil
    | cons v vs => cases h
  | cons i l ih => cases vs with
    | nil => cases h
    | cons v vs =>
      obtain ⟨h, t⟩ := h.cons_inv
      obtain ⟨u, rfl⟩ := h.int_inv
      exact .cons i u (ih t)
theorem Reps.of_ints {z : Heap} {vs : List Value} {l : List Int} (h : IntsAre vs l) : Reps z vs (avI l) := by
  induction h with
  | nil => exact .nil
  | cons i u t ih => exact .cons (.int i u) ih
theorem Reps.boolsAre {z : Heap} {vs : List Value} {l : List Bool} (h : Reps z vs (avB l)) : vs = l.map Value.bool := by
  induction l generalizing vs with
  | nil => cases vs with
    | nil => rfl
    | cons v vs => cases h
  | cons i l ih => cases vs with
    | nil => cases h
    | cons v vs => rw [h.cons_inv.1.bool_inv, ih h.cons_inv.2]; rfl
theorem Reps.of_bools {z : Heap} (l : List Bool) : Reps z (l.map Value.bool) (avB l) := by
  induction l with
  | nil => exact .nil
  | cons c t ih => exact .cons (.bool c) ih

theorem bin_add {x y : Int} : BinR prog w b k .Add (.int x) (.int y) (.int (x + y)) := fun z A s Q E va vc F l R h₁ h₂ h => by obtain ⟨t, rfl⟩ := h₁.int_inv; obtain ⟨u, rfl⟩ := h₂.int_inv; exact PyProof.Rows.add_int (h _ z s.heap _ (Grow.refl l) (.int _ _))
theorem bin_sub {x y : Int} : BinR prog w b k .Sub (.int x) (.int y) (.int (x - y)) := fun z A s Q E va vc F l R h₁ h₂ h => by obtain ⟨t, rfl⟩ := h₁.int_inv; obtain ⟨u, rfl⟩ := h₂.int_inv; exact PyProof.Rows.sub_int (h _ z s.heap _ (Grow.refl l) (.int _ _))
theorem bin_mul {x y : Int} (hm : IntMulOk x y) : BinR prog w b k .Mult (.int x) (.int y) (.int (x * y)) := fun z A s Q E va vc F l R h₁ h₂ h => by obtain ⟨t, rfl⟩ := h₁.int_inv; obtain ⟨u, rfl⟩ := h₂.int_inv; exact PyProof.Rows.mul_int (h _ z s.heap _ (Grow.refl l) (.int _ _)) hm
theorem bin_fdiv {x y : Int} (hy : y ≠ 0) (hs : y.natAbs < 1073741824) : BinR prog w b k .FloorDiv (.int x) (.int y) (.int (x.fdiv y)) := fun z A s Q E va vc F l R h₁ h₂ h => by
  obtain ⟨t, rfl⟩ := h₁.int_inv; obtain ⟨u, rfl⟩ := h₂.int_inv; exact floordiv_int hy (h _ z s.heap _ (Grow.refl l) (.int _ _)) (Or.inl (PyProof.noPylong_small hs))
theorem bin_mod {x y : Int} (hy : y ≠ 0) : BinR prog w b k .Mod (.int x) (.int y) (.int (x.fmod y)) := fun z A s Q E va vc F l R h₁ h₂ h => by obtain ⟨t, rfl⟩ := h₁.int_inv; obtain ⟨u, rfl⟩ := h₂.int_inv; exact mod_int' hy (h _ z s.heap _ (Grow.refl l) (.int _ _))
theorem bin_pow {x n : Int} (hn : 0 ≤ n) (hsz : (Builtin.Int.intBits x : Int) * n ≤ 2 ^ 27) : BinR prog w b k .Pow (.int x) (.int n) (.int (x ^ n.toNat)) := fun z A s Q E va vc F l R h₁ h₂ h => by
  obtain ⟨t, rfl⟩ := h₁.int_inv; obtain ⟨u, rfl⟩ := h₂.int_inv; exact pow_int hn hsz (h _ z s.heap _ (Grow.refl l) (.int _ _))

theorem cmp_lt {x y : Int} : CmpR prog w b k .Lt (.int x) (.int y) (decide (x < y)) := fun z A s Q E va vc F l R h₁ h₂ h => by obtain ⟨t, rfl⟩ := h₁.int_inv; obtain ⟨u, rfl⟩ := h₂.int_inv; exact PyProof.Rows.lt_int (h s.heap s.toks Le.rfl)
theorem cmp_gt {x y : Int} : CmpR prog w b k .Gt (.int x) (.int y) (decide (y < x)) := fun z A s Q E va vc F l R h₁ h₂ h => by obtain ⟨t, rfl⟩ := h₁.int_inv; obtain ⟨u, rfl⟩ := h₂.int_inv; exact PyProof.Rows.gt_int (h s.heap s.toks Le.rfl)
theorem cmp_ge {x y : Int} : CmpR prog w b k .GtE (.int x) (.int y) (decide (y ≤ x)) := fun z A s Q E va vc F l R h₁ h₂ h => by obtain ⟨t, rfl⟩ := h₁.int_inv; obtain ⟨u, rfl⟩ := h₂.int_inv; exact PyProof.Rows.ge_int (h s.heap s.toks Le.rfl)
theorem cmp_eq {x y : Int} : CmpR prog w b k .Eq (.int x) (.int y) (x == y) := fun z A s Q E va vc F l R h₁ h₂ h => by obtain ⟨t, rfl⟩ := h₁.int_inv; obtain ⟨u, rfl⟩ := h₂.int_inv; exact PyProof.Rows.eq_int (h s.heap s.toks Le.rfl)
theorem cmp_ne {x y : Int} : CmpR prog w b k .NotEq (.int x) (.int y) (x != y) := fun z A s Q E va vc F l R h₁ h₂ h => by obtain ⟨t, rfl⟩ := h₁.int_inv; obtain ⟨u, rfl⟩ := h₂.int_inv; exact PyProof.Rows.ne_int (h s.heap s.toks Le.rfl)
theorem cmp_ne_bool {x y : Bool} : CmpR prog w b k .NotEq (.bool x) (.bool y) (x != y) := fun z A s Q E va vc F l R h₁ h₂ h => by
  rw [h₁.bool_inv, h₂.bool_inv]; exact PyProof.Rows.ne_bool (h s.heap s.toks Le.rfl)
theorem cmp_none {c : Bool} {a : AV} (ha : (a = .none ∧ c = true) ∨ ((∃ xs, a = .list xs) ∧ c = false)) : CmpR prog w b k .Is a .none c := fun z A s Q E va vc F l R h₁ h₂ h => by
  rw [h₂.none_inv]
  refine is_none ?_
  rcases ha with ⟨rfl, rfl⟩ | ⟨⟨xs, rfl⟩, rfl⟩
  · rw [h₁.none_inv]; exact h s.heap s.toks Le.rfl
  · cases h₁; exact h s.heap s.toks Le.rfl
theorem cmp_in {x : Int} {l : List Int} : CmpR prog w b k .In (.int x) (.list (avI l)) (l.any (· == x)) := fun z A s Q E va vc F lz R h₁ h₂ h => by
  obtain ⟨t, rfl⟩ := h₁.int_inv
  obtain ⟨_, _, _, rfl, e, r⟩ := h₂.lst; exact in_list_ints (isList_of (lz _ _ e)) r.intsAre (h s.heap s.toks Le.rfl)
theorem cmp_ne_ints {l l' : List Int} : CmpR prog w b k .NotEq (.list (avI l)) (.list (avI l')) (!decide (l = l')) := fun z A s Q E va vc F lz R h₁ h₂ h => by
  obtain ⟨_, _, _, rfl, e, r⟩ := h₁.lst; obtain ⟨_, _, _, rfl, e', r'⟩ := h₂.lst; exact ne_intsK (isList_of (lz _ _ e)) r.intsAre (isList_of (lz _ _ e')) r'.intsAre (by have := R.unit; lia) (h s.heap s.toks Le.rfl)
theorem cmp_ne_tup {l l' : List Int} : CmpR prog w b k .NotEq (.tup (avI l)) (.tup (avI l')) (!decide (l = l')) := fun z A s Q E va vc F lz R h₁ h₂ h => by
  have rd : ∀ {v : Value} {l : List Int}, Rep z v (.tup (avI l)) → ∃ as, Reads s.heap v (.tuple (l.map PyData.int)) as := fun r => by
    replace r := r.tp; obtain ⟨_, _, rfl, e, r⟩ := r; obtain ⟨o, ho, hc, n, hd⟩ := e; exact ⟨_, Reads.tuple (lz _ _ ho) hc hd (by simpa using readsAll_of_ints r.intsAre)⟩
  have sh : ∀ l : List Int, shaped (.tuple (l.map PyData.int)) = true := fun l => by
    have h1 := PySem.W.depthAll_ints l
    have h2 : PyData.depth (.tuple (l.map PyData.int)) ≤ 64 := by simp only [PyData.depth]; lia
    show (PyData.canLay0 (.tuple (l.map PyData.int)) && decide (PyData.depth (.tuple (l.map PyData.int)) ≤ 64)) = true
    rw [Bool.and_eq_true]
    exact ⟨by simp only [PyData.canLay0]; exact canLayAll0_ints l, decide_eq_true h2⟩
  obtain ⟨as, r₁⟩ := rd h₁
  obtain ⟨bs, r₂⟩ := rd h₂
  exact ne_dataH_same r₁ r₂ (sh l) (sh l') (by have := R.unit; lia) (by simp only [noMix]; exact noMix_ints l l') (by simp only [PySem.Spec.same]; rw [same_ints]; exact h s.heap s.toks Le.rfl)

theorem evt_tup {e : Expr} {xs : List AV} (H : Ev prog w b k ns σ e (.tup xs)) (hsz : (xs.length : Int) < 2 ^ 63) (he : ∀ env, isTrue e env (eval e env) = (do let v ← eval e env; standAt e.pos; holding [v] (truthy v)) := by intro _; rfl) :
    EvT prog w b k ns σ e (!xs.isEmpty) := fun env z A s Q E X R h => isTrue_plain (H env z A s _ E X R fun v z' h' tk g r => by
  cases r with
  | @tup a vs xs' e r =>
    refine truthy_tuple (e.keeps g.zh) (by have := r.length; simp; lia) ?_
    have : (!vs.toArray.isEmpty) = !xs.isEmpty := by cases r <;> simp
    rw [this]; exact h z' h' _ g) (he env)
theorem evt_list {e : Expr} {xs : List AV} (H : Ev prog w b k ns σ e (.list xs)) (hsz : (xs.length : Int) < 2 ^ 63) (he : ∀ env, isTrue e env (eval e env) = (do let v ← eval e env; standAt e.pos; holding [v] (truthy v)) := by intro _; rfl) :
    EvT prog w b k ns σ e (!xs.isEmpty) := fun env z A s Q E X R h => isTrue_plain (H env z A s _ E X R fun v z' h' tk g r => by
  cases r with
  | @list a vs n xs' e r =>
    refine wpAny_truthy_list (isList_of (g.zh _ _ e)) (by have := r.length; simp; lia) ?_
    have : (!vs.toArray.isEmpty) = !xs.isEmpty := by cases r <;> simp
    rw [this]; exact h z' h' _ g) (he env)

theorem fn_len {xs : List AV} (hsz : (xs.length : Int) < 2 ^ 63) : FnR prog w b k (.builtin "len") [.list xs] (.int xs.length) := fun z A s Q E vs F bz l R r h => by
  replace r := r.cns; obtain ⟨_, _, rfl, r, t⟩ := r
  cases t.nl
  replace r := r.lst; obtain ⟨a, vs, n, rfl, e, r⟩ := r
  have hl := r.length
  refine len_list (isList_of (l _ _ e)) (by simp; lia) ?_
  have := h (.int xs.length (s.toks + 1)) z s.heap (s.toks + 1 + 1) (Grow.refl l) (.int _ _)
  simpa [hl] using this
theorem fn_range {n : Int} : FnR prog w b k (.type "range") [.int n] (.rng 0 n) := fun z A s Q E vs F bz l R r h => by
  replace r := r.cns; obtain ⟨_, _, rfl, r, t⟩ := r
  cases t
  obtain ⟨t, rfl⟩ := r.int_inv
  refine call_range_1 ?_
  obtain ⟨z'', g', l', e2⟩ := (Grow.step l (Le.rfl.push { cls := .type "range", data := .fields #[.int 0 s.toks, .int n t, .int 1 (s.toks + 1)] })).add (get_fresh s.heap (Nat.le_refl _)) (Heap.get?_push_size _ rfl)
  exact h _ z'' _ _ g' (.rng e2)
theorem fn_range2 {m n : Int} : FnR prog w b k (.type "range") [.int m, .int n] (.rng m n) := fun z A s Q E vs F bz l R r h => by
  replace r := r.cns; obtain ⟨_, _, rfl, r, t⟩ := r
  replace t := t.cns; obtain ⟨_, _, rfl, r', t⟩ := t
  cases t
  obtain ⟨t, rfl⟩ := r.int_inv
  obtain ⟨u, rfl⟩ := r'.int_inv
  refine call_range_2 ?_
  obtain ⟨z'', g', l', e2⟩ := (Grow.step l (Le.rfl.push { cls := .type "range", data := .fields #[.int m t, .int n u, .int 1 s.toks] })).add (get_fresh s.heap (Nat.le_refl _)) (Heap.get?_push_size _ rfl)
  exact h _ z'' _ _ g' (.rng e2)
theorem fn_sum {l : List Int} : FnR prog w b k (.builtin "sum") [.list (avI l)] (.int l.sum) := fun z A s Q E vs F bz lz R r h => by
  replace r := r.cns; obtain ⟨_, _, rfl, r, t⟩ := r
  cases t.nl
  replace r := r.lst; obtain ⟨a, vs, n, rfl, e, r⟩ := r
  have hi := r.intsAre
  obtain ⟨xs, hx⟩ := hi.allInts.items
  have hn : numsOf vs.toArray.toList = l := hi.numsOf
  have hl := isList_of (lz _ _ e)
  rw [hx] at hl
  rw [hx, nums_intItems] at hn
  refine sum_intListG R.hand hl fun h' tk t' hk => ?_
  have := h (.int l.sum t') z h' tk (Grow.step lz hk) (.int _ _)
  rw [preSum_eq, List.take_of_length_le (by simp), hn]
  exact this
theorem fn_abs {x : Int} : FnR prog w b k (.builtin "abs") [.int x] (.int (if x < 0 then -x else x)) := fun z A s Q E vs F bz l R r h => by
  replace r := r.cns; obtain ⟨_, _, rfl, r, t⟩ := r
  cases t
  obtain ⟨t, rfl⟩ := r.int_inv
  exact call_abs_int fun u tk => h _ z s.heap tk (Grow.refl l) (.int _ _)
theorem fn_int {x : Int} : FnR prog w b k (.type "int") [.int x] (.int x) := fun z A s Q E vs F bz l R r h => by
  replace r := r.cns; obtain ⟨_, _, rfl, r, t⟩ := r
  cases t
  obtain ⟨t, rfl⟩ := r.int_inv
  exact call_int_int (h _ z s.heap s.toks (Grow.refl l) (.int _ _))
theorem fn_list {xs : List AV} (hsz : xs.length ≤ sizeLine) : FnL prog w b k (.type "list") [.list xs] xs := fun z A s Q E vs F bz l R r h => by
  replace r := r.cns; obtain ⟨_, _, rfl, r, t⟩ := r
  cases t.nl
  replace r := r.lst; obtain ⟨a, vs, n, rfl, e, r⟩ := r
  have hl := r.length
  refine call_list_seq a (.inl rfl) (l _ _ e) rfl rfl (fun h' c' hk hn => h _ vs c' z h' s.toks (Grow.step l hk) (get_fresh _ (Nat.le_refl _)) ((l.none (get_fresh _ (Nat.le_refl _)))) hn r) (by simp; lia)
end
end Mine
end
section
open PySem PySem.W PyProof.Rows PySem.Calls PySem.Spec PySem.SeqAt
namespace Mine
section
variable {prog : Program} {w : World} {b : Heap} {k : Nat} {ns : List (Str × NameKind)} {σ : Sig}

theorem raw_lmul {A : Around} {E : Value → Shared → Prop} {s : Shared} {l : Addr} {v : Value} {c : Nat} {x : Int} {u : Tok} {Q : Value → Shared → Prop} (hl : s.heap.get? l = some (lstO [v] c)) (h0 : 0 ≤ x) (h1 : x ≤ 1000)
    (h : Q (.ref s.heap.objs.size) { s with heap := s.heap.push (lstO (List.replicate x.toNat v) 0) }) : wpAny (model prog w) A (binaryOp .Mult (.ref l) (.int x u)) Q E s := by
  refine wpAny_binaryOp_repeat_ref (T := "list") (U := "int") (by decide) ⟨_, hl, rfl⟩ (fun s' => typeIs_int s' x u) noFill_list_mul F.fills_int_mul F.slot_int_rmul repeat_list F.slot_int_index.lookup
    (call_meets F.slot_int_rmul (typeIs_int s x u) F.entry_int_rmul (F.args_int_rmul_2 _ _) (int___rmul___int_list x u l #[v] c)
      ⟨hl, rfl, ⟨_, hl, rfl⟩, call_meets F.slot_list_mul ⟨_, hl, rfl⟩ F.entry_list_mul (F.args_list_mul_2 _ _)
        (AutoListH.list___mul___list_int_3 l #[v] c x u (by simp [Builtin.List.listFitsIndex]; lia) (by rw [show (#[v] : Array Value).size = 1 from rfl]; lia) (by simp [Builtin.List.listTooLong, sizeLine]; lia))
        ⟨hl, ?_⟩⟩)
  have fr : ∀ (n : Nat) (acc : Array Value), List.foldl (fun x1 x2 => x1 ++ x2) acc (List.replicate n #[v]) = (acc.toList ++ List.replicate n v).toArray := by
    intro n
    induction n with
    | zero => intro acc; simp
    | succ n ih => intro acc; rw [List.replicate_succ, List.foldl_cons, ih]; simp [List.replicate_succ]
  have e := fr x.toNat #[]
  simp only [List.nil_append] at e
  show Q _ { s with heap := s.heap.push _ }
  have e2 : (List.foldl (fun x1 x2 => x1 ++ x2) (#[] : Array Value) (List.replicate (if (#[v] : Array Value).isEmpty = true then 0 else x.toNat) #[v])) = (List.replicate x.toNat v).toArray := e
  rw [e2]; exact h
theorem raw_ladd {A : Around} {E : Value → Shared → Prop} {s : Shared} {l r : Addr} {vs us : List Value} {c d : Nat} {Q : Value → Shared → Prop} (hl : s.heap.get? l = some (lstO vs c)) (hr : s.heap.get? r = some (lstO us d)) (hsz : vs.length + us.length ≤ sizeLine)
    (h : Q (.ref s.heap.objs.size) { s with heap := s.heap.push (lstO (vs ++ us) 0) }) : wpAny (model prog w) A (binaryOp .Add (.ref l) (.ref r)) Q E s := by
  have e : vs.toArray ++ us.toArray = (vs ++ us).toArray := by simp
  refine concat_meets ⟨_, hl, rfl⟩ ⟨_, hr, rfl⟩ noFill_list_add seq_list_add PySem.F.slot_list_add PySem.F.entry_list_add (PySem.F.args_list_add_2 _ _) (list_addW l r vs.toArray us.toArray c d none none #[] #[] (by simpa using hsz)) ⟨hl, hr, ?_⟩
  rw [e]; exact h

/-- [e] * n -/
theorem ev_lmul {e r : Expr} {lp pos : Pos} {a : AV} {n : Int} (hl : Ev prog w b k ns σ e a) (hr : Ev prog w b k ns σ r (.int n)) (h0 : 0 ≤ n) (h1 : n ≤ 1000)
    (he : ∀ env, starEach [e] env = [(false, eval e env)] := by intro _; rfl) : EvL prog w b k ns σ (.BinOp (.List [e] lp) .Mult r pos) (List.replicate n.toNat a) := by
  intro env z A s Q E X R h
  refine wpAny_BinOp (ev_list (evs_cons hl evs_nil he) (by show 1 ≤ sizeLine; decide) env z A s _ E X R ?_)
  intro l vs m z₁ h₁ tk₁ g₁ n1 n2 e1 r1
  refine hr env z₁ A _ _ E (X.le g₁) R fun v₂ z₂ h₂ tk₂ g₂ r₂ => ?_
  obtain ⟨u, rfl⟩ := r₂.int_inv
  obtain ⟨v, _, rfl, hv, t⟩ := r1.cns
  cases t
  refine raw_lmul (g₂.hh _ _ e1) h0 h1 ?_
  have g := g₁.trans g₂
  exact h h₂.objs.size (List.replicate n.toNat v) 0 z₂ _ tk₂ (g.more (Le.rfl.push _)) (g.hh.none (get_fresh _ (Nat.le_refl _))) (g.zh.none (get_fresh _ (Nat.le_refl _))) (Heap.get?_push_size _ rfl) (Reps.replicate (hv.le g₂.zz) _)
/-- xs + ys of lists -/
theorem ev_ladd {l r : Expr} {pos : Pos} {xs ys : List AV} (hl : Ev prog w b k ns σ l (.list xs)) (hr : Ev prog w b k ns σ r (.list ys)) (hsz : xs.length + ys.length ≤ sizeLine) : EvL prog w b k ns σ (.BinOp l .Add r pos) (xs ++ ys) := by
  intro env z A s Q E X R h
  refine wpAny_BinOp (hl env z A s _ E X R ?_)
  intro v₁ z₁ h₁ tk₁ g₁ r₁
  refine hr env z₁ A _ _ E (X.le g₁) R fun v₂ z₂ h₂ tk₂ g₂ r₂ => ?_
  replace r₁ := r₁.lst; obtain ⟨a, vs, n, rfl, e, r₁⟩ := r₁
  replace r₂ := r₂.lst; obtain ⟨a', vs', n', rfl, e', r₂⟩ := r₂
  refine raw_ladd (g₂.hh _ _ (g₁.zh _ _ e)) (g₂.zh _ _ e') (by rw [r₁.length, r₂.length]; exact hsz) ?_
  have g := g₁.trans g₂
  exact h h₂.objs.size (vs ++ vs') 0 z₂ _ tk₂ (g.more (Le.rfl.push _)) (g.hh.none (get_fresh _ (Nat.le_refl _))) (g.zh.none (get_fresh _ (Nat.le_refl _))) (Heap.get?_push_size _ rfl) ((r₁.le g₂.zz).append r₂)

/-- items -/
theorem ev_item {v i : Expr} {pos : Pos} {xs : List AV} {j : Int} {a : AV} (hv : Ev prog w b k ns σ v (.list xs)) (hi : Ev prog w b k ns σ i (.int j)) (h0 : 0 ≤ j) (h1 : j < 2 ^ 63) (hx : xs[j.toNat]? = some a)
    (hs : ∀ o t, subscripted i false o t = operate [o, t] (getItem o t) := by intro _ _; with_unfolding_all rfl) : Ev prog w b k ns σ (.Subscript v i pos) a := by
  intro env z A s Q E X R h
  refine Subscript_ (hv env z A s _ E X R fun v₁ z₁ h₁ tk₁ g₁ r₁ => hi env z₁ A _ _ E (X.le g₁) R fun v₂ z₂ h₂ tk₂ g₂ r₂ => ?_)
  obtain ⟨u, rfl⟩ := r₂.int_inv
  replace r₁ := r₁.lst; obtain ⟨l, vs, n, rfl, e, r₁⟩ := r₁
  obtain ⟨x, hx', rx⟩ := r₁.get hx
  have il : Heap.IsList h₂ l vs.toArray := isList_of (g₂.hh _ _ (g₁.zh _ _ e))
  exact tail_any il.typeIs slot_list_getitem.lookup (wpAny_getItem_list il h0 h1 (by simpa using hx') (h x z₂ h₂ tk₂ (g₁.trans g₂) (rx.le g₂.zz))) (hs _ _)
theorem ev_item_neg {v i : Expr} {pos : Pos} {xs : List AV} {j : Int} {a : AV} (hv : Ev prog w b k ns σ v (.list xs)) (hi : Ev prog w b k ns σ i (.int j)) (h0 : j < 0) (h1 : -(xs.length : Int) ≤ j) (hsz : xs.length < 2 ^ 62) (hx : xs[(j + xs.length).toNat]? = some a)
    (hs : ∀ o t, subscripted i false o t = operate [o, t] (getItem o t) := by intro _ _; with_unfolding_all rfl) : Ev prog w b k ns σ (.Subscript v i pos) a := by
  intro env z A s Q E X R h
  refine Subscript_ (hv env z A s _ E X R fun v₁ z₁ h₁ tk₁ g₁ r₁ => hi env z₁ A _ _ E (X.le g₁) R fun v₂ z₂ h₂ tk₂ g₂ r₂ => ?_)
  obtain ⟨u, rfl⟩ := r₂.int_inv
  replace r₁ := r₁.lst; obtain ⟨l, vs, n, rfl, e, r₁⟩ := r₁
  have hl := r₁.length
  obtain ⟨x, hx', rx⟩ := r₁.get hx
  have il : Heap.IsList h₂ l vs.toArray := isList_of (g₂.hh _ _ (g₁.zh _ _ e))
  refine tail_any il.typeIs slot_list_getitem.lookup ?_ (hs _ _)
  exact wpAny_getItem_list_neg il h0 (by simp; lia) (by lia) (by simp only [List.getElem?_toArray, List.size_toArray, hl]; exact hx') (h x z₂ h₂ tk₂ (g₁.trans g₂) (rx.le g₂.zz))
theorem ev_titem {v i : Expr} {pos : Pos} {xs : List AV} {j : Int} {a : AV} (hv : Ev prog w b k ns σ v (.tup xs)) (hi : Ev prog w b k ns σ i (.int j)) (h0 : 0 ≤ j) (h1 : j < xs.length) (h2 : j < 2 ^ 63) (hx : xs[j.toNat]? = some a)
    (hs : ∀ o t, subscripted i false o t = operate [o, t] (getItem o t) := by intro _ _; with_unfolding_all rfl) : Ev prog w b k ns σ (.Subscript v i pos) a := by
  intro env z A s Q E X R h
  refine Subscript_ (hv env z A s _ E X R fun v₁ z₁ h₁ tk₁ g₁ r₁ => hi env z₁ A _ _ E (X.le g₁) R fun v₂ z₂ h₂ tk₂ g₂ r₂ => ?_)
  obtain ⟨u, rfl⟩ := r₂.int_inv
  replace r₁ := r₁.tp; obtain ⟨l, vs, rfl, e, r₁⟩ := r₁
  obtain ⟨x, hx', rx⟩ := r₁.get hx
  have il : IsTup h₂ l vs.toArray := (e.keeps g₁.zh).keeps g₂.hh
  exact tail_any il.typeIs slot_tuple_getitem.lookup (getItem_tuple il (by lia) h2 (seqIndex_of h0 (by simp [r₁.length]; exact h1)) (by simpa using hx') (h x z₂ h₂ tk₂ (g₁.trans g₂) (rx.le g₂.zz))) (hs _ _)
/-- slices of a name: [:hi], [lo:hi] -/
theorem ev_upto {x : Str} {xp sp pos : Pos} {u : Expr} {xs : List AV} {j : Nat} (hv : Ev prog w b k ns σ (.Name x xp) (.list xs)) (hu : Ev prog w b k ns σ u (.int j)) (hj : j ≤ xs.length) (hsz : xs.length ≤ sizeLine) :
    EvL prog w b k ns σ (.Subscript (.Name x xp) (.Slice none (some u) none sp) pos) (xs.take j) := by
  intro env z A s Q E X R h
  refine wpAny_Subscript_list_slice (hv env z A s _ E X R fun v₁ z₁ h₁ tk₁ g₁ r₁ => ?_)
  rw [evalPart_none]
  refine wpAny_pure ?_
  rw [evalPart_some]
  refine hu env z₁ A _ _ E (X.le g₁) R fun v₂ z₂ h₂ tk₂ g₂ r₂ => ?_
  obtain ⟨t, rfl⟩ := r₂.int_inv
  replace r₁ := r₁.lst; obtain ⟨l, vs, n, rfl, e, r₁⟩ := r₁
  have hl := r₁.length
  have g := g₁.trans g₂
  refine ⟨l, vs.toArray, none, some (j : Int), rfl, isList_of (g₂.hh _ _ (g₁.zh _ _ e)), by simp; lia, .none, .int _ _, ?_⟩
  rw [slicePick_upto vs.toArray j (by simp; lia)]
  have hk : Le h₂ ((h₂.push { cls := .type "slice", data := .fields #[.none, .int j t, .none] }).push (lstO (vs.take j) 0)) := (Le.rfl.push _).push _
  have hs : (h₂.push { cls := .type "slice", data := .fields #[.none, .int j t, .none] }).objs.size = h₂.objs.size + 1 := Heap.size_push ..
  refine h (h₂.objs.size + 1) (vs.take j) 0 z₂ _ tk₂ (g.more hk) (g.hh.none (get_fresh _ (Nat.le_succ _))) (g.zh.none (get_fresh _ (Nat.le_succ _))) ?_ ((r₁.le g₂.zz).take j)
  rw [← hs]; exact Heap.get?_push_size _ rfl
theorem ev_slice {x : Str} {xp sp pos : Pos} {lo u : Expr} {xs : List AV} {i j : Nat} (hv : Ev prog w b k ns σ (.Name x xp) (.list xs)) (hlo : Ev prog w b k ns σ lo (.int i)) (hu : Ev prog w b k ns σ u (.int j)) (hij : i ≤ j) (hj : j ≤ xs.length) (hsz : xs.length ≤ sizeLine) :
    EvL prog w b k ns σ (.Subscript (.Name x xp) (.Slice (some lo) (some u) none sp) pos) ((xs.drop i).take (j - i)) := by
  intro env z A s Q E X R h
  refine wpAny_Subscript_list_slice (hv env z A s _ E X R fun v₁ z₁ h₁ tk₁ g₁ r₁ => ?_)
  rw [evalPart_some]
  refine hlo env z₁ A _ _ E (X.le g₁) R fun v₃ z₃ h₃ tk₃ g₃ r₃ => ?_
  rw [evalPart_some]
  refine hu env z₃ A _ _ E ((X.le g₁).le g₃) R fun v₂ z₂ h₂ tk₂ g₂ r₂ => ?_
  obtain ⟨t, rfl⟩ := r₂.int_inv
  obtain ⟨t₃, rfl⟩ := r₃.int_inv
  replace r₁ := r₁.lst; obtain ⟨l, vs, n, rfl, e, r₁⟩ := r₁
  have hl := r₁.length
  have g := (g₁.trans g₃).trans g₂
  refine ⟨l, vs.toArray, some (i : Int), some (j : Int), rfl, isList_of (g₂.hh _ _ (g₃.hh _ _ (g₁.zh _ _ e))), by simp; lia, .int _ _, .int _ _, ?_⟩
  rw [slicePick_run vs.toArray i j (by simp; lia) hij]
  have hk : Le h₂ ((h₂.push { cls := .type "slice", data := .fields #[.int i t₃, .int j t, .none] }).push (lstO ((vs.drop i).take (j - i)) 0)) := (Le.rfl.push _).push _
  have hs : (h₂.push { cls := .type "slice", data := .fields #[.int i t₃, .int j t, .none] }).objs.size = h₂.objs.size + 1 := Heap.size_push ..
  refine h (h₂.objs.size + 1) ((vs.drop i).take (j - i)) 0 z₂ _ tk₂ (g.more hk) (g.hh.none (get_fresh _ (Nat.le_succ _))) (g.zh.none (get_fresh _ (Nat.le_succ _))) ?_ ((((r₁.le g₃.zz).le g₂.zz).drop i).take (j - i))
  rw [← hs]; exact Heap.get?_push_size _ rfl
/-- xs.count(e) of ints -/
theorem ev_count {v e : Expr} {ap pos : Pos} {l : List Int} {x : Int} (hv : Ev prog w b k ns σ v (.list (avI l))) (he : Ev prog w b k ns σ e (.int x)) (hs : ∀ env, starEach [e] env = [(false, eval e env)] := by intro _; rfl)
    (hm : ∀ env, ∃ pl, eval (.Call (.Attribute v (Str.ofString "count") ap) [e] [] pos) env = (do
      let ov ← eval v env
      standAt ap.atName
      let (f, first) ← holding [ov] (getMethod ov (Str.ofString "count") pl)
      callWith pos f first (backTo pos (starEach [e] env)) []) := by intro _; exact ⟨_, rfl⟩) :
    Ev prog w b k ns σ (.Call (.Attribute v (Str.ofString "count") ap) [e] [] pos) (.int (l.count x : Nat)) := by
  intro env z A s Q E X R h
  obtain ⟨pl, hm⟩ := hm env
  refine MethodCall_ (pl := pl) (hv env z A s _ E X R fun v₁ z₁ h₁ tk₁ g₁ r₁ => ?_) hm
  replace r₁ := r₁.lst; obtain ⟨a, vs, n, rfl, e1, r₁⟩ := r₁
  refine getMethod_builtin (T := "list") ⟨_, g₁.zh _ _ e1, rfl⟩ PySem.F.plainAttrs_list PySem.F.slot_list_count PySem.F.type_list_count (fun c q => by cases q; exact ⟨_, g₁.zh _ _ e1, rfl⟩) ?_
  refine callWith_method1 (rest := []) (evs_cons he evs_nil hs env z₁ A _ pos _ E (X.le g₁) R fun ws z₂ h₂ tk₂ g₂ r₂ => ?_) (hs env) rfl
  replace r₂ := r₂.cns; obtain ⟨_, _, rfl, r₂, t⟩ := r₂
  cases t
  obtain ⟨u, rfl⟩ := r₂.int_inv
  exact count_list_ints (isList_of (g₂.hh _ _ (g₁.zh _ _ e1))) r₁.intsAre (h _ z₂ h₂ _ (g₁.trans g₂) (.int _ _))
end
end Mine
end
section
open PySem PySem.W PyProof.Rows PySem.Calls PySem.Spec PySem.SeqAt
namespace Mine

/-- what may be changed besides: a few objects, told by a state -/
structure Mut (T : Type) where
  M : Addr → Prop
  P : T → Heap → Prop
  ex : ∀ {t h c}, P t h → M c → ∃ o, h.get? c = some o
  st : ∀ {t h h'}, P t h → (∀ c o, M c → h.get? c = some o → h'.get? c = some o) → P t h'
noncomputable def noMut : Mut Unit := ⟨fun _ => False, fun _ _ => True, fun _ f => f.elim, fun _ _ => trivial⟩

structure GrowM {T : Type} (U : Mut T) (z h z' h' : Heap) : Prop where
  zz : Le z z'
  zh : Le z' h'
  hh : ∀ c o, ¬ U.M c → h.get? c = some o → h'.get? c = some o
  nw : ∀ c o, z'.get? c = some o → z.get? c = some o ∨ h.get? c = none
section
variable {T : Type} {U : Mut T} {z h z' h' z'' h'' : Heap}
theorem GrowM.of (g : Grow z h z' h') : GrowM U z h z' h' := ⟨g.zz, g.zh, fun c o _ e => g.hh c o e, g.nw⟩
theorem GrowM.no (g : GrowM noMut z h z' h') : Grow z h z' h' := ⟨g.zz, g.zh, fun c o e => g.hh c o (fun f => f) e, g.nw⟩
theorem GrowM.trans {t : T} (x : GrowM U z h z' h') (p : U.P t h') (y : GrowM U z' h' z'' h'') : GrowM U z h z'' h'' :=
  ⟨x.zz.trans y.zz, y.zh, fun c o m e => y.hh c o m (x.hh c o m e), fun c o e => (y.nw c o e).elim (x.nw c o) fun n => .inr (by
    cases q : h.get? c with
    | none => rfl
    | some o' => by_cases m : U.M c
                 · obtain ⟨o₂, e₂⟩ := U.ex p m; rw [n] at e₂; cases e₂
                 · have := x.hh c o' m q; rw [n] at this; cases this)⟩
theorem GrowM.off (x : GrowM U z h z' h') {c : Addr} {o : Obj} (e : h.get? c = some o) (n : z.get? c = none) : z'.get? c = none := by
  cases q : z'.get? c with
  | none => rfl
  | some o' => rcases x.nw c o' q with q' | q'
               · rw [n] at q'; cases q'
               · rw [e] at q'; cases q'
/-- a store upon an object that is new and not of the zone -/
theorem GrowM.upd (x : GrowM U z h z' h') {d : Addr} (hk : ∀ c o, c ≠ d → h'.get? c = some o → h''.get? c = some o) (n : h.get? d = none) (n' : z'.get? d = none) : GrowM U z h z' h'' :=
  ⟨x.zz, fun c o e => hk c o (fun q => by rw [q, n'] at e; cases e) (x.zh c o e), fun c o m e => hk c o (fun q => by rw [q, n] at e; cases e) (x.hh c o m e), x.nw⟩
end

structure Apart {T : Type} (U : Mut T) (env : Env) (z : Heap) : Prop where
  zo : ∀ c, U.M c → z.get? c = none
  lo : ¬ U.M env.locals
  ce : ∀ n c, env.cells.lookup n = some c → ¬ U.M c
theorem Apart.no {env : Env} {z : Heap} : Apart noMut env z := ⟨fun _ f => f.elim, fun f => f, fun _ _ _ f => f⟩

theorem EnvOK.leM {T : Type} {U : Mut T} {w : World} {b : Heap} {ns : List (Str × NameKind)} {env : Env} {z h z' h' : Heap} {σ : Sig} (X : EnvOK w b ns env z h σ) (a : Apart U env z) (g : GrowM U z h z' h') : EnvOK w b ns env z' h' σ := by
  obtain ⟨ml, hn, hl⟩ := X.loc
  refine ⟨X.bz.trans g.zz, g.zh, X.nm, X.kd, X.gl, X.bi, X.top, ⟨ml, hn.at' fun o e => g.hh _ o a.lo e, fun x a e k => ?_⟩, fun x a' e k => ?_, X.cov⟩
  · obtain ⟨v, e1, e2⟩ := hl x a e k; exact ⟨v, e1, e2.le g.zz⟩
  · obtain ⟨c, v, e1, ⟨o, e2, e3⟩, e4⟩ := X.cel x a' e k; exact ⟨c, v, e1, ⟨o, g.hh _ o (a.ce x c e1) e2, e3⟩, e4.le g.zz⟩
theorem Apart.le {T : Type} {U : Mut T} {env : Env} {z h z' h' : Heap} {t : T} (a : Apart U env z) (p : U.P t h) (g : GrowM U z h z' h') : Apart U env z' :=
  ⟨fun c m => let ⟨_, e⟩ := U.ex p m; g.off e (a.zo c m), a.lo, a.ce⟩

noncomputable abbrev tests (ifs : List Expr) (env : Env) : Sem Bool := forIn ifs true fun c r => if r = true then do let ok ← isTrue c env (eval c env); pure (ForInStep.yield ok) else pure (ForInStep.yield r)
inductive ElE {T : Type} (U : Mut T) (z₁ h₁ : Heap) (s : Shared) (t' : T) (Z : Heap → Heap → Prop) (s₂ : Shared) : Prop
  | mk (z₂ h₂ : Heap) (tk₂ : Nat) (es : s₂ = sh s h₂ tk₂) (g : GrowM U z₁ h₁ z₂ h₂) (p : U.P t' h₂) (y : Z z₂ h₂)
inductive ElEM {T : Type} (U : Mut T) (z₁ h₁ : Heap) (s : Shared) (t' : T) (r : Option AV) (y : Value) (s₂ : Shared) : Prop
  | mk (z₂ h₂ : Heap) (tk₂ : Nat) (a : AV) (es : s₂ = sh s h₂ tk₂) (g : GrowM U z₁ h₁ z₂ h₂) (p : U.P t' h₂) (hr : r = some a) (ry : Rep z₂ y a)
inductive YPost (prog : Program) (w : World) (A : Around) {T : Type} (U : Mut T) (elt : Expr) (env : Env) (z : Heap) (s : Shared) (E : Value → Shared → Prop) (t' : T) (Y : Heap → Heap → List Value → Prop) (ys : List Value) (ok : Bool) (s₁ : Shared) : Prop
  | mk (z₁ h₁ : Heap) (tk₁ : Nat) (t₁ : T) (es : s₁ = sh s h₁ tk₁) (g : GrowM U z s.heap z₁ h₁) (p : U.P t₁ h₁) (hf : ok = false → t₁ = t' ∧ Y z₁ h₁ ys)
    (ht : ok = true → wpAny (model prog w) A (eval elt env) (fun y => ElE U z₁ h₁ s t' fun z₂ h₂ => Y z₂ h₂ (ys ++ [y])) E s₁)
inductive MPost (prog : Program) (w : World) (A : Around) {T : Type} (U : Mut T) (elt : Expr) (env : Env) (z : Heap) (s : Shared) (E : Value → Shared → Prop) (r : Option AV) (t' : T) (ok : Bool) (s₁ : Shared) : Prop
  | mk (z₁ h₁ : Heap) (tk₁ : Nat) (t₁ : T) (es : s₁ = sh s h₁ tk₁) (g : GrowM U z s.heap z₁ h₁) (p : U.P t₁ h₁) (hok : ok = r.isSome) (hf : ok = false → t₁ = t')
    (ht : ok = true → wpAny (model prog w) A (eval elt env) (ElEM U z₁ h₁ s t' r) E s₁)
section
variable (prog : Program) (w : World) (b : Heap) (k : Nat) (ns : List (Str × NameKind)) (σ : Sig) {T : Type} (U : Mut T)
noncomputable def EvM (t : T) (e : Expr) (a : AV) (t' : T) : Prop :=
  ∀ (env : Env) (z : Heap) (A : Around) (s : Shared) (Q E : Value → Shared → Prop), EnvOK w b ns env z s.heap σ → Room A k → Apart U env z → U.P t s.heap →
    (∀ v z' h' tk, GrowM U z s.heap z' h' → U.P t' h' → Rep z' v a → Q v (sh s h' tk)) → wpAny (model prog w) A (eval e env) Q E s
noncomputable def EvLM (t : T) (e : Expr) (xs : List AV) (t' : T) : Prop :=
  ∀ (env : Env) (z : Heap) (A : Around) (s : Shared) (Q E : Value → Shared → Prop), EnvOK w b ns env z s.heap σ → Room A k → Apart U env z → U.P t s.heap →
    (∀ l vs n z' h' tk, GrowM U z s.heap z' h' → U.P t' h' → s.heap.get? l = none → z'.get? l = none → h'.get? l = some (lstO vs n) → Reps z' vs xs → Q (.ref l) (sh s h' tk)) →
    wpAny (model prog w) A (eval e env) Q E s
/-- one turn of a comprehension -/
noncomputable def ElM (t : T) (ifs : List Expr) (elt : Expr) (r : Option AV) (t' : T) : Prop :=
  ∀ (env : Env) (z : Heap) (A : Around) (s : Shared) (E : Value → Shared → Prop), EnvOK w b ns env z s.heap σ → Room A k → Apart U env z → U.P t s.heap →
    wpAny (model prog w) A (tests ifs env) (MPost prog w A U elt env z s E r t') E s
end

section
variable {prog : Program} {w : World} {b : Heap} {k : Nat} {ns : List (Str × NameKind)} {σ : Sig} {T : Type} {U : Mut T}
theorem EvM.of_LM {t t' : T} {e : Expr} {xs : List AV} (H : EvLM prog w b k ns σ U t e xs t') : EvM prog w b k ns σ U t e (.list xs) t' := fun env z A s Q E X R a p h =>
  H env z A s Q E X R a p fun l vs n z' h' tk g p' n1 n2 e1 r => by
    refine h _ (mask h' fun c => (z'.get? c).isSome || c == l) h' tk ⟨fun c o' q => ?_, fun c o' q => ?_, g.hh, fun c o' q => ?_⟩ p' (.list (n := n) (vs := vs) ?_ (r.le fun c o' q => ?_))
    · rw [mask_get, g.zz _ _ q]; simpa using g.zh _ _ (g.zz _ _ q)
    · rw [mask_get] at q; split at q
      · exact q
      · cases q
    · rw [mask_get] at q; split at q
      · rename_i c'
        rcases Bool.or_eq_true_iff.mp c' with c' | c'
        · obtain ⟨o₁, e₁⟩ := Option.isSome_iff_exists.mp c'
          have := g.zh _ _ e₁
          rw [q] at this; cases this
          exact g.nw c o' e₁
        · exact .inr (by rw [beq_iff_eq.mp c']; exact n1)
      · cases q
    · rw [mask_get]; simpa using e1
    · rw [mask_get, q]; simpa using g.zh _ _ q
theorem Ev.of_M {e : Expr} {a : AV} (H : EvM prog w b k ns σ noMut () e a ()) : Ev prog w b k ns σ e a := fun env z A s Q E X R h => H env z A s Q E X R Apart.no trivial fun v z' h' tk g _ r => h v z' h' tk g.no r
theorem EvL.of_M {e : Expr} {xs : List AV} (H : EvLM prog w b k ns σ noMut () e xs ()) : EvL prog w b k ns σ e xs := fun env z A s Q E X R h => H env z A s Q E X R Apart.no trivial fun l vs n z' h' tk g _ n1 n2 e r => h l vs n z' h' tk g.no n1 n2 e r
theorem Ev.toM {e : Expr} {a : AV} (t : T) (H : Ev prog w b k ns σ e a) : EvM prog w b k ns σ U t e a t := fun env z A s Q E X R ap p h => H env z A s Q E X R fun v z' h' tk g r => h v z' h' tk (.of g) (U.st p fun c o _ e => g.hh c o e) r

/-- lo, lo + 1 .. hi - 1 -/
noncomputable def rangeI (lo hi : Int) : List Int := (List.range (hi - lo).toNat).map fun i : Nat => lo + (i : Int)
theorem rangeI_length (lo hi : Int) : (rangeI lo hi).length = (hi - lo).toNat := by simp [rangeI]
theorem rangeI_get (lo hi : Int) (i : Nat) (h : i < (hi - lo).toNat) : (rangeI lo hi)[i]? = some (lo + i) := by simp [rangeI, h]
/-- things that are walked -/
inductive Src (z : Heap) : Value → List AV → Prop
  | list {v : Value} {xs : List AV} : Rep z v (.list xs) → Src z v xs
  | rng {v : Value} {lo hi : Int} : Rep z v (.rng lo hi) → -(2 ^ 62) ≤ lo → lo < 2 ^ 62 → -(2 ^ 62) ≤ hi → hi < 2 ^ 62 → Src z v (avI (rangeI lo hi))

theorem src_iter {A : Around} {E : Value → Shared → Prop} {s : Shared} {z : Heap} {v : Value} {xs : List AV} {Q : Value → Shared → Prop} (hh : A.handled = none) (S : Src z v xs) (lz : Le z s.heap)
    (h : ∀ (fp : List Addr) (P : Nat → Value → Prop) (St : Nat → Heap → Prop) (o : Obj), Walks prog w A s.heap.objs.size fp [s.heap.objs.size] xs.length P St → (∀ c ∈ fp, c = s.heap.objs.size ∨ ∃ q, z.get? c = some q) → (∀ i h, St i h → ∃ q, h.get? s.heap.objs.size = some q) → St 0 (s.heap.push o) → o.isFreed = false →
      (∀ i u, P i u → ∃ a, xs[i]? = some a ∧ ∀ z', Le z z' → Rep z' u a) → Q (.ref s.heap.objs.size) { s with heap := s.heap.push o }) : wpAny (model prog w) A (pyIter v) Q E s := by
  cases S with
  | list r =>
    replace r := r.lst; obtain ⟨a, vs, n, rfl, e, r⟩ := r
    have hl : s.heap.IsList a vs.toArray := isList_of (lz _ _ e)
    refine wpAny_pyIter_list hl ?_
    have ha : a ≠ s.heap.objs.size := Nat.ne_of_lt (Heap.lt_size (lz _ _ e))
    have W := Walks.list (prog := prog) (w := w) hh s.heap.objs.size a ha vs.toArray
    have hs : vs.toArray.size = xs.length := by simp [r.length]
    rw [hs] at W
    refine h [s.heap.objs.size, a] _ _ _ W (fun c hc => ?_) (fun i h' q => let ⟨o, e, _⟩ := q.1; ⟨o, e⟩) ⟨⟨_, Heap.get?_push_size _ rfl, rfl, rfl⟩, hl.push _⟩ rfl (fun i u hu => ?_)
    · rcases List.mem_cons.mp hc with rfl | hc
      · exact .inl rfl
      · rcases List.mem_cons.mp hc with rfl | hc
        · exact .inr ⟨_, e⟩
        · cases hc
    · obtain ⟨a', e1, e2⟩ := r.get' (i := i) (v := u) (by simpa using hu)
      exact ⟨a', e1, fun z' l => e2.le l⟩
  | @rng lo hi r h1 h2 h3 h4 =>
    cases r with | @rng r a b' t u v' e =>
    refine wpAny_pyIter_range (lz _ _ e) (small_one h1 h2 h3 h4) ?_
    have hn : Builtin.Range.rangeSize lo hi 1 = ((hi - lo).toNat : Int) := by rw [rangeSize_one]; split <;> lia
    have hs : (avI (rangeI lo hi)).length = (hi - lo).toNat := by rw [List.length_map, rangeI_length]
    rw [hn]
    refine h [s.heap.objs.size] (fun i v => i < (hi - lo).toNat ∧ ∃ t, v = .int (lo + (i : Nat) * 1) t) (fun i h => IsRangeIter h s.heap.objs.size (lo + (i : Nat) * 1) (((hi - lo).toNat : Int) - (i : Nat)) 1) _ (by rw [hs]; exact (Walks.range hh _ lo 1 _).bound) (fun c hc => .inl (List.mem_singleton.mp hc)) (fun i h' q => ⟨_, q⟩) ?_ rfl (fun i u hu => ?_)
    · show IsRangeIter _ _ _ _ _
      have := Heap.get?_push_size s.heap (o := { cls := .type "range_iterator", data := .fields #[rawInt lo, rawInt ((hi - lo).toNat : Int), rawInt 1] }) rfl
      simpa using this
    · obtain ⟨hi', t, rfl⟩ := hu
      refine ⟨.int (lo + i), by rw [List.getElem?_map, rangeI_get _ _ _ hi']; rfl, fun z' l => ?_⟩
      rw [Int.mul_one]; exact .int _ _
end
end Mine
end
section
open PySem PySem.W PyProof.Rows PySem.Calls PySem.Spec PySem.SeqAt
namespace Mine

noncomputable def reNs (names ns : List (Str × NameKind)) : List (Str × NameKind) := names.map fun (n, k) => if (k == .free && ns.lookup n == some .cell) then (n, .cell) else (n, k)
theorem re_lookup (ns : List (Str × NameKind)) (x : Str) : ∀ names : List (Str × NameKind), (reNs names ns).lookup x = (names.lookup x).map fun k => if (k == .free && ns.lookup x == some .cell) then .cell else k
  | [] => rfl
  | (n, k) :: r => by
    have ih := re_lookup ns x r
    show List.lookup x ((if (k == NameKind.free && ns.lookup n == some .cell) = true then (n, NameKind.cell) else (n, k)) :: reNs r ns) = _
    cases hx : x == n with
    | true =>
      have := eq_of_beq hx; subst this
      by_cases hc : (k == NameKind.free && ns.lookup x == some .cell) = true
      · rw [if_pos hc, List.lookup_cons, List.lookup_cons, beq_self_eq_true]; exact congrArg some (if_pos hc).symm
      · rw [if_neg hc, List.lookup_cons, List.lookup_cons, beq_self_eq_true]; exact congrArg some (if_neg hc).symm
    | false =>
      simp only [List.lookup_cons, hx]
      by_cases hc : (k == NameKind.free && ns.lookup n == some .cell) = true
      · rw [if_pos hc]; simp only [List.lookup_cons, hx]; exact ih
      · rw [if_neg hc]; simp only [List.lookup_cons, hx]; exact ih

noncomputable def clF (env : Env) : List (Str × NameKind) → List (Str × Addr) → List (Str × Addr)
  | [], acc => acc
  | (n, k) :: r, acc => if (k == .free) = true then clF env r ((n, (env.cells.lookup n).getD 0) :: acc) else clF env r acc
theorem closure_eq {scope : Scope} {env : Env} (hf : ∀ n, (n, NameKind.free) ∈ scope.names → ∃ c, env.cells.lookup n = some c) : closureFor scope env = pure (clF env scope.names []) := by
  unfold closureFor
  have key : ∀ (names : List (Str × NameKind)) (acc : List (Str × Addr)), (∀ n, (n, NameKind.free) ∈ names → ∃ c, env.cells.lookup n = some c) →
      (forIn names acc (fun (x : Str × NameKind) (cs : List (Str × Addr)) => match x with
        | (name, kind) => if (kind == NameKind.free) = true then (do let y ← cellOf env name; pure (ForInStep.yield ((name, y) :: cs))) else pure (ForInStep.yield cs)) : Sem (List (Str × Addr))) = pure (clF env names acc) := by
    intro names
    induction names with
    | nil => intro acc _; rfl
    | cons p r ih =>
      intro acc h
      obtain ⟨n, k⟩ := p
      rw [List.forIn_cons]
      unfold clF
      by_cases hk : (k == NameKind.free) = true
      · have : k = .free := by simpa using hk
        subst this
        obtain ⟨c, hc⟩ := h n (.head _)
        simp only [hk, if_true]
        unfold cellOf
        rw [hc]
        exact ih _ fun m hm => h m (.tail _ hm)
      · simp only [hk, if_false]
        exact ih _ fun m hm => h m (.tail _ hm)
  have := key scope.names [] hf
  simpa using this
theorem clF_lookup (env : Env) (y : Str) : ∀ (names : List (Str × NameKind)) (acc : List (Str × Addr)), (acc.lookup y = none ∨ acc.lookup y = some ((env.cells.lookup y).getD 0)) → ((y, NameKind.free) ∈ names ∨ acc.lookup y = some ((env.cells.lookup y).getD 0)) →
    (clF env names acc).lookup y = some ((env.cells.lookup y).getD 0)
  | [], acc, _, h => by
    rcases h with h | h
    · cases h
    · exact h
  | (n, k) :: r, acc, h1, h2 => by
    unfold clF
    by_cases hk : (k == NameKind.free) = true
    · rw [if_pos hk]
      have : k = .free := by simpa using hk
      subst this
      by_cases hn : y = n
      · subst hn
        exact clF_lookup env y r _ (.inr (by simp)) (.inr (by simp))
      · have e : List.lookup y ((n, (env.cells.lookup n).getD 0) :: acc) = acc.lookup y := by rw [List.lookup_cons, beq_eq_false_iff_ne.mpr hn]
        refine clF_lookup env y r _ (by rw [e]; exact h1) (by
          rw [e]
          rcases h2 with h2 | h2
          · rcases List.mem_cons.mp h2 with q | q
            · exact absurd (Prod.mk.inj q).1 hn
            · exact .inl q
          · exact .inr h2)
    · rw [if_neg hk]
      refine clF_lookup env y r _ h1 (h2.imp (fun h2 => ?_) id)
      rcases List.mem_cons.mp h2 with q | q
      · have := (Prod.mk.inj q).2; subst this; simp at hk
      · exact q
theorem clF_mem (env : Env) (y : Str) (c : Addr) : ∀ (names : List (Str × NameKind)) (acc : List (Str × Addr)), (y, c) ∈ clF env names acc → (y, c) ∈ acc ∨ ((y, NameKind.free) ∈ names ∧ c = (env.cells.lookup y).getD 0)
  | [], acc, h => .inl h
  | (n, k) :: r, acc, h => by
    unfold clF at h
    split at h
    · rename_i hk
      have : k = .free := by simpa using hk
      subst this
      rcases clF_mem env y c r _ h with q | q
      · rcases List.mem_cons.mp q with q | q
        · cases q; exact .inr ⟨.head _, rfl⟩
        · exact .inl q
      · exact .inr ⟨.tail _ q.1, q.2⟩
    · rcases clF_mem env y c r _ h with q | q
      · exact .inl q
      · exact .inr ⟨.tail _ q.1, q.2⟩
theorem cellsFrom_app : ∀ (names : List (Str × NameKind)) (n : Nat) (acc : List (Str × Addr)), cellsFrom n names acc = cellsFrom n names [] ++ acc
  | [], _, _ => rfl
  | (m, k) :: r, n, acc => by
    unfold cellsFrom
    split
    · rw [cellsFrom_app r (n + 1) ((m, n) :: acc), cellsFrom_app r (n + 1) [(m, n)]]; simp
    · exact cellsFrom_app r n acc
theorem lookup_append {α : Type} (y : Str) : ∀ (l r : List (Str × α)), (l ++ r).lookup y = (l.lookup y).or (r.lookup y)
  | [], r => by simp
  | (n, v) :: l, r => by
    rw [List.cons_append, List.lookup_cons, List.lookup_cons]
    cases y == n with
    | true => rfl
    | false => exact lookup_append y l r
theorem lookup_none_of_map {α β : Type} {y : Str} {l : List (Str × α)} {r : List (Str × β)} (e : l.map (·.1) = r.map (·.1)) (h : l.lookup y = none) : r.lookup y = none := by
  rw [List.lookup_eq_none_iff] at h ⊢
  intro p hp
  have : p.1 ∈ l.map (·.1) := e ▸ List.mem_map.mpr ⟨p, hp, rfl⟩
  obtain ⟨q, hq, e'⟩ := List.mem_map.mp this
  rw [← e']; exact h q hq

/-- what a comprehension sees of its frame -/
noncomputable def inner (names : List (Str × NameKind)) (σ : Sig) : Sig := σ.filter fun p => names.lookup p.1 == some NameKind.free
theorem inner_lookup (names : List (Str × NameKind)) (y : Str) (a : AV) : ∀ σ : Sig, (inner names σ).lookup y = some a → names.lookup y = some .free ∧ σ.lookup y = some a
  | [], h => by cases h
  | (n, v) :: σ, h => by
    unfold inner at h
    rw [List.filter_cons] at h
    by_cases hn : y = n
    · subst hn
      by_cases hc : (names.lookup y == some NameKind.free) = true
      · rw [if_pos hc] at h
        rw [List.lookup_cons, beq_self_eq_true] at h ⊢
        exact ⟨by simpa using hc, h⟩
      · rw [if_neg hc] at h
        exact absurd (inner_lookup names y a σ h).1 (by simpa using hc)
    · have hb : (y == n) = false := beq_eq_false_iff_ne.mpr hn
      rw [List.lookup_cons, hb]
      by_cases hc : (names.lookup n == some NameKind.free) = true
      · rw [if_pos hc, List.lookup_cons, hb] at h
        exact inner_lookup names y a σ h
      · rw [if_neg hc] at h
        exact inner_lookup names y a σ h

theorem frame_turn {fp : List Addr} {I : Addr} {z₁ zi h' h₅ h₂ : Heap} {o₅ : Obj} (hfp : ∀ c ∈ fp, c = I ∨ ∃ q, z₁.get? c = some q) (e₅ : h₅.get? I = some o₅) (eI : h₂.get? I = some o₅) (lz : Le z₁ zi) (nI : zi.get? I = none) (zh : Le zi h')
    (hk : ∀ c o, c ∉ [I] → h'.get? c = some o → h₅.get? c = some o) (zh₂ : Le zi h₂) : ∀ c ∈ fp, ∀ o', h₅.get? c = some o' → h₂.get? c = some o' := fun c hc o' e => by
  rcases hfp c hc with q | ⟨q, hq⟩
  · rw [q] at e ⊢; exact eI.trans (e₅.symm.trans e)
  · have hz := lz _ _ hq
    have e2 := hk c q (fun m => by rw [List.mem_singleton.mp m, nI] at hz; cases hz) (zh _ _ hz)
    exact (zh₂ _ _ hz).trans (e2.symm.trans e)
theorem newComp {M : Model} {A : Around} {E : Value → Shared → Prop} {s : Shared} {scope : Scope} {globals : Addr} {cl : List (Str × Addr)} {qual : Str} {env : Env} {Q : Env → Shared → Prop}
    (h : Q { scope, locals := s.heap.objs.size, globals, cells := cellsFrom (s.heap.objs.size + 1) scope.names cl, qual, func := none, code := env.code, frame := env.frame, builtins := env.builtins }
      { s with heap := pushCells (s.heap.push { cls := .type "dict", data := .dict #[] }) scope.names }) :
    wpAny M A (newFunctionEnv scope globals cl [] qual none .none (some env)) Q E s := by
  simp only [newFunctionEnv, Option.isSome_some, if_true]
  refine wpAny_bind (wpAny_alloc ?_)
  refine wpAny_bind (wpAny_layCells _ (fun name kind cells => by cases hkc : kind == NameKind.cell <;> simp [hkc]) _ _ _ _ ?_)
  rw [show ({ s with heap := s.heap.push { cls := .type "dict", data := .dict #[] } } : Shared).heap.objs.size = s.heap.objs.size + 1 from Heap.size_push ..]
  refine wpAny_bind ?_
  rw [List.forIn_nil]
  exact wpAny_pure (wpAny_pure h)

section
variable {prog : Program} {w : World} {b : Heap} {k : Nat} {ns : List (Str × NameKind)} {σ : Sig} {T : Type} {U : Mut T}

/-- one turn, whatever is told of what was gathered -/
noncomputable def ElY (prog : Program) (w : World) (b : Heap) (k : Nat) (ns : List (Str × NameKind)) (σ : Sig) {T : Type} (U : Mut T) (Y : (Addr → Prop) → Nat → Heap → Heap → List Value → Prop) (i : Nat) (t : T) (ifs : List Expr) (elt : Expr) (t' : T) : Prop :=
  ∀ (env : Env) (z : Heap) (A : Around) (s : Shared) (E : Value → Shared → Prop) (ys : List Value) (Pv : Addr → Prop), EnvOK w b ns env z s.heap σ → Room A k → Apart U env z → U.P t s.heap →
    (∀ c, Pv c → z.get? c = none ∧ ∃ o, s.heap.get? c = some o) → Y Pv i z s.heap ys →
    wpAny (model prog w) A (tests ifs env) (YPost prog w A U elt env z s E t' (Y Pv (i + 1)) ys) E s
noncomputable abbrev CP3 (prog : Program) (w : World) (A : Around) (elt : Expr) (env : Env) (acc : Value) (K : Shared → Prop) (E : Value → Shared → Prop) (ok : Bool) (s₃ : Shared) : Prop :=
  if ok = true then wpAny (model prog w) A (eval elt env) (fun x s₄ => wpAny (model prog w) A (call (.builtin "list.append") [acc, x]) (fun _ s₅ => K s₅) E s₄) E s₃ else K s₃
theorem CP3.no {prog : Program} {w : World} {A : Around} {elt : Expr} {env : Env} {acc : Value} {K : Shared → Prop} {E : Value → Shared → Prop} {s₃ : Shared} (h : K s₃) : CP3 prog w A elt env acc K E false s₃ := h
theorem CP3.yes {prog : Program} {w : World} {A : Around} {elt : Expr} {env : Env} {acc : Value} {K : Shared → Prop} {E : Value → Shared → Prop} {s₃ : Shared} (h : wpAny (model prog w) A (eval elt env) (fun x s₄ => wpAny (model prog w) A (call (.builtin "list.append") [acc, x]) (fun _ s₅ => K s₅) E s₄) E s₃) : CP3 prog w A elt env acc K E true s₃ := h
noncomputable abbrev CP1 (prog : Program) (w : World) (A : Around) (target elt : Expr) (ifs : List Expr) (env : Env) (acc : Value) (K : Shared → Prop) (E : Value → Shared → Prop) (R : Result → Shared → Prop) (r : Option Value) (s₁ : Shared) : Prop :=
  match r with
  | none => R (.ok .next) s₁
  | some v => wpAny (model prog w) A (assign target env v) (fun _ s₂ => wpAny (model prog w) A (tests ifs env) (CP3 prog w A elt env acc K E) E s₂) E s₁
noncomputable abbrev NB (prog : Program) (w : World) (A : Around) (env : Env) (R : Result → Shared → Prop) : Value → Shared → Prop := notedBy (model prog w) A env fun e s' => R (.error e) s'
noncomputable abbrev LoopI (len : Nat) (Inv : Nat → Shared → Prop) (n : Nat) (s : Shared) : Prop := ∃ i, i ≤ len ∧ n = len + 1 - i ∧ Inv i s
noncomputable abbrev LoopK (len : Nat) (Inv : Nat → Shared → Prop) (n : Nat) (s : Shared) : Prop := ∃ m, m < n ∧ LoopI len Inv m s
theorem loop_tests {elt target iter : Expr} {ifs : List Expr} {scope : Scope} {pos : Pos} {it acc : Value} {env : Env} {A : Around} {R : Result → Shared → Prop} {s : Shared} (len : Nat) (Inv : Nat → Shared → Prop)
    (turn : ∀ i s, i ≤ len → Inv i s → wpAny (model prog w) A (pyNext it) (CP1 prog w A target elt ifs env acc (LoopK len Inv (len + 1 - i)) (NB prog w A env R) R) (NB prog w A env R) s) (h : Inv 0 s) (ht : ∀ v, letOwnedTupleGo target it v = pure () := by intro _; rfl) :
    codeAny (model prog w) A (.compLoop (.ListComp elt [⟨target, iter, ifs, 0⟩] scope pos) 0 it acc env) R s :=
  codeAny_compLoop_tests (LoopI len Inv) (fun n s ⟨i, hi, e, h⟩ => by subst e; exact turn i s hi h) (len + 1) ⟨0, Nat.zero_le _, rfl, h⟩ ht
inductive CInv (U : Mut T) (z hs z₁ : Heap) (I : Nat) (own : List (Str × Addr)) (s : Shared) (i : Nat) (PP St : Heap → Prop) (Y : Heap → Heap → List Value → Prop) (s' : Shared) : Prop
  | mk (h' : Heap) (tk : Nat) (zi : Heap) (ys : List Value) (m : Nat) (ml : Str → Option Value) (es : s' = (sh s h' tk)) (g : GrowM U z hs zi h') (lz : Le z₁ zi) (p : PP h') (st : St h') (D : h'.get? (I + 1) = some (lstO ys m)) (C : h'.Ns (I + 2) ml)
    (o : ∀ n c, (n, c) ∈ own → ∃ v, h'.IsCell c v) (y : ys.length ≤ i ∧ Y zi h' ys) (hz : ∀ c, c = I ∨ c = I + 1 ∨ c = I + 2 ∨ (∃ n, (n, c) ∈ own) → zi.get? c = none)
/-- a comprehension of one clause, whatever is done with it -/
theorem comp_coreY {elt iter : Expr} {ifs : List Expr} {x : Str} {px pos : Pos} {scope : Scope} {src : AV} {xs : List AV} (t : Nat → T) (Y : (Addr → Prop) → Nat → Heap → Heap → List Value → Prop)
    (Yk : ∀ Pv i z h h' ys, Y Pv i z h ys → (∀ c o, ¬ Pv c → h.get? c = some o → h'.get? c = some o) → Y Pv i z h' ys)
    (hit : Ev prog w b k ns σ iter src) (hsrc : ∀ z v, Rep z v src → Src z v xs)
    (hel : ∀ i a, xs[i]? = some a → ElY prog w b k (reNs scope.names ns) ((x, a) :: inner scope.names σ) U Y i (t i) ifs elt (t (i + 1)))
    (hsz : xs.length ≤ sizeLine)
    (hk : scope.kind = .function) (hnames : ∀ y ∈ scope.names, y.2 = .local → scope.names.lookup y.1 = some .local)
    (hx : scope.names.lookup x = some .local ∨ scope.names.lookup x = some .cell)
    (hfree : ∀ n, (n, NameKind.free) ∈ scope.names → (σ.lookup n).isSome = true ∧ (ns.lookup n = some .cell ∨ ns.lookup n = some .free))
    (hown : ∀ n, scope.names.lookup n = some .free → (n, NameKind.free) ∈ scope.names ∧ (cellsFrom 0 scope.names []).lookup n = none)
    (hxo : scope.names.lookup x = some .cell → ((cellsFrom 0 scope.names []).lookup x).isSome = true)
    {use : Option (Value → Sem Unit)} {pos' : Pos} {env : Env} {z : Heap} {A : Around} {s : Shared} {Q E : Value → Shared → Prop} (Y0 : ∀ (Pv : Addr → Prop) z' h', (∀ c, Pv c → s.heap.get? c = none) → (∀ c, h'.get? c = none → s.heap.get? c = none) → Y Pv 0 z' h' []) (X : EnvOK w b ns env z s.heap σ) (R : Room A k) (ap : Apart U env z) (p : U.P (t 0) s.heap)
    (h : ∀ (l C : Addr) vs n z' h' tk ml (Pv : Addr → Prop), Pv l → Pv C → GrowM U z s.heap z' h' → U.P (t xs.length) h' → s.heap.get? l = none → z'.get? l = none → h'.get? l = some (lstO vs n) → Y Pv xs.length z' h' vs →
      s.heap.get? C = none → z'.get? C = none → C ≠ l → h'.Ns C ml → ¬ U.M C → ¬ U.M l → compPost (model prog w) A E use Q (.ref l) C (.ok .next) (sh s h' tk))
    (hs : ∀ x, foldedSetIterable iter env x = pure x) :
    wpAny (model prog w) A (comprehension (.ListComp elt [⟨.Name x px, iter, ifs, 0⟩] scope pos) scope env pos' (newList []) false (eval iter env) use) Q E s := by
  have hkd : ∀ n, env.kindOf n = ns.lookup n := fun n => by unfold Env.kindOf; rw [X.nm]
  have hfc : ∀ n, (n, NameKind.free) ∈ scope.names → ∃ c, env.cells.lookup n = some c := fun n hn => by
    obtain ⟨h1, h2⟩ := hfree n hn
    obtain ⟨a, ha⟩ := Option.isSome_iff_exists.mp h1
    obtain ⟨c, _, e, _⟩ := X.cel n a ha h2
    exact ⟨c, e⟩
  have hre : (relabel scope env).names = reNs scope.names ns := by
    unfold relabel reNs
    apply List.map_congr_left
    rintro ⟨n, kk⟩ _
    simp only [X.kd, hkd, beq_self_eq_true, Bool.and_true]
  refine wpAny_comprehension_free (use := use) rfl hs (closure_eq hfc) hk hnames ?_
  refine hit env z A s _ E X R fun v z₁ h₁ tk₁ g₁ r₁ => ?_
  refine src_iter R.hand (hsrc z₁ v r₁) g₁.zh fun fp P St o W hfp hex hst ho hP => ?_
  refine wpAny_newObj_type ?_
  refine newComp ?_
  dsimp only
  -- addresses
  generalize hI : h₁.objs.size = I at *
  generalize hH2 : h₁.push o = H2
  have sz2 : H2.objs.size = I + 1 := by rw [← hH2, Heap.size_push, hI]
  generalize hH3 : H2.push { cls := .type "list", dict := none, data := .seq ([] : List Value).toArray } = H3
  have sz3 : H3.objs.size = I + 2 := by rw [← hH3, Heap.size_push, sz2]
  rw [sz2, sz3]
  generalize hH4 : pushCells (H3.push { cls := .type "dict", data := .dict #[] }) scope.names = H4
  have ok := cellsFrom_ok scope.names (H3.push { cls := .type "dict", data := .dict #[] }) (I + 3) [] ⟨fun _ _ hm => (nomatch hm), List.Pairwise.nil⟩ (by rw [Heap.size_push, sz3]; exact Nat.le_refl _)
  rw [Heap.size_push, sz3, hH4] at ok
  rw [cellsFrom_app]
  generalize hown' : cellsFrom (I + 2 + 1) scope.names [] = own at *
  -- what stands at the start
  have old2 : Le h₁ H2 := hH2 ▸ Le.rfl.push o
  have old3 : Le H2 H3 := hH3 ▸ Le.rfl.push _
  have oldC : Le (H3.push { cls := .type "dict", data := .dict #[] }) H4 := hH4 ▸ pushCells_keeps scope.names _
  have old4 : Le H3 H4 := fun c o e => oldC c o (Heap.get?_push_of_some _ e)
  have old14 : Le h₁ H4 := (old2.trans old3).trans old4
  have fr : ∀ c, I ≤ c → h₁.get? c = none := fun c hc => get_fresh h₁ (by rw [hI]; exact hc)
  have frs : ∀ c, I ≤ c → s.heap.get? c = none := fun c hc => g₁.hh.none (fr c hc)
  have frz : ∀ c, I ≤ c → z₁.get? c = none := fun c hc => g₁.zh.none (fr c hc)
  have p₁ : U.P (t 0) h₁ := U.st p fun c o _ e => g₁.hh c o e
  have p₄ : U.P (t 0) H4 := U.st p₁ fun c o _ e => old14 c o e
  have mlt : ∀ c : Nat, U.M c → c < I := fun c m => by obtain ⟨o', e⟩ := U.ex p₁ m; rw [← hI]; exact Heap.lt_size e
  have hD : H4.get? (I + 1) = some (lstO [] 0) := by
    have := Heap.get?_push_size H2 (o := { cls := .type "list", dict := none, data := .seq ([] : List Value).toArray }) rfl
    rw [hH3, sz2] at this
    exact old4 _ _ this
  have hC : H4.Ns (I + 2) (fun _ => none) := by
    have := (Heap.Ns.new H3 (.type "dict"))
    rw [sz3] at this
    exact this.keeps oldC
  have hst4 : St 0 H4 := W.frame 0 _ _ hst fun c _ o' e => by
    have e' : H2.get? c = some o' := by rw [← hH2]; exact e
    exact old4 c o' (old3 c o' e')
  have ownlo : ∀ (n : Str) (c : Nat), (n, c) ∈ own → I + 3 ≤ c := fun n c hm => (ok.empty n c hm).2
  have own2 : ∀ (n : Str) (c : Nat), (n, c) ∈ own → c ≠ I + 2 := fun n c hm => by have := ownlo n c hm; lia
  have own1 : ∀ (n : Str) (c : Nat), (n, c) ∈ own → c ≠ I + 1 := fun n c hm => by have := ownlo n c hm; lia
  have own0 : ∀ (n : Str) (c : Nat), (n, c) ∈ own → c ≠ I := fun n c hm => by have := ownlo n c hm; lia
  have mne : ∀ c : Nat, U.M c → c ≠ I ∧ c ≠ I + 1 ∧ c ≠ I + 2 := fun c m => by have := mlt c m; lia
  have notI : ∀ c : Nat, c ≠ I → c ∉ ([I] : List Addr) := fun c h q => h (List.mem_singleton.mp q)
  have hcl : ∀ y a', (inner scope.names σ).lookup y = some a' → ∃ c v', (own ++ clF env scope.names []).lookup y = some c ∧ ¬ U.M c ∧ s.heap.IsCell c (some v') ∧ Rep z v' a' := fun y a' e => by
    obtain ⟨e1, e2⟩ := inner_lookup _ _ _ _ e
    obtain ⟨e3, e4⟩ := hown y e1
    obtain ⟨c, v', e5, e6, e7⟩ := X.cel y a' e2 (hfree y e3).2
    refine ⟨c, v', ?_, ap.ce y c e5, e6, e7⟩
    rw [lookup_append, lookup_none_of_map ((cellsFrom_names scope.names 0 (I + 2 + 1) [] [] rfl).trans (by rw [hown'])) e4]
    have := clF_lookup env y scope.names [] (.inl rfl) (.inl e3)
    rw [e5] at this
    exact this
  have hcx : scope.names.lookup x = some .cell → ∃ c, own.lookup x = some c := fun e => by
    cases q : own.lookup x with
    | some c => exact ⟨c, rfl⟩
    | none =>
      have := lookup_none_of_map (cellsFrom_names scope.names (I + 2 + 1) 0 [] [] rfl) (by rw [hown']; exact q)
      have h2 := hxo e
      rw [this] at h2; cases h2
  have hce : ∀ n c, (own ++ clF env scope.names []).lookup n = some c → ¬ U.M c := fun n c e m => by
    have hm := mem_of_lookup e
    rcases List.mem_append.mp hm with q | q
    · exact absurd (Nat.lt_of_lt_of_le (mlt c m) (Nat.le_trans (Nat.le_add_right _ 3) (ownlo n c q))) (Nat.lt_irrefl _)
    · rcases clF_mem env n c _ _ q with q | ⟨q1, q2⟩
      · cases q
      · obtain ⟨c', hc'⟩ := hfc n q1
        rw [hc'] at q2
        have q3 : c = c' := q2
        subst q3
        exact ap.ce n c hc' m
  let cenv : Env := { scope := relabel scope env, locals := I + 2, globals := env.globals, cells := own ++ clF env scope.names [], qual := env.qual, code := env.code, frame := env.frame, builtins := env.builtins }
  have top : b.objs.size ≤ I + 2 := by
    obtain ⟨ml, hn, _⟩ := (X.le g₁).loc
    have h1 := X.top
    have h2 : env.locals < I := hI ▸ hn.lt
    exact Nat.le_trans h1 (Nat.le_trans (Nat.le_of_lt h2) (Nat.le_add_right _ 2))
  let Pv : Addr → Prop := fun c => c = I ∨ c = I + 1 ∨ c = I + 2 ∨ ∃ n, (n, c) ∈ own
  let Inv : Nat → Shared → Prop := fun i s' => CInv U z s.heap z₁ I own s i (U.P (t i)) (St i) (Y Pv i) s'
  have inv0 : Inv 0 (sh s H4 tk₁) := by
    refine ⟨H4, tk₁, z₁, [], 0, _, rfl, .of (g₁.more old14), Le.rfl, p₄, hst4, hD, hC, fun n c hm => ⟨_, (ok.empty n c hm).1⟩, ⟨Nat.le_refl _, Y0 Pv z₁ H4 (fun c hc => (by
        rcases hc with rfl | rfl | rfl | ⟨n, hn⟩
        · exact frs _ (Nat.le_refl _)
        · exact frs _ (Nat.le_succ _)
        · exact frs _ (Nat.le_add_right _ 2)
        · exact frs _ (Nat.le_trans (Nat.le_add_right _ 3) (ownlo n c hn)))) (fun c => (g₁.hh.trans old14).none)⟩, fun c hc => frz c ?_⟩
    rcases hc with rfl | rfl | rfl | ⟨n, hn⟩
    · exact Nat.le_refl _
    · exact Nat.le_succ _
    · exact Nat.le_add_right _ 2
    · exact Nat.le_trans (Nat.le_add_right _ 3) (ownlo n c hn)
  have loop : codeAny (model prog w) A (.compLoop (.ListComp elt [⟨.Name x px, iter, ifs, 0⟩] scope pos) 0 (.ref I) (.ref (I + 1)) cenv) (compPost (model prog w) A E use Q (.ref (I + 1)) (I + 2)) (sh s H4 tk₁) := by
    refine loop_tests xs.length Inv ?_ inv0
    rintro i s' hi ⟨h', tk, zi, ys, m, ml, rfl, g, lz, pi, sti, hDi, hCi, hoi, ⟨hyl, hri⟩, hzi⟩
    by_cases hlt : i < xs.length
    · refine W.item i _ _ _ hlt sti fun u h₅ tk₅ hPu st₅ hk₅ => ?_
      obtain ⟨a, hxa, hua⟩ := hP i u hPu
      have nI : ∀ c o, zi.get? c = some o → c ∉ [I] := fun c o e q => by rw [List.mem_singleton.mp q, hzi I (.inl rfl)] at e; cases e
      have g5 : GrowM U z s.heap zi h₅ := g.upd (d := I) (fun c o hc e => hk₅ c o (fun q => hc (List.mem_singleton.mp q)) e) (frs I (Nat.le_refl _)) (hzi I (.inl rfl))
      have ne1 : I + 1 ∉ [I] := notI _ (by lia)
      have ne2 : I + 2 ∉ [I] := notI _ (by lia)
      have p5 : U.P (t i) h₅ := U.st pi fun c o m e => hk₅ c o (notI c (mne c m).1) e
      have hI5 : ∃ oI, h₅.get? I = some oI := hex _ _ st₅
      have hD5 : h₅.get? (I + 1) = some (lstO ys m) := hk₅ _ _ ne1 hDi
      have hC5 : h₅.Ns (I + 2) ml := hCi.at' fun o e => hk₅ _ o ne2 e
      have ho5 : ∀ n c, (n, c) ∈ own → ∃ v, h₅.IsCell c v := fun n c hm => by
        obtain ⟨v, o, e1, e2⟩ := hoi n c hm
        exact ⟨v, o, hk₅ _ o (notI c (own0 n c hm)) e1, e2⟩
      -- the rest of the turn, whatever was stored
      have turn : ∀ (h₆ : Heap) (tk₆ : Nat) (ml₆ : Str → Option Value) (cx : Addr), (cx = I + 2 ∨ ∃ n, (n, cx) ∈ own) → (∀ c, c ≠ cx → h₆.get? c = h₅.get? c) → h₆.Ns (I + 2) ml₆ → (∀ n c, (n, c) ∈ own → ∃ v, h₆.IsCell c v) →
          (scope.names.lookup x = some .local → ml₆ x = some u) → (scope.names.lookup x = some .cell → ∃ c, own.lookup x = some c ∧ h₆.IsCell c (some u)) →
          wpAny (model prog w) A (tests ifs cenv) (CP3 prog w A elt cenv (.ref (I + 1)) (LoopK xs.length Inv (xs.length + 1 - i)) (NB prog w A cenv (compPost (model prog w) A E use Q (.ref (I + 1)) (I + 2)))) (NB prog w A cenv (compPost (model prog w) A E use Q (.ref (I + 1)) (I + 2))) (sh s h₆ tk₆) := by
        intro h₆ tk₆ ml₆ cx hcx₆ hs₆ hC₆ ho₆ hl₆ hc₆
        have cxne : cx ≠ I ∧ cx ≠ I + 1 ∧ ¬ U.M cx ∧ I ≤ cx := by
          rcases hcx₆ with rfl | ⟨n, hn⟩
          · exact ⟨fun q => absurd (show (I + 2 : Nat) = I from q) (by lia), fun q => absurd (show (I + 2 : Nat) = I + 1 from q) (by lia), fun m => (mne _ m).2.2 rfl, Nat.le_add_right _ 2⟩
          · exact ⟨own0 n cx hn, own1 n cx hn, fun m => absurd (mlt cx m) (by have := ownlo n cx hn; lia), by have := ownlo n cx hn; lia⟩
        have zcx : zi.get? cx = none := hzi cx (by
          rcases hcx₆ with rfl | hn
          · exact .inr (.inr (.inl rfl))
          · exact .inr (.inr (.inr hn)))
        have g6 : GrowM U z s.heap zi h₆ := g5.upd (d := cx) (fun c o hc e => (hs₆ c hc).trans e) (frs cx cxne.2.2.2) zcx
        have p6 : U.P (t i) h₆ := U.st p5 fun c o m e => (hs₆ c (fun q => cxne.2.2.1 (q ▸ m))).trans e
        have D6 : h₆.get? (I + 1) = some (lstO ys m) := (hs₆ _ (Ne.symm cxne.2.1)).trans hD5
        obtain ⟨oI, hI5⟩ := hI5
        have I6 : h₆.get? I = some oI := (hs₆ _ (Ne.symm cxne.1)).trans hI5
        have xre : ∀ y, (reNs scope.names ns).lookup y = (scope.names.lookup y).map fun k => if (k == .free && ns.lookup y == some .cell) then .cell else k := fun y => re_lookup ns y scope.names
        have freeRe : ∀ y, scope.names.lookup y = some .free → (reNs scope.names ns).lookup y = some .cell ∨ (reNs scope.names ns).lookup y = some .free := fun y e => by
          rw [xre, e]
          by_cases hq : (NameKind.free == NameKind.free && ns.lookup y == some NameKind.cell) = true
          · exact .inl (congrArg some (if_pos hq))
          · exact .inr (congrArg some (if_neg hq))
        have X6 : EnvOK w b (reNs scope.names ns) cenv zi h₆ ((x, a) :: inner scope.names σ) := by
          refine ⟨(X.bz.trans g₁.zz).trans lz, g6.zh, hre, hk, X.gl, X.bi, top, ⟨ml₆, hC₆, fun y a' e q => ?_⟩, fun y a' e q => ?_, fun y a' e => ?_⟩
          · by_cases hy : y = x
            · subst hy
              rw [List.lookup_cons, beq_self_eq_true] at e
              cases e
              rcases hx with hx | hx
              · exact ⟨u, hl₆ hx, hua zi lz⟩
              · rw [xre, hx] at q; cases q
            · rw [List.lookup_cons, beq_eq_false_iff_ne.mpr hy] at e
              rcases freeRe y (inner_lookup _ _ _ _ e).1 with q' | q' <;> (rw [q'] at q; cases q)
          · by_cases hy : y = x
            · subst hy
              rw [List.lookup_cons, beq_self_eq_true] at e
              cases e
              rcases hx with hx | hx
              · rw [xre, hx] at q; rcases q with q | q <;> cases q
              · obtain ⟨c, e1, e2⟩ := hc₆ hx
                exact ⟨c, u, by show (own ++ _).lookup y = _; rw [lookup_append, e1]; rfl, e2, hua zi lz⟩
            · rw [List.lookup_cons, beq_eq_false_iff_ne.mpr hy] at e
              obtain ⟨c, v', e1, e2, ⟨o', e3, e4⟩, e5⟩ := hcl y a' e
              exact ⟨c, v', e1, ⟨o', g6.hh c o' e2 e3, e4⟩, e5.le ((g₁.zz).trans lz)⟩
          · by_cases hy : y = x
            · subst hy
              rcases hx with hx | hx
              · exact .inl (by rw [xre, hx]; rfl)
              · exact .inr (.inl (by rw [xre, hx]; rfl))
            · rw [List.lookup_cons, beq_eq_false_iff_ne.mpr hy] at e
              exact .inr (freeRe y (inner_lookup _ _ _ _ e).1)
        have ap6 : Apart U cenv zi := ⟨fun c mm => by
          obtain ⟨o', e⟩ := U.ex p mm
          exact g.off e (ap.zo c mm), fun mm => (mne _ mm).2.2 rfl, hce⟩
        have zoff : ∀ {z₇ h₇ : Heap}, GrowM U zi h₆ z₇ h₇ → ∀ c, (c = I ∨ c = I + 1 ∨ c = I + 2 ∨ ∃ n, (n, c) ∈ own) → z₇.get? c = none := fun g7 c hc => by
          have hn := hzi c hc
          rcases hc with rfl | rfl | rfl | ⟨n, hn'⟩
          · exact g7.off I6 hn
          · exact g7.off D6 hn
          · obtain ⟨o', _, _, e, _⟩ := hC₆; exact g7.off e hn
          · obtain ⟨_, o', e, _⟩ := ho₆ n c hn'; exact g7.off e hn
        have fin : ∀ (h₇ z₇ : Heap) (tk₇ : Nat) (ys₇ : List Value) (m₇ : Nat), Le zi z₇ → GrowM U z s.heap z₇ h₇ → U.P (t (i + 1)) h₇ → (∀ (c : Nat) o, ¬ U.M c → c ≠ I + 1 → h₆.get? c = some o → h₇.get? c = some o) → h₇.get? (I + 1) = some (lstO ys₇ m₇) →
            (ys₇.length ≤ i + 1 ∧ Y Pv (i + 1) z₇ h₇ ys₇) → (∀ c, (c = I ∨ c = I + 1 ∨ c = I + 2 ∨ ∃ n, (n, c) ∈ own) → z₇.get? c = none) → LoopK xs.length Inv (xs.length + 1 - i) (sh s h₇ tk₇) := by
          intro h₇ z₇ tk₇ ys₇ m₇ lz7 g7 p7 hk7 hD7 hr7 hz7
          refine ⟨xs.length + 1 - (i + 1), by lia, i + 1, hlt, rfl, h₇, tk₇, z₇, ys₇, m₇, ml₆, rfl, g7, lz.trans lz7, p7, ?_, hD7, ?_, ?_, hr7, hz7⟩
          · refine W.frame (i + 1) h₅ h₇ st₅ fun c hc o' e => ?_
            have hc' := hfp c hc
            have c1 : ¬ U.M c := fun mm => by
              rcases hc' with rfl | ⟨q, hq⟩
              · exact (mne _ mm).1 rfl
              · have := ap6.zo c mm; rw [lz _ _ hq] at this; cases this
            have c2 : c ≠ I + 1 := fun q => by
              rcases hc' with q' | ⟨q', hq⟩
              · have : (I : Nat) = I + 1 := q'.symm.trans q
                lia
              · rw [q, frz (I + 1) (Nat.le_succ _)] at hq; cases hq
            have c3 : c ≠ cx := fun q => by
              rcases hc' with q' | ⟨q', hq⟩
              · exact cxne.1 (q.symm.trans q')
              · rw [q, frz cx cxne.2.2.2] at hq; cases hq
            exact hk7 c o' c1 c2 ((hs₆ c c3).trans e)
          · exact hC₆.at' fun o' e => hk7 _ o' (fun mm => (mne _ mm).2.2 rfl) (by lia) e
          · intro n c hm
            obtain ⟨v', o', e1, e2⟩ := ho₆ n c hm
            exact ⟨v', o', hk7 c o' (fun mm => absurd (mlt c mm) (by have := ownlo n c hm; lia)) (own1 n c hm) e1, e2⟩
        have y6 : Y Pv i zi h₆ ys := Yk Pv i zi h' h₆ ys hri fun c o hc e => (hs₆ c (fun q => hc (by
          rcases hcx₆ with q' | q'
          · exact .inr (.inr (.inl (q.trans q')))
          · exact .inr (.inr (.inr (q ▸ q')))))).trans (hk₅ c o (fun q => hc (.inl (List.mem_singleton.mp q))) e)
        have hpv6 : ∀ c, Pv c → zi.get? c = none ∧ ∃ o, h₆.get? c = some o := fun c hc => ⟨hzi c hc, by
          rcases hc with rfl | rfl | rfl | ⟨n, hn'⟩
          · exact ⟨_, I6⟩
          · exact ⟨_, D6⟩
          · obtain ⟨o', _, _, e, _⟩ := hC₆; exact ⟨_, e⟩
          · obtain ⟨_, o', e, _⟩ := ho₆ n c hn'; exact ⟨_, e⟩⟩
        refine wpAny_mono (hel i a hxa cenv zi A _ _ ys Pv X6 R ap6 p6 hpv6 y6) (fun ok s₃ h₃ => ?_) fun _ _ e => e
        obtain ⟨z₃, h₃', tk₃, t₃, rfl, g₃, p₃, hf, ht⟩ := h₃
        have g36 := g6.trans p6 g₃
        have D3 : h₃'.get? (I + 1) = some (lstO ys m) := g₃.hh _ _ (fun mm => (mne _ mm).2.1 rfl) D6
        cases ok with
        | false =>
          refine CP3.no (fin h₃' z₃ tk₃ ys m g₃.zz g36 ((hf rfl).1 ▸ p₃) (fun c o' c1 _ e => g₃.hh c o' c1 e) D3 ⟨Nat.le_succ_of_le hyl, (hf rfl).2⟩ (zoff g₃))
        | true =>
          refine CP3.yes (wpAny_mono (ht rfl) (fun y s₄ h₄ => ?_) fun _ _ e => e)
          obtain ⟨z₄, h₄', tk₄, rfl, g₄, p₄', hya⟩ := h₄
          have g34 := g₃.trans p₃ g₄
          have D4 : h₄'.get? (I + 1) = some (lstO ys m) := g₄.hh _ _ (fun mm => (mne _ mm).2.1 rfl) D3
          have ysz : ys.toArray.size ≤ sizeLine := by
            simp only [List.size_toArray]; lia
          refine wpAny_list_append_plain (hsz := ysz) ⟨m, D4⟩ fun h₈ hl₈ hs₈ => ?_
          obtain ⟨m₈, e₈⟩ := hl₈
          have e₈' : h₈.get? (I + 1) = some (lstO (ys ++ [y]) m₈) := by rw [e₈]; simp
          refine fin h₈ z₄ tk₄ (ys ++ [y]) m₈ g34.zz ((g6.trans p6 g34).upd (d := I + 1) (fun c o' hc e => (hs₈.2 c hc).trans e) (frs _ (Nat.le_succ _)) (zoff g34 _ (.inr (.inl rfl)))) (U.st p₄' fun c o' mm e => (hs₈.2 c (mne c mm).2.1).trans e)
            (fun c o' c1 c2 e => (hs₈.2 c c2).trans (g34.hh c o' c1 e)) e₈' ⟨by simpa using hyl, Yk Pv (i + 1) z₄ h₄' h₈ _ hya fun c o' hc e => (hs₈.2 c (fun q => hc (.inr (.inl q)))).trans e⟩ (zoff g34)
      rcases hx with hxl | hxc
      · refine wpAny_assign_Name (wpAny_storeName_local (env := cenv) (by show (relabel scope env).names.lookup x = _; rw [hre, re_lookup, hxl]; rfl) hC5 (fun h₆ hn₆ hs₆ => ?_) (by show (scope.kind == .class || (scope.kind == .module && _)) = false; rw [hk]; rfl))
        exact turn h₆ _ _ (I + 2) (.inl rfl) (fun c hc => hs₆.2 c hc) hn₆ (fun n c hm => by
          obtain ⟨v, hv⟩ := ho5 n c hm
          exact ⟨v, hv.sameBut hs₆ (own2 n c hm)⟩) (fun _ => by simp) (fun q => by rw [hxl] at q; cases q)
      · obtain ⟨cx, hcx'⟩ := hcx hxc
        have hm := mem_of_lookup hcx'
        obtain ⟨v₀, hv₀⟩ := ho5 x cx hm
        refine wpAny_assign_Name (wpAny_storeName_cell (env := cenv) (show scope.kind = _ from hk) (by show (relabel scope env).names.lookup x = _; rw [hre, re_lookup, hxc]; rfl) (show (own ++ clF env scope.names []).lookup x = some cx by rw [lookup_append, hcx']; rfl) hv₀ (fun h₆ hv₆ hs₆ => ?_))
        exact turn h₆ _ ml cx (.inr ⟨x, hm⟩) (fun c hc => hs₆.2 c hc) (hC5.sameBut hs₆ (Ne.symm (own2 x cx hm))) (fun n c hm' => by
          by_cases hc : c = cx
          · exact ⟨_, hc ▸ hv₆⟩
          · obtain ⟨v, hv⟩ := ho5 n c hm'
            exact ⟨v, hv.sameBut hs₆ hc⟩) (fun q => by rw [hxc] at q; cases q) (fun _ => ⟨cx, hcx', hv₆⟩)
    · have hin : i = xs.length := by lia
      subst hin
      refine W.done _ _ _ sti fun h₅ tk₅ hk₅ => ?_
      have ne1 : I + 1 ∉ [I] := notI _ (by lia)
      have ne2 : I + 2 ∉ [I] := notI _ (by lia)
      have g5 : GrowM U z s.heap zi h₅ := g.upd (d := I) (fun c o hc e => hk₅ c o (fun q => hc (List.mem_singleton.mp q)) e) (frs I (Nat.le_refl _)) (hzi I (.inl rfl))
      exact h (I + 1) (I + 2) ys m zi h₅ tk₅ ml Pv (.inr (.inl rfl)) (.inr (.inr (.inl rfl))) g5 (U.st pi fun c o mm e => hk₅ c o (notI c (mne c mm).1) e) (frs _ (Nat.le_succ _)) (hzi _ (.inr (.inl rfl))) (hk₅ _ _ ne1 hDi) (Yk Pv _ zi h' h₅ ys hri fun c o hc e => hk₅ c o (fun q => hc (.inl (List.mem_singleton.mp q))) e) (frs _ (Nat.le_add_right _ 2)) (hzi _ (.inr (.inr (.inl rfl))))
        (show (I + 2 : Nat) ≠ I + 1 by lia) (hCi.at' fun o e => hk₅ _ o ne2 e) (fun mm => (mne _ mm).2.2 rfl) (fun mm => (mne _ mm).2.1 rfl)
  exact codeAny_compStart_list loop (W.self 0 _ _ _ hst4 loop)

/-- a comprehension of one clause, whatever is done with it -/
theorem comp_core {elt iter : Expr} {ifs : List Expr} {x : Str} {px pos : Pos} {scope : Scope} {src : AV} {xs : List AV} (t : Nat → T) (r : Nat → Option AV)
    (hit : Ev prog w b k ns σ iter src) (hsrc : ∀ z v, Rep z v src → Src z v xs)
    (hel : ∀ i a, xs[i]? = some a → ElM prog w b k (reNs scope.names ns) ((x, a) :: inner scope.names σ) U (t i) ifs elt (r i) (t (i + 1)))
    (hsz : xs.length ≤ sizeLine)
    (hk : scope.kind = .function) (hnames : ∀ y ∈ scope.names, y.2 = .local → scope.names.lookup y.1 = some .local)
    (hx : scope.names.lookup x = some .local ∨ scope.names.lookup x = some .cell)
    (hfree : ∀ n, (n, NameKind.free) ∈ scope.names → (σ.lookup n).isSome = true ∧ (ns.lookup n = some .cell ∨ ns.lookup n = some .free))
    (hown : ∀ n, scope.names.lookup n = some .free → (n, NameKind.free) ∈ scope.names ∧ (cellsFrom 0 scope.names []).lookup n = none)
    (hxo : scope.names.lookup x = some .cell → ((cellsFrom 0 scope.names []).lookup x).isSome = true)
    {use : Option (Value → Sem Unit)} {pos' : Pos} {env : Env} {z : Heap} {A : Around} {s : Shared} {Q E : Value → Shared → Prop} (X : EnvOK w b ns env z s.heap σ) (R : Room A k) (ap : Apart U env z) (p : U.P (t 0) s.heap)
    (h : ∀ (l C : Addr) vs n z' h' tk ml, GrowM U z s.heap z' h' → U.P (t xs.length) h' → s.heap.get? l = none → z'.get? l = none → h'.get? l = some (lstO vs n) → Reps z' vs ((List.range xs.length).filterMap r) →
      s.heap.get? C = none → z'.get? C = none → C ≠ l → h'.Ns C ml → ¬ U.M C → ¬ U.M l → compPost (model prog w) A E use Q (.ref l) C (.ok .next) (sh s h' tk))
    (hs : ∀ x, foldedSetIterable iter env x = pure x) :
    wpAny (model prog w) A (comprehension (.ListComp elt [⟨.Name x px, iter, ifs, 0⟩] scope pos) scope env pos' (newList []) false (eval iter env) use) Q E s := by
  refine comp_coreY t (fun _ i z _ ys => Reps z ys ((List.range i).filterMap r)) (fun _ _ _ _ _ _ y _ => y) hit hsrc (fun i a hxa env z A s E ys Pv X R ap p hpv hri => ?_) hsz hk hnames hx hfree hown hxo (fun _ _ _ _ _ => .nil) X R ap p
    (fun l C vs n z' h' tk ml Pv _ _ g p' n1 n2 e1 r1 c1 c2 c3 c4 c5 c6 => h l C vs n z' h' tk ml g p' n1 n2 e1 r1 c1 c2 c3 c4 c5 c6) hs
  have rs : (List.range (i + 1)).filterMap r = (List.range i).filterMap r ++ (r i).toList := by
    rw [List.range_succ, List.filterMap_append]
    cases q : r i <;> simp [q]
  refine wpAny_mono (hel i a hxa env z A s _ X R ap p) (fun ok s₃ h₃ => ?_) fun _ _ e => e
  obtain ⟨z₃, h₃', tk₃, t₃, rfl, g₃, p₃, hok, hf, ht⟩ := h₃
  refine ⟨z₃, h₃', tk₃, t₃, rfl, g₃, p₃, fun q => ⟨hf q, ?_⟩, fun q => wpAny_mono (ht q) (fun y s₄ h₄ => ?_) fun _ _ e => e⟩
  · have hn : r i = none := by cases q' : r i with | none => rfl | some _ => rw [q', q] at hok; cases hok
    show Reps z₃ ys ((List.range (i + 1)).filterMap r)
    rw [rs, hn]; simpa using hri.le g₃.zz
  · obtain ⟨z₄, h₄', tk₄, a₄, rfl, g₄, p₄', hra, hya⟩ := h₄
    refine ⟨z₄, h₄', tk₄, rfl, g₄, p₄', ?_⟩
    show Reps z₄ (ys ++ [y]) ((List.range (i + 1)).filterMap r)
    rw [rs, hra]
    exact ((hri.le g₃.zz).le g₄.zz).append (.cons hya .nil)

/-- the names of a comprehension are as they should be -/
noncomputable def compOk (names ns : List (Str × NameKind)) (keys : List Str) (x : Str) : Bool :=
  names.all (fun y => y.2 != .local || names.lookup y.1 == some .local) && (names.lookup x == some .local || names.lookup x == some .cell) &&
  names.all (fun y => y.2 != .free || (keys.contains y.1 && (ns.lookup y.1 == some .cell || ns.lookup y.1 == some .free))) &&
  names.all (fun y => y.2 != .free || (cellsFrom 0 names []).lookup y.1 == none) && (names.lookup x != some .cell || ((cellsFrom 0 names []).lookup x).isSome)
theorem lookup_isSome_of_keys {n : Str} : ∀ {σ : Sig}, (σ.map (·.1)).contains n = true → (σ.lookup n).isSome = true
  | [], h => by simp at h
  | (m, a) :: σ, h => by
    rw [List.lookup_cons]
    cases hb : n == m with
    | true => rfl
    | false =>
      refine lookup_isSome_of_keys ?_
      rw [List.map_cons, List.contains_cons] at h
      simpa [hb] using h

theorem comp_core' {elt iter : Expr} {ifs : List Expr} {x : Str} {px pos : Pos} {scope : Scope} {src : AV} {xs : List AV} (t : Nat → T) (r : Nat → Option AV)
    (hit : Ev prog w b k ns σ iter src) (hsrc : ∀ z v, Rep z v src → Src z v xs)
    (hel : ∀ i a, xs[i]? = some a → ElM prog w b k (reNs scope.names ns) ((x, a) :: inner scope.names σ) U (t i) ifs elt (r i) (t (i + 1)))
    (hsz : xs.length ≤ sizeLine) (hk : scope.kind = .function) (hok : compOk scope.names ns (σ.map (·.1)) x = true)
    {use : Option (Value → Sem Unit)} {pos' : Pos} {env : Env} {z : Heap} {A : Around} {s : Shared} {Q E : Value → Shared → Prop} (X : EnvOK w b ns env z s.heap σ) (R : Room A k) (ap : Apart U env z) (p : U.P (t 0) s.heap)
    (h : ∀ (l C : Addr) vs n z' h' tk ml, GrowM U z s.heap z' h' → U.P (t xs.length) h' → s.heap.get? l = none → z'.get? l = none → h'.get? l = some (lstO vs n) → Reps z' vs ((List.range xs.length).filterMap r) →
      s.heap.get? C = none → z'.get? C = none → C ≠ l → h'.Ns C ml → ¬ U.M C → ¬ U.M l → compPost (model prog w) A E use Q (.ref l) C (.ok .next) (sh s h' tk))
    (hs : ∀ x, foldedSetIterable iter env x = pure x) :
    wpAny (model prog w) A (comprehension (.ListComp elt [⟨.Name x px, iter, ifs, 0⟩] scope pos) scope env pos' (newList []) false (eval iter env) use) Q E s := by
  unfold compOk at hok
  simp only [Bool.and_eq_true, Bool.or_eq_true, List.all_eq_true, bne_iff_ne, beq_iff_eq] at hok
  obtain ⟨⟨⟨⟨h1, h2⟩, h3⟩, h4⟩, h5⟩ := hok
  refine comp_core t r hit hsrc hel hsz hk (fun y hy e => (h1 y hy).resolve_left (fun q => q e)) h2 (fun n hn => ?_) (fun n hn => ?_) (fun e => h5.resolve_left fun q => q e) X R ap p h hs
  · have := (h3 _ hn).resolve_left (fun q => q rfl)
    exact ⟨lookup_isSome_of_keys this.1, this.2⟩
  · have hm := mem_of_lookup hn
    exact ⟨hm, (h4 _ hm).resolve_left (fun q => q rfl)⟩

theorem comp_coreY' {elt iter : Expr} {ifs : List Expr} {x : Str} {px pos : Pos} {scope : Scope} {src : AV} {xs : List AV} (t : Nat → T) (Y : (Addr → Prop) → Nat → Heap → Heap → List Value → Prop)
    (Yk : ∀ Pv i z h h' ys, Y Pv i z h ys → (∀ c o, ¬ Pv c → h.get? c = some o → h'.get? c = some o) → Y Pv i z h' ys)
    (hit : Ev prog w b k ns σ iter src) (hsrc : ∀ z v, Rep z v src → Src z v xs)
    (hel : ∀ i a, xs[i]? = some a → ElY prog w b k (reNs scope.names ns) ((x, a) :: inner scope.names σ) U Y i (t i) ifs elt (t (i + 1)))
    (hsz : xs.length ≤ sizeLine) (hk : scope.kind = .function) (hok : compOk scope.names ns (σ.map (·.1)) x = true)
    {use : Option (Value → Sem Unit)} {pos' : Pos} {env : Env} {z : Heap} {A : Around} {s : Shared} {Q E : Value → Shared → Prop} (Y0 : ∀ (Pv : Addr → Prop) z' h', (∀ c, Pv c → s.heap.get? c = none) → (∀ c, h'.get? c = none → s.heap.get? c = none) → Y Pv 0 z' h' []) (X : EnvOK w b ns env z s.heap σ) (R : Room A k) (ap : Apart U env z) (p : U.P (t 0) s.heap)
    (h : ∀ (l C : Addr) vs n z' h' tk ml (Pv : Addr → Prop), Pv l → Pv C → GrowM U z s.heap z' h' → U.P (t xs.length) h' → s.heap.get? l = none → z'.get? l = none → h'.get? l = some (lstO vs n) → Y Pv xs.length z' h' vs →
      s.heap.get? C = none → z'.get? C = none → C ≠ l → h'.Ns C ml → ¬ U.M C → ¬ U.M l → compPost (model prog w) A E use Q (.ref l) C (.ok .next) (sh s h' tk))
    (hs : ∀ x, foldedSetIterable iter env x = pure x) :
    wpAny (model prog w) A (comprehension (.ListComp elt [⟨.Name x px, iter, ifs, 0⟩] scope pos) scope env pos' (newList []) false (eval iter env) use) Q E s := by
  unfold compOk at hok
  simp only [Bool.and_eq_true, Bool.or_eq_true, List.all_eq_true, bne_iff_ne, beq_iff_eq] at hok
  obtain ⟨⟨⟨⟨h1, h2⟩, h3⟩, h4⟩, h5⟩ := hok
  refine comp_coreY t Y Yk hit hsrc hel hsz hk (fun y hy e => (h1 y hy).resolve_left (fun q => q e)) h2 (fun n hn => ?_) (fun n hn => ?_) (fun e => h5.resolve_left fun q => q e) Y0 X R ap p h hs
  · have := (h3 _ hn).resolve_left (fun q => q rfl)
    exact ⟨lookup_isSome_of_keys this.1, this.2⟩
  · have hm := mem_of_lookup hn
    exact ⟨hm, (h4 _ hm).resolve_left (fun q => q rfl)⟩

theorem evlm_comp {elt iter : Expr} {ifs : List Expr} {x : Str} {px pos : Pos} {scope : Scope} {src : AV} {xs : List AV} (t : Nat → T) (r : Nat → Option AV)
    (hit : Ev prog w b k ns σ iter src) (hsrc : ∀ z v, Rep z v src → Src z v xs)
    (hel : ∀ i a, xs[i]? = some a → ElM prog w b k (reNs scope.names ns) ((x, a) :: inner scope.names σ) U (t i) ifs elt (r i) (t (i + 1)))
    (hsz : xs.length ≤ sizeLine) (hk : scope.kind = .function) (hok : compOk scope.names ns (σ.map (·.1)) x = true)
    (hs : ∀ (env : Env) x, foldedSetIterable iter env x = pure x := by intro _ _; rfl) :
    EvLM prog w b k ns σ U (t 0) (.ListComp elt [⟨.Name x px, iter, ifs, 0⟩] scope pos) ((List.range xs.length).filterMap r) (t xs.length) := by
  intro env z A s Q E X R ap p h
  rw [eval_ListComp]
  refine comp_core' (use := none) t r hit hsrc hel hsz hk hok X R ap p (fun l C vs n z' h' tk ml g p' n1 n2 e1 r1 c1 c2 c3 c4 c5 c6 => ?_) (hs env)
  refine ⟨ml, c4, fun h₆ hs₆ => h l vs n z' h₆ tk (g.upd (d := C) (fun c o hc e => (hs₆.2 c hc).trans e) c1 c2) (U.st p' fun c o mm e => (hs₆.2 c (fun q => c5 (q ▸ mm))).trans e) n1 n2 ((hs₆.2 l (Ne.symm c3)).trans e1) r1⟩

theorem ElM.pure {ifs : List Expr} {elt : Expr} {c : Bool} {a : AV} (hT : ∀ (env : Env) (z : Heap) (A : Around) (s : Shared) (Q : Bool → Shared → Prop) (E : Value → Shared → Prop), EnvOK w b ns env z s.heap σ → Room A k → (∀ z' h' tk, Grow z s.heap z' h' → Q c (sh s h' tk)) →
      wpAny (model prog w) A (forIn ifs true fun c r => if r = true then do let ok ← isTrue c env (eval c env); pure (ForInStep.yield ok) else pure (ForInStep.yield r)) Q E s)
    (hE : c = true → Ev prog w b k ns σ elt a) : ElM prog w b k ns σ noMut () ifs elt (if c then some a else none) () := by
  intro env z A s E X R ap p
  refine hT env z A s _ E X R fun z₁ h₁ tk₁ g₁ => ⟨z₁, h₁, tk₁, (), rfl, .of g₁, trivial, by cases c <;> rfl, fun _ => rfl, fun hc => ?_⟩
  subst hc
  exact hE rfl env z₁ A _ _ E (X.le g₁) R fun v z₂ h₂ tk₂ g₂ r₂ => ⟨z₂, h₂, tk₂, a, rfl, .of g₂, trivial, rfl, r₂⟩
theorem filterMap_range {α : Type} (p : α → Bool) (f : α → AV) (as : List α) : (List.range as.length).filterMap (fun i => (as[i]?).bind fun a => if p a then some (f a) else none) = (as.filter p).map f := by
  induction as with
  | nil => rfl
  | cons a as ih =>
    rw [List.length_cons, List.range_succ_eq_map, List.filterMap_cons]
    have e : (List.map Nat.succ (List.range as.length)).filterMap (fun i => ((a :: as)[i]?).bind fun a => if p a then some (f a) else none) = (as.filter p).map f := by
      rw [List.filterMap_map, ← ih]; rfl
    rw [e]
    cases hp : p a <;> simp [hp]

section
variable {α : Type}
theorem pure_el {elt : Expr} {ifs : List Expr} {x : Str} {names : List (Str × NameKind)} (as : List α) (enc : α → AV) (p : α → Bool) (f : α → AV)
    (hE : ∀ a ∈ as, ElM prog w b k (reNs names ns) ((x, enc a) :: inner names σ) noMut () ifs elt (if p a then some (f a) else none) ()) :
    ∀ (i : Nat) a', (as.map enc)[i]? = some a' → ElM prog w b k (reNs names ns) ((x, a') :: inner names σ) noMut () ifs elt ((as[i]?).bind fun a => if p a then some (f a) else none) () := by
  intro i a' h
  rw [List.getElem?_map] at h
  cases q : as[i]? with
  | none => rw [q] at h; cases h
  | some a =>
    rw [q] at h
    cases h
    exact hE a (List.mem_of_getElem? q)
/-- [elt for x in iter] -/
theorem ev_comp {elt iter : Expr} {x : Str} {px pos : Pos} {scope : Scope} {src : AV} (as : List α) (enc : α → AV) (f : α → AV)
    (hit : Ev prog w b k ns σ iter src) (hsrc : ∀ z v, Rep z v src → Src z v (as.map enc)) (hsz : as.length ≤ sizeLine)
    (hE : ∀ a ∈ as, Ev prog w b k (reNs scope.names ns) ((x, enc a) :: inner scope.names σ) elt (f a))
    (hk : scope.kind = .function) (hok : compOk scope.names ns (σ.map (·.1)) x = true)
    (hs : ∀ (env : Env) x, foldedSetIterable iter env x = pure x := by intro _ _; rfl) :
    EvL prog w b k ns σ (.ListComp elt [⟨.Name x px, iter, [], 0⟩] scope pos) (as.map f) := by
  have := evlm_comp (prog := prog) (pos := pos) (px := px) (fun _ => ()) _ hit hsrc (pure_el as enc (fun _ => true) f fun a ha => ElM.pure (fun env z A s Q E X R h => wpAny_tests_nil (h z s.heap s.toks (Grow.refl X.zh))) fun _ => hE a ha) (by rw [List.length_map]; exact hsz) hk hok hs
  rw [List.length_map, filterMap_range] at this
  have e : as.filter (fun _ => true) = as := List.filter_eq_self.mpr fun _ _ => rfl
  rw [e] at this
  exact EvL.of_M this
/-- [elt for x in iter if c] -/
theorem ev_compIf {elt iter ct : Expr} {x : Str} {px pos : Pos} {scope : Scope} {src : AV} (as : List α) (enc : α → AV) (p : α → Bool) (f : α → AV)
    (hit : Ev prog w b k ns σ iter src) (hsrc : ∀ z v, Rep z v src → Src z v (as.map enc)) (hsz : as.length ≤ sizeLine)
    (hT : ∀ a ∈ as, EvT prog w b k (reNs scope.names ns) ((x, enc a) :: inner scope.names σ) ct (p a))
    (hE : ∀ a ∈ as, p a = true → Ev prog w b k (reNs scope.names ns) ((x, enc a) :: inner scope.names σ) elt (f a))
    (hk : scope.kind = .function) (hok : compOk scope.names ns (σ.map (·.1)) x = true)
    (hs : ∀ (env : Env) x, foldedSetIterable iter env x = pure x := by intro _ _; rfl) :
    EvL prog w b k ns σ (.ListComp elt [⟨.Name x px, iter, [ct], 0⟩] scope pos) ((as.filter p).map f) := by
  have := evlm_comp (prog := prog) (pos := pos) (px := px) (fun _ => ()) _ hit hsrc (pure_el as enc p f fun a ha => ElM.pure (fun env z A s Q E X R h => wpAny_tests_one (hT a ha env z A s Q E X R h)) (hE a ha)) (by rw [List.length_map]; exact hsz) hk hok hs
  rw [List.length_map, filterMap_range] at this
  exact EvL.of_M this
end
end
end Mine
end
section
open PySem PySem.W PyProof.Rows PySem.Calls PySem.Spec PySem.SeqAt
namespace Mine
section
variable {prog : Program} {w : World} {b : Heap} {k : Nat} {ns : List (Str × NameKind)} {σ : Sig}

inductive DfaAt (z h : Heap) (v : Value) (ar at' : AV) : Prop
  | mk (x d : Addr) (h1 h2 : Int) (t1 t2 : Tok) (vr vt : Value) (n : Nat) (ev : v = .ref x) (I : InstAt h x (instObj cDfa d) cDfa (some (dfaDict h1 h2 t1 t2 vr vt n))) (rr : Rep z vr ar) (rt : Rep z vt at')
theorem dfa_at {z h : Heap} {v : Value} {ar at' : AV} (r : Rep z v (.dfa ar at')) (l : Le z h) : DfaAt z h v ar at' := by
  cases r with | @dfa x d h1 h2 t1 t2 vr vt n ar at' e f r q =>
  exact ⟨x, d, h1, h2, t1, t2, vr, vt, n, rfl, ⟨l _ _ e, rfl, rfl, l _ _ f⟩, r, q⟩

theorem ev_rows (B : Base w b) {v : Expr} {pos : Pos} {R T : List AV} (hv : Ev prog w b k ns σ v (.dfa (.list R) (.list T)))
    (he : ∀ env, eval (.Attribute v (Str.ofString "rows") pos) env = (do
      let o ← eval v env
      standAt pos.atName
      let r ← holding [o] (getAttr o (Str.ofString "rows") true)
      letTemporaryGo v o r
      pure r) := by intro _; with_unfolding_all rfl) : Ev prog w b k ns σ (.Attribute v (Str.ofString "rows") pos) (.list R) := by
  intro env z A s Q E X Rm h
  refine Attribute_any_ (hv env z A s _ E X Rm fun v₁ z₁ h₁ tk₁ g₁ r₁ => ?_) (he env)
  obtain ⟨x, d, h1, h2, t1, t2, vr, vt, n, rfl, I, rr, rt⟩ := dfa_at r₁ g₁.zh
  obtain ⟨L, m, F⟩ := (X.le g₁).fr
  refine get_own F B.K I (by kernel_rfl) (by kernel_rfl) (attr := none) (by kernel_rfl) (by kernel_rfl) (v := vr) (by kernel_rfl) ?_ (h vr z₁ h₁ _ g₁ rr)
  cases rr; rfl
theorem ev_tags (B : Base w b) {v : Expr} {pos : Pos} {R T : List AV} (hv : Ev prog w b k ns σ v (.dfa (.list R) (.list T)))
    (he : ∀ env, eval (.Attribute v (Str.ofString "tags") pos) env = (do
      let o ← eval v env
      standAt pos.atName
      let r ← holding [o] (getAttr o (Str.ofString "tags") true)
      letTemporaryGo v o r
      pure r) := by intro _; with_unfolding_all rfl) : Ev prog w b k ns σ (.Attribute v (Str.ofString "tags") pos) (.list T) := by
  intro env z A s Q E X Rm h
  refine Attribute_any_ (hv env z A s _ E X Rm fun v₁ z₁ h₁ tk₁ g₁ r₁ => ?_) (he env)
  obtain ⟨x, d, h1, h2, t1, t2, vr, vt, n, rfl, I, rr, rt⟩ := dfa_at r₁ g₁.zh
  obtain ⟨L, m, F⟩ := (X.le g₁).fr
  refine get_own F B.K I (by kernel_rfl) (by kernel_rfl) (attr := none) (by kernel_rfl) (by kernel_rfl) (v := vt) (by kernel_rfl) ?_ (h vt z₁ h₁ _ g₁ rt)
  cases rt; rfl

/-- a method without arguments -/
theorem ev_meth0 (B : Base w b) {v : Expr} {ap pos : Pos} {name : Str} {f : Addr} {R T : AV} {r : AV} (hv : Ev prog w b k ns σ v (.dfa R T))
    (hf : findIn (KK w) (.ref cDfa) name = some (some (.ref f))) (hg : plainGet (KK w) cDfa name = true) (hi : isFn (KK w) (.ref f) = true) (hk : keepIn (KK w) (.ref f) = true)
    (hn : ∀ h1 h2 t1 t2 vr vt, getL name [⟨h1, .str (Str.ofString "rows") t1, vr⟩, ⟨h2, .str (Str.ofString "tags") t2, vt⟩] = some none) (H : FnR prog w b k (.ref f) [.dfa R T] r)
    (hm : ∀ env, ∃ pl, eval (.Call (.Attribute v name ap) [] [] pos) env = (do
      let ov ← eval v env
      standAt ap.atName
      let (f, first) ← holding [ov] (getMethod ov name pl)
      callWith pos f first (backTo pos (starEach [] env)) []) := by intro _; exact ⟨_, rfl⟩) :
    Ev prog w b k ns σ (.Call (.Attribute v name ap) [] [] pos) r := by
  intro env z A s Q E X Rm h
  obtain ⟨pl, hm⟩ := hm env
  refine MethodCall_ (pl := pl) (hv env z A s _ E X Rm fun v₁ z₁ h₁ tk₁ g₁ r₁ => ?_) hm
  obtain ⟨x, d, h1, h2, t1, t2, vr, vt, n, rfl, I, rr, rt⟩ := dfa_at r₁ g₁.zh
  have X₁ := X.le g₁
  obtain ⟨L, m, F⟩ := X₁.fr
  refine method_inst F B.K I hg hf hi (hn ..) ?_
  exact callWith_K0 (B.K.keeps ((X.bz.trans g₁.zz).trans g₁.zh)) hk (H z₁ A _ Q E [.ref x] X₁.fr (X.bz.trans g₁.zz) g₁.zh Rm (.cons r₁ .nil) fun v z' h' tk g r => h v z' h' tk (g₁.trans g) r)
end

theorem Grow.upd {z h z' h' h'' : Heap} (x : Grow z h z' h') {d : Addr} (hk : ∀ c o, c ≠ d → h'.get? c = some o → h''.get? c = some o) (n : h.get? d = none) (n' : z'.get? d = none) : Grow z h z' h'' :=
  ⟨x.zz, fun c o e => hk c o (fun q => by rw [q, n'] at e; cases e) (x.zh c o e), fun c o e => hk c o (fun q => by rw [q, n] at e; cases e) (x.hh c o e), x.nw⟩

/-- the state within a def: its frame, the zone of what stands still, the ledger of its own changing objects -/
structure St (w : World) (b : Heap) (ns : List (Str × NameKind)) (base z₀ : Heap) (env : Env) (z h : Heap) (σ : Sig) (led : List (Addr × Obj)) : Prop where
  X : EnvOK w b ns env z h σ
  G : Grow z₀ base z h
  ld : ∀ p ∈ led, h.get? p.1 = some p.2 ∧ z.get? p.1 = none ∧ base.get? p.1 = none ∧ p.1 ≠ env.locals ∧ ∀ n c, (n, c) ∈ env.cells → p.1 ≠ c
  nd : (led.map (·.1)).Nodup
  fl : base.get? env.locals = none ∧ z.get? env.locals = none
  fc : ∀ n c, (n, c) ∈ env.cells → base.get? c = none ∧ z.get? c = none ∧ c ≠ env.locals ∧ ∃ v, h.IsCell c v
  fa : env.cells.Pairwise fun x y => x.2 ≠ y.2
  cc : ∀ x, ns.lookup x = some .cell → ∃ c, env.cells.lookup x = some c
  nf : ∀ x, ns.lookup x ≠ some .free

section
variable {w : World} {b : Heap} {ns : List (Str × NameKind)} {base z₀ : Heap} {env : Env} {z h z' h' : Heap} {σ : Sig} {led : List (Addr × Obj)}
theorem St.grow (S : St w b ns base z₀ env z h σ led) (g : Grow z h z' h') : St w b ns base z₀ env z' h' σ led := by
  obtain ⟨ml, hn, hl⟩ := S.X.loc
  obtain ⟨oL, _, _, eL, _⟩ := id hn
  refine ⟨S.X.le g, S.G.trans g, fun p hp => ?_, S.nd, ⟨S.fl.1, g.off eL S.fl.2⟩, fun n c hm => ?_, S.fa, S.cc, S.nf⟩
  · obtain ⟨e1, e2, e3⟩ := S.ld p hp; exact ⟨g.hh _ _ e1, g.off e1 e2, e3⟩
  · obtain ⟨e1, e2, e3, v, o, e4, e5⟩ := S.fc n c hm; exact ⟨e1, g.off e4 e2, e3, v, o, g.hh _ _ e4, e5⟩
theorem St.more (S : St w b ns base z₀ env z h σ led) (l : Le h h') : St w b ns base z₀ env z h' σ led := S.grow (Grow.step S.X.zh l)
/-- another look at what the names hold -/
theorem EnvOK.see (X : EnvOK w b ns env z h σ) (lz : Le z z') (zh : Le z' h) {τ : Sig} (hs : ∀ x a, τ.lookup x = some a → ∃ a₀, σ.lookup x = some a₀ ∧ ∀ v, Rep z v a₀ → Rep z' v a) : EnvOK w b ns env z' h τ := by
  obtain ⟨ml, hn, hl⟩ := X.loc
  refine ⟨X.bz.trans lz, zh, X.nm, X.kd, X.gl, X.bi, X.top, ⟨ml, hn, fun x a e k => ?_⟩, fun x a e k => ?_, fun x a e => ?_⟩
  · obtain ⟨a₀, e', r⟩ := hs x a e; obtain ⟨v, e1, e2⟩ := hl x a₀ e' k; exact ⟨v, e1, r v e2⟩
  · obtain ⟨a₀, e', r⟩ := hs x a e; obtain ⟨c, v, e1, e2, e3⟩ := X.cel x a₀ e' k; exact ⟨c, v, e1, e2, r v e3⟩
  · obtain ⟨a₀, e', r⟩ := hs x a e; exact X.cov x a₀ e'
theorem St.weak (S : St w b ns base z₀ env z h σ led) {τ : Sig} (hs : ∀ x a, τ.lookup x = some a → σ.lookup x = some a) : St w b ns base z₀ env z h τ led :=
  ⟨S.X.weak hs, S.G, S.ld, S.nd, S.fl, S.fc, S.fa, S.cc, S.nf⟩
theorem St.less (S : St w b ns base z₀ env z h σ led) {led' : List (Addr × Obj)} (hs : ∀ p ∈ led', p ∈ led) (nd : (led'.map (·.1)).Nodup) : St w b ns base z₀ env z h σ led' :=
  ⟨S.X, S.G, fun p hp => S.ld p (hs p hp), nd, S.fl, S.fc, S.fa, S.cc, S.nf⟩
theorem St.drop (S : St w b ns base z₀ env z h σ led) : St w b ns base z₀ env z h σ [] := S.less (fun _ hp => nomatch hp) .nil
/-- a new object of one's own -/
theorem St.push (S : St w b ns base z₀ env z h σ led) (g : Grow z h z' h') {l : Addr} {o : Obj} (n : h.get? l = none) (n' : z'.get? l = none) (e : h'.get? l = some o) : St w b ns base z₀ env z' h' σ ((l, o) :: led) := by
  have S' := S.grow g
  obtain ⟨ml, hn, hl⟩ := S.X.loc
  obtain ⟨oL, _, _, eL, _⟩ := id hn
  refine ⟨S'.X, S'.G, fun p hp => ?_, ?_, S'.fl, S'.fc, S'.fa, S'.cc, S'.nf⟩
  · rcases List.mem_cons.mp hp with rfl | hp
    · refine ⟨e, n', S.G.hh.none n, fun q => ?_, fun m c hm q => ?_⟩
      · rw [show l = env.locals from q, eL] at n; cases n
      · obtain ⟨_, _, _, v, o', e4, _⟩ := S.fc m c hm
        rw [show l = c from q, e4] at n; cases n
    · exact S'.ld p hp
  · rw [List.map_cons, List.nodup_cons]
    refine ⟨fun hm => ?_, S.nd⟩
    obtain ⟨p, hp, q⟩ := List.mem_map.mp hm
    have := (S.ld p hp).1
    rw [q, n] at this; cases this
/-- a store upon an object of one's own -/
theorem St.upd (pre : List (Addr × Obj)) {d : Addr} {o o' : Obj} {post : List (Addr × Obj)} (S : St w b ns base z₀ env z h σ (pre ++ (d, o) :: post)) (hk : ∀ c o, c ≠ d → h.get? c = some o → h'.get? c = some o) (e : h'.get? d = some o') :
    St w b ns base z₀ env z h' σ (pre ++ (d, o') :: post) := by
  obtain ⟨d1, d2, d3, d4, d5⟩ := S.ld (d, o) (List.mem_append_right _ (.head _))
  have G' := S.G.upd hk d3 d2
  obtain ⟨ml, hn, hl⟩ := S.X.loc
  have nd := S.nd
  rw [List.map_append, List.map_cons] at nd
  have hne : ∀ p, p ∈ pre ∨ p ∈ post → p.1 ≠ d := fun p hp q => by
    rw [List.nodup_append] at nd
    rcases hp with hp | hp
    · exact nd.2.2 p.1 (List.mem_map.mpr ⟨p, hp, rfl⟩) d (.head _) q
    · have := (List.nodup_cons.mp nd.2.1).1
      exact this (List.mem_map.mpr ⟨p, hp, q⟩)
  refine ⟨⟨S.X.bz, G'.zh, S.X.nm, S.X.kd, S.X.gl, S.X.bi, S.X.top, ⟨ml, hn.at' fun o e => hk _ o (Ne.symm d4) e, hl⟩, fun x a e k => ?_, S.X.cov⟩, G', fun p hp => ?_, ?_, S.fl, fun n c hm => ?_, S.fa, S.cc, S.nf⟩
  · obtain ⟨c, v, e1, ⟨o, e2, e3⟩, e4⟩ := S.X.cel x a e k
    exact ⟨c, v, e1, ⟨o, hk c o (fun q => d5 x c (mem_of_lookup e1) q.symm) e2, e3⟩, e4⟩
  · rcases List.mem_append.mp hp with hp | hp
    · obtain ⟨e1, e2⟩ := S.ld p (List.mem_append_left _ hp); exact ⟨hk _ _ (hne p (.inl hp)) e1, e2⟩
    · rcases List.mem_cons.mp hp with rfl | hp
      · exact ⟨e, d2, d3, d4, d5⟩
      · obtain ⟨e1, e2⟩ := S.ld p (List.mem_append_right _ (.tail _ hp)); exact ⟨hk _ _ (hne p (.inr hp)) e1, e2⟩
  · rw [List.map_append, List.map_cons]; exact nd
  · obtain ⟨e1, e2, e3, v, o, e4, e5⟩ := S.fc n c hm
    exact ⟨e1, e2, e3, v, o, hk c o (fun q => d5 n c hm q.symm) e4, e5⟩
/-- a change that is nobody's -/
theorem St.other (S : St w b ns base z₀ env z h σ led) {d : Addr} (hk : ∀ c o, c ≠ d → h.get? c = some o → h'.get? c = some o) (d2 : z.get? d = none) (d3 : base.get? d = none) (d4 : d ≠ env.locals) (d5 : ∀ n c, (n, c) ∈ env.cells → d ≠ c) (d6 : ∀ p ∈ led, p.1 ≠ d) :
    St w b ns base z₀ env z h' σ led := by
  have G' := S.G.upd hk d3 d2
  obtain ⟨ml, hn, hl⟩ := S.X.loc
  refine ⟨⟨S.X.bz, G'.zh, S.X.nm, S.X.kd, S.X.gl, S.X.bi, S.X.top, ⟨ml, hn.at' fun o e => hk _ o (Ne.symm d4) e, hl⟩, fun x a e k => ?_, S.X.cov⟩, G', fun p hp => ?_, S.nd, S.fl, fun n c hm => ?_, S.fa, S.cc, S.nf⟩
  · obtain ⟨c, v, e1, ⟨o, e2, e3⟩, e4⟩ := S.X.cel x a e k
    exact ⟨c, v, e1, ⟨o, hk c o (fun q => d5 x c (mem_of_lookup e1) q.symm) e2, e3⟩, e4⟩
  · obtain ⟨e1, e2⟩ := S.ld p hp; exact ⟨hk _ _ (d6 p hp) e1, e2⟩
  · obtain ⟨e1, e2, e3, v, o, e4, e5⟩ := S.fc n c hm
    exact ⟨e1, e2, e3, v, o, hk c o (fun q => d5 n c hm q.symm) e4, e5⟩
/-- an object of one's own stands still from here on -/
theorem St.freeze {l : Addr} {o : Obj} {τ : Sig} (S : St w b ns base z₀ env z h σ ((l, o) :: led)) (hs : ∀ z', Le z z' → z'.get? l = some o → ∀ x a, τ.lookup x = some a → ∃ a₀, σ.lookup x = some a₀ ∧ ∀ v, Rep z v a₀ → Rep z' v a) :
    ∃ z', Le z z' ∧ z'.get? l = some o ∧ St w b ns base z₀ env z' h τ led := by
  obtain ⟨d1, d2, d3, d4, d5⟩ := S.ld (l, o) (.head _)
  have key : ∀ c, (mask h fun c => (z.get? c).isSome || c == l).get? c = if ((z.get? c).isSome || c == l) = true then h.get? c else none := fun c => mask_get _ _ _
  have lz : Le z (mask h fun c => (z.get? c).isSome || c == l) := fun c o' q => by rw [key, q]; simpa using S.X.zh _ _ q
  have zh : Le (mask h fun c => (z.get? c).isSome || c == l) h := fun c o' q => by
    rw [key] at q; split at q
    · exact q
    · cases q
  have el : (mask h fun c => (z.get? c).isSome || c == l).get? l = some o := by rw [key]; simpa using d1
  have off : ∀ c, c ≠ l → z.get? c = none → (mask h fun c => (z.get? c).isSome || c == l).get? c = none := fun c hc hz => by rw [key, hz]; simp [hc]
  refine ⟨_, lz, el, S.X.see lz zh (hs _ lz el), ⟨S.G.zz.trans lz, zh, S.G.hh, fun c o' q => ?_⟩, fun p hp => ?_, (List.nodup_cons.mp S.nd).2, ⟨S.fl.1, off _ (fun q => d4 q.symm) S.fl.2⟩, fun n c hm => ?_, S.fa, S.cc, S.nf⟩
  · by_cases hc : c = l
    · exact .inr (hc ▸ d3)
    · cases hz : z.get? c with
      | none => rw [off c hc hz] at q; cases q
      | some o'' => exact S.G.nw c o' (by rw [lz _ _ hz] at q; cases q; exact hz)
  · obtain ⟨e1, e2, e3⟩ := S.ld p (.tail _ hp)
    exact ⟨e1, off _ (fun q => (List.nodup_cons.mp S.nd).1 (List.mem_map.mpr ⟨p, hp, q⟩)) e2, e3⟩
  · obtain ⟨e1, e2, e3, v⟩ := S.fc n c hm
    exact ⟨e1, off _ (fun q => d5 n c hm q.symm) e2, e3, v⟩
end

section
variable {prog : Program} {w : World} {b : Heap} {k : Nat} {ns : List (Str × NameKind)} {base z₀ : Heap} {env : Env} {z : Heap} {σ : Sig} {led : List (Addr × Obj)} {A : Around} {s : Shared}
/-- a name is bound -/
theorem st_store {x : Str} {v : Value} {a : AV} {Q : Unit → Shared → Prop} {E : Value → Shared → Prop} (S : St w b ns base z₀ env z s.heap σ led) (r : Rep z v a) (hx : ns.lookup x = some .local ∨ ns.lookup x = some .cell)
    (h : ∀ h' tk, St w b ns base z₀ env z h' ((x, a) :: σ) led → (∀ c, c ≠ env.locals → (∀ n d, (n, d) ∈ env.cells → c ≠ d) → h'.get? c = s.heap.get? c) → Q () (sh s h' tk)) : wpAny (model prog w) A (storeName env x v) Q E s := by
  have hk : env.kindOf x = ns.lookup x := by unfold Env.kindOf; rw [S.X.nm]
  obtain ⟨ml, hn, hl⟩ := S.X.loc
  rcases hx with hx | hx
  · refine wpAny_storeName_local (hk.trans hx) hn (fun h' hn' hs => ?_) (by rw [S.X.kd]; rfl)
    have kp : ∀ c o, c ≠ env.locals → s.heap.get? c = some o → h'.get? c = some o := fun c o hc e => (hs.2 c hc).trans e
    have G' := S.G.upd kp S.fl.1 S.fl.2
    refine h h' _ ⟨⟨S.X.bz, G'.zh, S.X.nm, S.X.kd, S.X.gl, S.X.bi, S.X.top, ⟨_, hn', fun y a' e q => ?_⟩, fun y a' e q => ?_, fun y a' e => ?_⟩, G', fun p hp => ?_, S.nd, S.fl, fun n c hm => ?_, S.fa, S.cc, S.nf⟩ (fun c hc _ => hs.2 c hc)
    · by_cases hy : y = x
      · subst hy; rw [List.lookup_cons, beq_self_eq_true] at e; cases e; exact ⟨v, by simp, r⟩
      · rw [List.lookup_cons, beq_eq_false_iff_ne.mpr hy] at e
        obtain ⟨v', e1, e2⟩ := hl y a' e q
        exact ⟨v', by simp [hy, e1], e2⟩
    · have hy : y ≠ x := fun q' => by subst q'; rw [hx] at q; rcases q with q | q <;> cases q
      rw [List.lookup_cons, beq_eq_false_iff_ne.mpr hy] at e
      obtain ⟨c, v', e1, ⟨o, e2, e3⟩, e4⟩ := S.X.cel y a' e q
      exact ⟨c, v', e1, ⟨o, kp c o (S.fc y c (mem_of_lookup e1)).2.2.1 e2, e3⟩, e4⟩
    · by_cases hy : y = x
      · subst hy; exact .inl hx
      · rw [List.lookup_cons, beq_eq_false_iff_ne.mpr hy] at e; exact S.X.cov y a' e
    · obtain ⟨e1, e2⟩ := S.ld p hp; exact ⟨kp _ _ e2.2.2.1 e1, e2⟩
    · obtain ⟨e1, e2, e3, v', o, e4, e5⟩ := S.fc n c hm; exact ⟨e1, e2, e3, v', o, kp c o e3 e4, e5⟩
  · obtain ⟨c, hc⟩ := S.cc x hx
    have hm := mem_of_lookup hc
    obtain ⟨c1, c2, c3, v₀, hv₀⟩ := S.fc x c hm
    refine wpAny_storeName_cell S.X.kd (hk.trans hx) hc hv₀ fun h' hv' hs => ?_
    have kp : ∀ d o, d ≠ c → s.heap.get? d = some o → h'.get? d = some o := fun d o hd e => (hs.2 d hd).trans e
    have G' := S.G.upd kp c1 c2
    refine h h' s.toks ⟨⟨S.X.bz, G'.zh, S.X.nm, S.X.kd, S.X.gl, S.X.bi, S.X.top, ⟨ml, hn.at' fun o e => kp _ o (Ne.symm c3) e, fun y a' e q => ?_⟩, fun y a' e q => ?_, fun y a' e => ?_⟩, G', fun p hp => ?_, S.nd, S.fl, fun n d hd => ?_, S.fa, S.cc, S.nf⟩ (fun d _ hd => hs.2 d (hd x c hm))
    · have hy : y ≠ x := fun q' => by subst q'; rw [hx] at q; cases q
      rw [List.lookup_cons, beq_eq_false_iff_ne.mpr hy] at e
      exact hl y a' e q
    · by_cases hy : y = x
      · subst hy; rw [List.lookup_cons, beq_self_eq_true] at e; cases e; exact ⟨c, v, hc, hv', r⟩
      · rw [List.lookup_cons, beq_eq_false_iff_ne.mpr hy] at e
        obtain ⟨d, v', e1, ⟨o, e2, e3⟩, e4⟩ := S.X.cel y a' e q
        exact ⟨d, v', e1, ⟨o, kp d o (fun q' => hy (name_of_addr S.fa (mem_of_lookup e1) (q' ▸ hm))) e2, e3⟩, e4⟩
    · by_cases hy : y = x
      · subst hy; exact .inr (.inl hx)
      · rw [List.lookup_cons, beq_eq_false_iff_ne.mpr hy] at e; exact S.X.cov y a' e
    · obtain ⟨e1, e2⟩ := S.ld p hp; exact ⟨kp _ _ (e2.2.2.2 x c hm) e1, e2⟩
    · obtain ⟨e1, e2, e3, v', hv⟩ := S.fc n d hd
      by_cases q : d = c
      · exact ⟨e1, e2, e3, _, q ▸ hv'⟩
      · obtain ⟨o, e4, e5⟩ := hv; exact ⟨e1, e2, e3, v', o, kp d o q e4, e5⟩
end
end Mine
end
section
open PySem PySem.W PyProof.Rows PySem.Calls PySem.Spec PySem.SeqAt
namespace Mine

theorem bindL_out (kd : Str → Option NameKind) (x : Str) : ∀ (bs : List (Str × Value)) (m : Str → Option Value), x ∉ bs.map (·.1) → bindL kd bs m x = m x
  | [], _, _ => rfl
  | (n, v) :: r, m, h => by
    simp only [List.map_cons, List.mem_cons, not_or] at h
    unfold bindL
    rw [bindL_out kd x r _ h.2]
    split
    · simp [h.1]
    · rfl
theorem bindL_get (kd : Str → Option NameKind) (x : Str) (hx : kd x = some .local) (v : Value)  (bs : List (Str × Value)) : ∀ (m : Str → Option Value), (bs.map (·.1)).Nodup → bs.lookup x = some v → bindL kd bs m x = some v := by
  induction bs with
  | nil => intro _ _ h; cases h
  | cons p r ih =>
    obtain ⟨n, u⟩ := p
    intro m hn h
    rw [List.map_cons, List.nodup_cons] at hn
    unfold bindL
    by_cases hq : x = n
    · subst hq
      rw [List.lookup_cons, beq_self_eq_true] at h
      cases h
      rw [bindL_out kd x r _ hn.1, if_pos hx]; simp
    · rw [List.lookup_cons, beq_eq_false_iff_ne.mpr hq] at h
      exact ih _ hn.2 h
theorem bindC_out (kd : Str → Option NameKind) (x : Str) : ∀ (bs : List (Str × Value)) (m : Str → Option Value), x ∉ bs.map (·.1) → bindC kd bs m x = m x
  | [], _, _ => rfl
  | (n, v) :: r, m, h => by
    simp only [List.map_cons, List.mem_cons, not_or] at h
    unfold bindC
    rw [bindC_out kd x r _ h.2]
    split
    · rfl
    · simp [h.1]
theorem bindC_get (kd : Str → Option NameKind) (x : Str) (hx : kd x = some .cell) (v : Value) : ∀ (bs : List (Str × Value)) (m : Str → Option Value), (bs.map (·.1)).Nodup → bs.lookup x = some v → bindC kd bs m x = some v
  | [], _, _, h => by cases h
  | (n, u) :: r, m, hn, h => by
    rw [List.map_cons, List.nodup_cons] at hn
    unfold bindC
    by_cases hq : x = n
    · subst hq
      rw [List.lookup_cons, beq_self_eq_true] at h
      cases h
      rw [bindC_out kd x r _ hn.1, if_neg (by rw [hx]; decide)]; simp
    · rw [List.lookup_cons, beq_eq_false_iff_ne.mpr hq] at h
      exact bindC_get kd x hx v r _ hn.2 h
theorem zip_lookup {z : Heap} {x : Str} {a : AV} {ps : List Str} {vs : List Value} {as : List AV} (H : Reps z vs as) (h : (ps.zip as).lookup x = some a) : ∃ v, (ps.zip vs).lookup x = some v ∧ Rep z v a := by
  refine H.ind (P := fun vs as => ∀ ps : List Str, (ps.zip as).lookup x = some a → ∃ v, (ps.zip vs).lookup x = some v ∧ Rep z v a) (fun ps h => by rw [List.zip_nil_right] at h; cases h) (fun {v a' vs as} hr _ ih ps h => ?_) ps h
  cases ps with
  | nil => cases h
  | cons p ps =>
    rw [List.zip_cons_cons, List.lookup_cons] at h ⊢
    cases hb : x == p with
    | true => rw [hb] at h; cases h; exact ⟨v, rfl, hr⟩
    | false => rw [hb] at h; exact ih ps h
theorem zip_keys {α : Type} : ∀ {ps : List Str} {vs : List α}, vs.length = ps.length → (ps.zip vs).map (·.1) = ps
  | [], _, _ => by simp
  | p :: ps, v :: vs, h => by simp at h; simp [zip_keys h]

noncomputable def defOk (ns : List (Str × NameKind)) (ps : List Str) : Bool :=
  ps.all (fun x => ns.lookup x == some .local || ns.lookup x == some .cell) && decide ps.Nodup && decide ((cellsFrom 0 ns []).map (·.1)).Nodup && ns.all (fun y => y.2 != .free)

section
variable {prog : Program} {w : World} {b : Heap} {k : Nat} {ns : List (Str × NameKind)} {A : Around} {s : Shared} {E : Value → Shared → Prop}
theorem enterT (B : Base w b) {f : Addr} {fd : FuncData} {oc : Value} {od : Option Addr} {osl : Array (Option Value)} {body : List Stmt} {as : List AV} {ps : List Str} {vs : List Value} {z : Heap} {Q : Value → Shared → Prop}
    (ho : (KK w).lookup f = some ⟨oc, od, .func fd, osl⟩) (hcd : codeIn (KK w) fd.code fd.qualname = true) (hb : fd.body = .stmts body) (hclo : fd.closure = []) (hgl : fd.globals = mainGlobals) (hbi : fd.builtins = builtinsNs) (hn : fd.scope.names = ns)
    (hco : fd.scope.isCoroutine = false) (hgen : fd.scope.isGenerator = false) (hk : fd.scope.kind = .function) (hl : as.length = ps.length) (hbind : bindArgs fd ⟨vs, []⟩ = pure (ps.zip vs)) (hok : defOk ns ps = true)
    (top : b.objs.size ≤ s.heap.objs.size) (bz : Le b z) (lz : Le z s.heap) (R : Room A (k + 1)) (r : Reps z vs as)
    (h : ∀ env h₁ tk₁, St w b ns s.heap z env z h₁ (ps.zip as) [] → Room (A.deeper env) k → wpAny (model prog w) (A.deeper env) (execs body env) (fun fl s' => Q (match fl with | .ret v => v | _ => .none) s') (fun _ _ => False) (sh s h₁ tk₁)) :
    wpAny (model prog w) A (call (.ref f) vs) Q E s := by
  unfold defOk at hok
  simp only [Bool.and_eq_true, decide_eq_true_eq, List.all_eq_true, Bool.or_eq_true, beq_iff_eq, bne_iff_ne] at hok
  obtain ⟨⟨⟨k1, k2⟩, k3⟩, k4⟩ := hok
  have bs := bz.trans lz
  have hvl : vs.length = ps.length := r.length.trans hl
  refine wpAny_call (codeAny_call_cells (fd := fd) (body := body) (binds := ps.zip vs) (R := fun r s' => match r with | .ok (.ret v) => Q v s' | .ok _ => False | .error e => E e s') (by have := R.dep; lia) (bs _ _ (B.K _ _ ho)) rfl (B.nolimit.keeps bs) (codeRec_of (B.K.keeps bs) hcd) hb hbind hclo (fun x hx => ?_) (fun s₁ x => ?_) hco hgen hk)
  · rw [hn]
    have hp : x.1 ∈ ps := (List.of_mem_zip hx).1
    rcases k1 _ hp with q | q
    · exact .inl q
    · exact .inr ⟨q, cellsFrom_some _ _ _ (.inl q)⟩
  · obtain ⟨h₁, tk₁, rfl, keep⟩ := x.done
    have kd : (callEnvC fd s.heap.objs.size f).kindOf = fun y => ns.lookup y := by funext y; show fd.scope.names.lookup y = _; rw [hn]
    have hcells : (callEnvC fd s.heap.objs.size f).cells = cellsFrom (s.heap.objs.size + 1) ns [] := by show cellsFrom _ fd.scope.names [] = _; rw [hn]
    have hnd : ((cellsFrom (s.heap.objs.size + 1) ns []).map (·.1)).Nodup := cellsFrom_names ns 0 (s.heap.objs.size + 1) [] [] rfl ▸ k3
    have hkeys : (ps.zip vs).map (·.1) = ps := zip_keys hvl
    refine wpAny_mono (h (callEnvC fd s.heap.objs.size f) h₁ tk₁ ?_ R.deeper) (fun fl s' q => q) (fun _ _ q => q.elim)
    refine ⟨⟨bz, lz.trans keep, hn, hk, hgl, hbi, top, ⟨_, x.toInCall.ns, fun y a e q => ?_⟩, fun y a e q => ?_, fun y a e => ?_⟩, ⟨Le.rfl, lz.trans keep, keep, fun _ _ e => .inl e⟩, (fun _ hp => nomatch hp), .nil, ⟨get_fresh _ (Nat.le_refl _), lz.none (get_fresh _ (Nat.le_refl _))⟩, fun n c hm => ?_, x.apart, fun y q => ?_, fun y q => ?_⟩
    · obtain ⟨v, e1, e2⟩ := zip_lookup r e
      exact ⟨v, bindL_get _ y (by rw [kd]; exact q) v _ _ (by rw [hkeys]; exact k2) e1, e2⟩
    · rcases q with q | q
      · obtain ⟨v, e1, e2⟩ := zip_lookup r e
        have hc := cellsFrom_some ns (s.heap.objs.size + 1) [] (.inl q)
        obtain ⟨c, hc⟩ := Option.isSome_iff_exists.mp hc
        refine ⟨c, v, by rw [hcells]; exact hc, ?_, e2⟩
        have := x.cell y c (by rw [hcells]; exact hc)
        rwa [bindC_get _ y (by rw [kd]; exact q) v _ _ (by rw [hkeys]; exact k2) e1] at this
      · exact absurd rfl (k4 _ (mem_of_lookup q))
    · obtain ⟨v, e1, e2⟩ := zip_lookup r e
      have hp : y ∈ ps := (List.of_mem_zip (mem_of_lookup e1)).1
      rcases k1 _ hp with q | q
      · exact .inl q
      · exact .inr (.inl q)
    · have hlt := x.above n c hm
      have hlt' : s.heap.objs.size < c := hlt
      refine ⟨get_fresh _ (Nat.le_of_lt hlt'), lz.none (get_fresh _ (Nat.le_of_lt hlt')), Nat.ne_of_gt hlt, _, x.cell n c (by rw [hcells] at hm ⊢; exact lookup_of_mem_nodup hnd hm)⟩
    · obtain ⟨c, hc⟩ := Option.isSome_iff_exists.mp (cellsFrom_some ns (s.heap.objs.size + 1) [] (.inl q))
      exact ⟨c, by rw [hcells]; exact hc⟩
    · exact absurd rfl (k4 _ (mem_of_lookup q))
theorem enter (B : Base w b) {f : Addr} {fd : FuncData} {oc : Value} {od : Option Addr} {osl : Array (Option Value)} {body : List Stmt} {as : List AV} {ps : List Str} {vs : List Value} {z : Heap} {Q : Value → Shared → Prop}
    (ho : (KK w).lookup f = some ⟨oc, od, .func fd, osl⟩) (hcd : codeIn (KK w) fd.code fd.qualname = true) (hb : fd.body = .stmts body) (hclo : fd.closure = []) (hgl : fd.globals = mainGlobals) (hbi : fd.builtins = builtinsNs) (hn : fd.scope.names = ns)
    (hco : fd.scope.isCoroutine = false) (hgen : fd.scope.isGenerator = false) (hk : fd.scope.kind = .function) (hl : as.length = ps.length) (hbind : bindArgs fd ⟨vs, []⟩ = pure (ps.zip vs)) (hok : defOk ns ps = true)
    (F : HasFr b s.heap) (bz : Le b z) (lz : Le z s.heap) (R : Room A (k + 1)) (r : Reps z vs as)
    (h : ∀ env h₁ tk₁, St w b ns s.heap z env z h₁ (ps.zip as) [] → Room (A.deeper env) k → wpAny (model prog w) (A.deeper env) (execs body env) (fun fl s' => Q (match fl with | .ret v => v | _ => .none) s') (fun _ _ => False) (sh s h₁ tk₁)) :
    wpAny (model prog w) A (call (.ref f) vs) Q E s :=
  enterT B ho hcd hb hclo hgl hbi hn hco hgen hk hl hbind hok (by
    obtain ⟨L, m, f⟩ := F
    exact Nat.le_trans f.above (Nat.le_of_lt f.ns.lt)) bz lz R r h
end
end Mine
end
section
open PySem PySem.W PyProof.Rows PySem.Calls PySem.Spec PySem.SeqAt
namespace Mine
section
variable {prog : Program} {w : World} {b : Heap} {k : Nat} {ns : List (Str × NameKind)} {base z₀ : Heap} {env : Env} {z : Heap} {σ : Sig} {led : List (Addr × Obj)} {A : Around} {s : Shared} {E : Value → Shared → Prop}

noncomputable abbrev KindOk (ns : List (Str × NameKind)) (x : Str) : Prop := ns.lookup x = some .local ∨ ns.lookup x = some .cell

theorem ex_nil {Q : Flow → Shared → Prop} (h : Q .next s) : wpAny (model prog w) A (execs [] env) Q E s := wpAny_execs_nil h
theorem ex_ret {e : Expr} {pos : Pos} {rest : List Stmt} {a : AV} {Q : Flow → Shared → Prop} (S : St w b ns base z₀ env z s.heap σ led) (R : Room A k) (H : Ev prog w b k ns σ e a)
    (h : ∀ v z' h' tk, St w b ns base z₀ env z' h' σ led → Rep z' v a → Q (.ret v) (sh s h' tk)) : wpAny (model prog w) A (execs (.Return (some e) pos :: rest) env) Q E s :=
  ex_cons (wpAny_Return_some (H env z A s _ E S.X R fun v z' h' tk g r => h v z' h' tk (S.grow g) r))
theorem ex_retL {e : Expr} {pos : Pos} {rest : List Stmt} {xs : List AV} {Q : Flow → Shared → Prop} (S : St w b ns base z₀ env z s.heap σ led) (R : Room A k) (H : EvL prog w b k ns σ e xs)
    (h : ∀ l vs n z' h' tk, St w b ns base z₀ env z' h' σ ((l, lstO vs n) :: led) → Reps z' vs xs → Q (.ret (.ref l)) (sh s h' tk)) : wpAny (model prog w) A (execs (.Return (some e) pos :: rest) env) Q E s :=
  ex_cons (wpAny_Return_some (H env z A s _ E S.X R fun l vs n z' h' tk g n1 n2 e1 r => h l vs n z' h' tk (S.push g n1 n2 e1) r))
/-- x = e -/
theorem ex_assign {x : Str} {px pos : Pos} {value : Expr} {rest : List Stmt} {a : AV} {Q : Flow → Shared → Prop} (S : St w b ns base z₀ env z s.heap σ led) (R : Room A k) (H : Ev prog w b k ns σ value a) (hx : KindOk ns x)
    (h : ∀ z' h' tk, St w b ns base z₀ env z' h' ((x, a) :: σ) led → Le z z' → wpAny (model prog w) A (execs rest env) Q E (sh s h' tk))
    (hs : swapsWith value (some (.Name x px)) pos.line env = pure false := by rfl) : wpAny (model prog w) A (execs (.Assign [.Name x px] value pos :: rest) env) Q E s :=
  ex_cons (wpAny_Assign_Name (H env z A s _ E S.X R fun v z' h' tk g r => st_store (s := (sh s h' tk)) (S.grow g) r hx fun h'' tk' S' _ => h z' h'' tk' S' g.zz) hs)
/-- x = a new list of one's own -/
theorem ex_assignL {x : Str} {px pos : Pos} {value : Expr} {rest : List Stmt} {xs : List AV} {Q : Flow → Shared → Prop} (S : St w b ns base z₀ env z s.heap σ led) (R : Room A k) (H : EvL prog w b k ns σ value xs) (hx : KindOk ns x)
    (h : ∀ l vs n z' h' tk, St w b ns base z₀ env z' h' ((x, .val (.ref l)) :: σ) ((l, lstO vs n) :: led) → Reps z' vs xs → Le z z' → wpAny (model prog w) A (execs rest env) Q E (sh s h' tk))
    (hs : swapsWith value (some (.Name x px)) pos.line env = pure false := by rfl) : wpAny (model prog w) A (execs (.Assign [.Name x px] value pos :: rest) env) Q E s :=
  ex_cons (wpAny_Assign_Name (H env z A s _ E S.X R fun l vs n z' h' tk g n1 n2 e1 r => st_store (s := (sh s h' tk)) (S.push g n1 n2 e1) (.val _) hx fun h'' tk' S' _ => h l vs n z' h'' tk' S' r g.zz) hs)
/-- a number, a bool: seen with all that stands now -/
inductive Flat : AV → Prop
  | int (i : Int) : Flat (.int i)
  | bool (c : Bool) : Flat (.bool c)
  | none : Flat .none
  | val (v : Value) : Flat (.val v)
theorem Flat.rep {a : AV} (f : Flat a) {z z' : Heap} {v : Value} (r : Rep z v a) : Rep z' v a := by
  cases f with
  | int i => obtain ⟨t, rfl⟩ := r.int_inv; exact .int _ _
  | bool c => rw [r.bool_inv]; exact .bool _
  | none => rw [r.none_inv]; exact .none
  | val u => rw [r.val_inv]; exact .val _
/-- what the names hold, seen with all that stands now -/
noncomputable abbrev Sees (h : Heap) (σ τ : Sig) : Prop := ∀ x a, τ.lookup x = some a → ∃ a₀, σ.lookup x = some a₀ ∧ ∀ v, Rep h v a₀ → Rep h v a
theorem St.view (S : St w b ns base z₀ env z s.heap σ led) {τ : Sig} (hs : Sees s.heap σ τ) : EnvOK w b ns env s.heap s.heap τ :=
  S.X.see S.X.zh Le.rfl fun x a e => by
    obtain ⟨a₀, e', r⟩ := hs x a e
    exact ⟨a₀, e', fun v q => r v (q.le S.X.zh)⟩
theorem St.eval {τ : Sig} {e : Expr} {a : AV} {Q : Value → Shared → Prop} (S : St w b ns base z₀ env z s.heap σ led) (hs : Sees s.heap σ τ) (R : Room A k) (H : Ev prog w b k ns τ e a) (f : Flat a)
    (h : ∀ v h' tk, St w b ns base z₀ env z h' σ led → Le s.heap h' → (∀ z, Rep z v a) → Q v (sh s h' tk)) : wpAny (model prog w) A (eval e env) Q E s :=
  H env s.heap A s _ E (S.view hs) R fun v z' h' tk g r => h v h' tk (S.more g.hh) g.hh fun z => f.rep r
theorem ex_assignV {τ : Sig} {x : Str} {px pos : Pos} {value : Expr} {rest : List Stmt} {a : AV} {Q : Flow → Shared → Prop} (S : St w b ns base z₀ env z s.heap σ led) (hs : Sees s.heap σ τ) (R : Room A k) (H : Ev prog w b k ns τ value a) (f : Flat a) (hx : KindOk ns x)
    (h : ∀ h' tk, St w b ns base z₀ env z h' ((x, a) :: σ) led → wpAny (model prog w) A (execs rest env) Q E (sh s h' tk))
    (hs' : swapsWith value (some (.Name x px)) pos.line env = pure false := by rfl) : wpAny (model prog w) A (execs (.Assign [.Name x px] value pos :: rest) env) Q E s :=
  ex_cons (wpAny_Assign_Name (S.eval hs R H f fun v h' tk S' _ r => st_store (s := (sh s h' tk)) S' (r z) hx fun h'' tk' S'' _ => h h'' tk' S'') hs')

theorem upd_keep (h : Heap) (d : Addr) (f : Obj → Obj) : ∀ c o, c ≠ d → h.get? c = some o → (h.update d f).get? c = some o := fun c o hc e => (Heap.get?_update_other h f (Ne.symm hc)).trans e
theorem lst_set {h : Heap} {d : Addr} {vs : List Value} {n : Nat} (e : h.get? d = some (lstO vs n)) (j : Nat) (v : Value) : (h.update d (Obj.mapSeq (·.setIfInBounds j v))).get? d = some (lstO (vs.set j v) n) := by
  have q := PySem.IsL.update (items := vs.toArray) (n := n) e (·.setIfInBounds j v)
  have e1 : vs.toArray.setIfInBounds j v = (vs.set j v).toArray := by apply Array.toList_inj.mp; simp
  rw [e1] at q
  simpa using q
/-- x[i] = e, upon a list of one's own -/
theorem ex_setitem {τ : Sig} (pre : List (Addr × Obj)) {post : List (Addr × Obj)} {x : Str} {px sp pos : Pos} {value i : Expr} {rest : List Stmt} {a : AV} {d : Addr} {vs : List Value} {n : Nat} {j : Int} {Q : Flow → Shared → Prop}
    (S : St w b ns base z₀ env z s.heap σ (pre ++ (d, lstO vs n) :: post)) (hs : Sees s.heap σ τ) (R : Room A k) (H : Ev prog w b k ns τ value a) (f : Flat a) (hx : σ.lookup x = some (.val (.ref d)))
    (hi : Ev prog w b k ns σ i (.int j)) (h0 : 0 ≤ j) (h1 : j < vs.length) (h2 : j < 2 ^ 63)
    (h : ∀ v z' h' tk, St w b ns base z₀ env z' h' σ (pre ++ (d, lstO (vs.set j.toNat v) n) :: post) → Le z z' → (∀ z, Rep z v a) → wpAny (model prog w) A (execs rest env) Q E (sh s h' tk))
    (hs' : swapsWith value (some (.Subscript (.Name x px) i sp)) pos.line env = pure false := by rfl) (hd : (x == ("__debug__" : Str)) = false := by decide) (hc : (x == ("__classdict__" : Str)) = false := by decide) :
    wpAny (model prog w) A (execs (.Assign [.Subscript (.Name x px) i sp] value pos :: rest) env) Q E s := by
  refine ex_cons (wpAny_Assign_Subscript (S.eval hs R H f fun v h' tk S' _ r => ?_) hs')
  refine name_ S'.X hx (fun ov ro => ?_) hd hc
  rw [ro.val_inv]
  refine hi env z A _ _ E S'.X R fun iv z₂ h₂ tk₂ g₂ r₂ => ?_
  obtain ⟨t, rfl⟩ := r₂.int_inv
  have S₂ := S'.grow g₂
  have e := (S₂.ld (d, lstO vs n) (List.mem_append_right _ (.head _))).1
  exact ki_setAt (n := n) e h0 h2 (by simpa using h1) (h v z₂ _ tk₂ (S₂.upd pre (upd_keep _ _ _) (lst_set e _ _)) g₂.zz r)
/-- x[i] += e, x[i] -= e -/
theorem ex_augitem {τ : Sig} (pre : List (Addr × Obj)) {post : List (Addr × Obj)} {x : Str} {px sp pos : Pos} {value i : Expr} {op : Operator} {rest : List Stmt} {d : Addr} {vs : List Value} {n : Nat} {j p q : Int} {r : Int} {u : Tok} {Q : Flow → Shared → Prop}
    (S : St w b ns base z₀ env z s.heap σ (pre ++ (d, lstO vs n) :: post)) (R : Room A k) (hx : σ.lookup x = some (.val (.ref d)))
    (hi : Ev prog w b k ns σ i (.int j)) (h0 : 0 ≤ j) (h2 : j < 2 ^ 63) (hv : vs[j.toNat]? = some (.int p u))
    (hs : ∀ h', Le s.heap h' → Sees h' σ τ) (H : Ev prog w b k ns τ value (.int q)) (hop : (op = .Add ∧ r = p + q) ∨ (op = .Sub ∧ r = p - q))
    (h : ∀ t z' h' tk, St w b ns base z₀ env z' h' σ (pre ++ (d, lstO (vs.set j.toNat (.int r t)) n) :: post) → Le z z' → wpAny (model prog w) A (execs rest env) Q E (sh s h' tk))
    (ha : ∀ ov iv new, augStore i ov iv new = (do holding [new, ov, iv] (setItem ov iv new); release [new, ov, iv] []; pure .next) := by intro _ _ _; rfl)
    (hd : (x == ("__debug__" : Str)) = false := by decide) (hc : (x == ("__classdict__" : Str)) = false := by decide) :
    wpAny (model prog w) A (execs (.AugAssign (.Subscript (.Name x px) i sp) op value pos :: rest) env) Q E s := by
  refine ex_cons (wpAny_AugAssign_Subscript_any (name_ S.X hx (fun ov ro => ?_) hd hc) ha)
  rw [ro.val_inv]
  refine hi env z A _ _ E S.X R fun iv z₂ h₂ tk₂ g₂ r₂ => ?_
  obtain ⟨t, rfl⟩ := r₂.int_inv
  have S₂ := S.grow g₂
  have e := (S₂.ld (d, lstO vs n) (List.mem_append_right _ (.head _))).1
  refine wpAny_getItem_list (isList_of e) h0 h2 (by simpa using hv) ?_
  refine S₂.eval (s := (sh s h₂ tk₂)) (hs _ g₂.hh) R H (.int _) fun v h₃ tk₃ S₃ l₃ r₃ => ?_
  obtain ⟨t', rfl⟩ := (r₃ z).int_inv
  have e₃ := (S₃.ld (d, lstO vs n) (List.mem_append_right _ (.head _))).1
  have lt : j < vs.length := by
    have := (List.getElem?_eq_some_iff.mp hv).1
    lia
  rcases hop with ⟨rfl, rfl⟩ | ⟨rfl, rfl⟩
  · refine PyProof.Rows.iadd_int ?_
    exact ki_setAt (n := n) e₃ h0 h2 (by simpa using lt) (h _ z₂ _ _ (S₃.upd pre (upd_keep _ _ _) (lst_set e₃ _ _)) g₂.zz)
  · refine isub_int ?_
    exact ki_setAt (n := n) e₃ h0 h2 (by simpa using lt) (h _ z₂ _ _ (S₃.upd pre (upd_keep _ _ _) (lst_set e₃ _ _)) g₂.zz)
/-- x += e -/
theorem ex_aug {τ : Sig} {x : Str} {px pos : Pos} {value : Expr} {op : Operator} {rest : List Stmt} {p q r : Int} {Q : Flow → Shared → Prop} (S : St w b ns base z₀ env z s.heap σ led) (R : Room A k) (hx : σ.lookup x = some (.int p)) (kx : KindOk ns x)
    (hs : Sees s.heap σ τ) (H : Ev prog w b k ns τ value (.int q)) (hop : (op = .Add ∧ r = p + q) ∨ (op = .Sub ∧ r = p - q))
    (h : ∀ h' tk, St w b ns base z₀ env z h' ((x, .int r) :: σ) led → wpAny (model prog w) A (execs rest env) Q E (sh s h' tk))
    (hd : (x == ("__debug__" : Str)) = false := by decide) (hc : (x == ("__classdict__" : Str)) = false := by decide) :
    wpAny (model prog w) A (execs (.AugAssign (.Name x px) op value pos :: rest) env) Q E s := by
  refine ex_cons (wpAny_AugAssign_Name ?_)
  have hk : env.kindOf x = ns.lookup x := by unfold Env.kindOf; rw [S.X.nm]
  have load : ∀ {Q : Value → Shared → Prop}, (∀ t, Q (.int p t) s) → wpAny (model prog w) A (loadName env x) Q E s := fun {Q} h => by
    rcases kx with kx | kx
    · obtain ⟨ml, hn, hl⟩ := S.X.loc
      obtain ⟨v, e1, e2⟩ := hl x _ hx kx
      obtain ⟨t, rfl⟩ := e2.int_inv
      exact wpAny_loadName_local S.X.kd (hk.trans kx) hn e1 (h t)
    · obtain ⟨c, v, e1, e2, e3⟩ := S.X.cel x _ hx (.inl kx)
      obtain ⟨t, rfl⟩ := e3.int_inv
      exact wpAny_loadName_cell S.X.kd (hk.trans kx) e1 e2 (h t)
  refine load fun t => ?_
  refine S.eval hs R H (.int _) fun v h₃ tk₃ S₃ l₃ r₃ => ?_
  obtain ⟨t', rfl⟩ := (r₃ z).int_inv
  rcases hop with ⟨rfl, rfl⟩ | ⟨rfl, rfl⟩
  · exact PyProof.Rows.iadd_int (st_store (s := (sh s h₃ (tk₃ + 1))) S₃ (.int _ _) kx fun h'' tk' S' _ => h h'' tk' S')
  · exact isub_int (st_store (s := (sh s h₃ (tk₃ + 1))) S₃ (.int _ _) kx fun h'' tk' S' _ => h h'' tk' S')
/-- x.append(e) -/
theorem ex_append (pre : List (Addr × Obj)) {post : List (Addr × Obj)} {x : Str} {px ap cp pos : Pos} {e : Expr} {rest : List Stmt} {a : AV} {d : Addr} {vs : List Value} {n : Nat} {Q : Flow → Shared → Prop}
    (S : St w b ns base z₀ env z s.heap σ (pre ++ (d, lstO vs n) :: post)) (R : Room A k) (hx : σ.lookup x = some (.val (.ref d))) (H : Ev prog w b k ns σ e a) (hsz : vs.length ≤ sizeLine)
    (h : ∀ v m z' h' tk, St w b ns base z₀ env z' h' σ (pre ++ (d, lstO (vs ++ [v]) m) :: post) → Le z z' → Rep z' v a → wpAny (model prog w) A (execs rest env) Q E (sh s h' tk))
    (hst : ∀ env, starEach [e] env = [(false, eval e env)] := by intro _; rfl)
    (hm : ∃ pl, eval (.Call (.Attribute (.Name x px) (Str.ofString "append") ap) [e] [] cp) env = (do
      let ov ← eval (.Name x px) env
      standAt ap.atName
      let (f, first) ← holding [ov] (getMethod ov (Str.ofString "append") pl)
      callWith cp f first (backTo cp (starEach [e] env)) []) := by exact ⟨_, rfl⟩)
    (hsw : swapsWith (.Call (.Attribute (.Name x px) (Str.ofString "append") ap) [e] [] cp) none pos.line env = pure false := by rfl)
    (hd : (x == ("__debug__" : Str)) = false := by decide) (hc : (x == ("__classdict__" : Str)) = false := by decide) :
    wpAny (model prog w) A (execs (.Expr (.Call (.Attribute (.Name x px) (Str.ofString "append") ap) [e] [] cp) pos :: rest) env) Q E s := by
  obtain ⟨pl, hm⟩ := hm
  refine ex_cons (wpAny_Expr_any (MethodCall_ (pl := pl) (name_ S.X hx (fun ov ro => ?_) hd hc) hm) (by unfold interactive; rw [S.X.kd]; rfl) hsw)
  rw [ro.val_inv]
  have e0 := (S.ld (d, lstO vs n) (List.mem_append_right _ (.head _))).1
  refine getMethod_builtin (T := "list") ⟨_, e0, rfl⟩ PySem.F.plainAttrs_list PySem.F.slot_list_append PySem.F.type_list_append (fun c q => by cases q; exact ⟨_, e0, rfl⟩) ?_
  refine callWith_method1 (rest := []) (evs_cons H evs_nil hst env z A _ cp _ E S.X R fun ws z₂ h₂ tk₂ g₂ r₂ => ?_) (hst env) rfl
  replace r₂ := r₂.cns; obtain ⟨_, _, rfl, r₂, t⟩ := r₂
  cases t
  have S₂ := S.grow g₂
  have e₂ := (S₂.ld (d, lstO vs n) (List.mem_append_right _ (.head _))).1
  refine wpAny_list_append_plain ⟨n, e₂⟩ (fun h₃ hl₃ hs₃ => ?_) (by simpa using hsz)
  obtain ⟨m, e₃⟩ := hl₃
  exact h _ m z₂ h₃ tk₂ (S₂.upd pre (fun c o hc e => (hs₃.2 c hc).trans e) (by rw [e₃]; simp)) g₂.zz r₂
end
end Mine
end
section
open PySem PySem.W PyProof.Rows PySem.Calls PySem.Spec PySem.SeqAt
namespace Mine
inductive TurnQ (w : World) (b : Heap) (ns : List (Str × NameKind)) (base z₀ : Heap) (env : Env) (s : Shared) (z₁ : Heap) (I : Addr) (oI : Obj) (J : Heap → Sig → List (Addr × Obj) → Prop) (f : Flow) (s' : Shared) : Prop
  | mk (e : f = .next) (z₂ h₂ : Heap) (tk₂ : Nat) (σ₂ : Sig) (led₂ : List (Addr × Obj)) (es : s' = sh s h₂ tk₂) (l : Le z₁ z₂) (S : St w b ns base z₀ env z₂ h₂ σ₂ ((I, oI) :: led₂)) (j : J z₂ σ₂ led₂)
inductive WhileQ (w : World) (b : Heap) (ns : List (Str × NameKind)) (base z₀ : Heap) (env : Env) (s : Shared) (z₁ : Heap) (n : Nat) (J : Nat → Heap → Sig → List (Addr × Obj) → Prop) (f : Flow) (s' : Shared) : Prop
  | mk (e : f = .next) (z₂ h₂ : Heap) (tk₂ : Nat) (σ₂ : Sig) (led₂ : List (Addr × Obj)) (m : Nat) (hm : m < n) (es : s' = sh s h₂ tk₂) (l : Le z₁ z₂) (S : St w b ns base z₀ env z₂ h₂ σ₂ led₂) (j : J m z₂ σ₂ led₂)
inductive FInv (w : World) (b : Heap) (ns : List (Str × NameKind)) (base z₀ : Heap) (env : Env) (s : Shared) (z₁ : Heap) (I : Addr) (len : Nat) (J : Nat → Heap → Sig → List (Addr × Obj) → Prop) (Stt : Nat → Heap → Prop) (n : Nat) (s' : Shared) : Prop
  | mk (i : Nat) (zi h' : Heap) (tk : Nat) (σi : Sig) (ledi : List (Addr × Obj)) (oI : Obj) (hi : i ≤ len) (en : n = len + 1 - i) (es : s' = sh s h' tk) (lz : Le z₁ zi) (hJ : J i zi σi ledi) (S : St w b ns base z₀ env zi h' σi ((I, oI) :: ledi)) (st : Stt i h')
inductive WInv (w : World) (b : Heap) (ns : List (Str × NameKind)) (base z₀ : Heap) (env : Env) (s : Shared) (z : Heap) (J : Nat → Heap → Sig → List (Addr × Obj) → Prop) (n : Nat) (s' : Shared) : Prop
  | mk (z₁ h₁ : Heap) (tk : Nat) (σ₁ : Sig) (led₁ : List (Addr × Obj)) (es : s' = sh s h₁ tk) (lz : Le z z₁) (hJ : J n z₁ σ₁ led₁) (S : St w b ns base z₀ env z₁ h₁ σ₁ led₁)
noncomputable abbrev FP3 (I : Nat → Shared → Prop) (n : Nat) (R : Result → Shared → Prop) (f : Flow) (s₃ : Shared) : Prop :=
  match f with | .next | .cont => ∃ m, m < n ∧ I m s₃ | .brk => R (.ok .next) s₃ | .ret v => R (.ok (.ret v)) s₃
noncomputable abbrev FP1 (prog : Program) (w : World) (A : Around) (target : Expr) (body orelse : List Stmt) (env : Env) (I : Nat → Shared → Prop) (n : Nat) (R : Result → Shared → Prop) (r : Option Value) (s₁ : Shared) : Prop :=
  match r with
  | none => wpAny (model prog w) A (execs orelse env) (fun f s₃ => R (.ok f) s₃) (NB prog w A env R) s₁
  | some v => wpAny (model prog w) A (assign target env v) (fun _ s₂ => wpAny (model prog w) A (execs body env) (FP3 I n R) (NB prog w A env R) s₂) (NB prog w A env R) s₁
noncomputable abbrev WP1 (prog : Program) (w : World) (A : Around) (body orelse : List Stmt) (env : Env) (I : Nat → Shared → Prop) (n : Nat) (R : Result → Shared → Prop) (b : Bool) (s₂ : Shared) : Prop :=
  if b then wpAny (model prog w) A (execs body env) (FP3 I n R) (NB prog w A env R) s₂ else wpAny (model prog w) A (execs orelse env) (fun f s₃ => R (.ok f) s₃) (NB prog w A env R) s₂
noncomputable abbrev ForR (prog : Program) (w : World) (A : Around) (env : Env) (Q : Flow → Shared → Prop) (E : Value → Shared → Prop) (r : Result) (s' : Shared) : Prop := match r with | .ok f => Q f s' | .error e => cameBackBy (model prog w) A env E e s'
section
variable {prog : Program} {w : World} {A : Around} {env : Env} {s : Shared} {R : Result → Shared → Prop} {E : Value → Shared → Prop}
theorem WP1.yes {body orelse : List Stmt} {I : Nat → Shared → Prop} {n : Nat} (h : wpAny (model prog w) A (execs body env) (FP3 I n R) (NB prog w A env R) s) : WP1 prog w A body orelse env I n R true s := h
theorem WP1.no {body orelse : List Stmt} {I : Nat → Shared → Prop} {n : Nat} (h : wpAny (model prog w) A (execs orelse env) (fun f s₃ => R (.ok f) s₃) (NB prog w A env R) s) : WP1 prog w A body orelse env I n R false s := h
theorem for_loop {target : Expr} {it : Value} {body orelse : List Stmt} (I : Nat → Shared → Prop) (turn : ∀ n s, I n s → wpAny (model prog w) A (pyNext it) (FP1 prog w A target body orelse env I n R) (NB prog w A env R) s)
    (n : Nat) (h : I n s) (ht : ∀ v, letOwnedTupleGo target it v = pure () := by intro _; rfl) : codeAny (model prog w) A (.forLoop target it body orelse env) R s := codeAny_forLoop I turn n h ht
theorem ex_For {target iter : Expr} {body orelse : List Stmt} {pos : Pos} {Q : Flow → Shared → Prop}
    (h : wpAny (model prog w) A (eval iter env) (fun x s₁ => wpAny (model prog w) A (pyIter x) (fun it s₂ => codeAny (model prog w) A (.forLoop target it body orelse env) (ForR prog w A env Q E) s₂) E s₁) E s)
    (hs : ∀ x, foldedSetIterable iter env x = pure x := by intro _; rfl) : wpAny (model prog w) A (exec (.For target iter body orelse pos) env) Q E s := wpAny_For h hs
theorem while_loop {test : Expr} {body orelse : List Stmt} (I : Nat → Shared → Prop) (turn : ∀ n s, I n s → wpAny (model prog w) A (isTrue test env (eval test env)) (WP1 prog w A body orelse env I n R) (NB prog w A env R) s)
    (n : Nat) (h : I n s) : codeAny (model prog w) A (.whileLoop test body orelse env) R s := codeAny_whileLoop I turn n h
theorem ex_While {test : Expr} {body orelse : List Stmt} {pos : Pos} {Q : Flow → Shared → Prop} (h : codeAny (model prog w) A (.whileLoop test body orelse env) (ForR prog w A env Q E) s) : wpAny (model prog w) A (exec (.While test body orelse pos) env) Q E s := wpAny_While h
end
noncomputable abbrev NoE : Value → Shared → Prop := fun _ _ => False
section
variable {prog : Program} {w : World} {b : Heap} {k : Nat} {ns : List (Str × NameKind)} {base z₀ : Heap} {env : Env} {z : Heap} {σ : Sig} {led : List (Addr × Obj)} {A : Around} {s : Shared} {E : Value → Shared → Prop}

theorem St.test {τ : Sig} {e : Expr} {c : Bool} {Q : Bool → Shared → Prop} (S : St w b ns base z₀ env z s.heap σ led) (hs : Sees s.heap σ τ) (R : Room A k) (H : EvT prog w b k ns τ e c)
    (h : ∀ h' tk, St w b ns base z₀ env z h' σ led → Le s.heap h' → Q c (sh s h' tk)) : wpAny (model prog w) A (PySem.isTrue e env (PySem.eval e env)) Q E s :=
  H env s.heap A s _ E (S.view hs) R fun z' h' tk g => h h' tk (S.more g.hh) g.hh
/-- if -/
theorem ex_if {τ : Sig} {test : Expr} {body orelse rest : List Stmt} {pos : Pos} {c : Bool} {Q : Flow → Shared → Prop} (S : St w b ns base z₀ env z s.heap σ led) (hs : Sees s.heap σ τ) (R : Room A k) (H : EvT prog w b k ns τ test c)
    (h : ∀ h' tk, St w b ns base z₀ env z h' σ led → Le s.heap h' → wpAny (model prog w) A (execs (if c then body else orelse) env) (ThenQ prog w A rest env Q E) E (sh s h' tk)) :
    wpAny (model prog w) A (execs (.If test body orelse pos :: rest) env) Q E s := by
  refine ex_cons (wpAny_If (S.test hs R H fun h' tk S' l => ?_))
  have := h h' tk S' l
  cases c with
  | true => exact this
  | false => exact this

/-- for x in src -/
theorem ex_for {x : Str} {px pos : Pos} {iter : Expr} {body rest : List Stmt} {src : AV} {xs : List AV} {Q : Flow → Shared → Prop} (J : Nat → Heap → Sig → List (Addr × Obj) → Prop) (τ₀ : Sig)
    (S : St w b ns base z₀ env z s.heap σ led) (R : Room A k) (hit : Ev prog w b k ns σ iter src) (hsrc : ∀ z v, Rep z v src → Src z v xs) (hx : KindOk ns x) (hsub : ∀ x a, τ₀.lookup x = some a → σ.lookup x = some a) (h0 : ∀ z', Le z z' → J 0 z' τ₀ led)
    (turn : ∀ i a z₁ h₁ tk σ₁ led₁ I oI, xs[i]? = some a → J i z₁ σ₁ led₁ → Le z z₁ → St w b ns base z₀ env z₁ h₁ ((x, a) :: σ₁) ((I, oI) :: led₁) →
      wpAny (model prog w) A (execs body env) (TurnQ w b ns base z₀ env s z₁ I oI (J (i + 1))) NoE (sh s h₁ tk))
    (done : ∀ z₁ h₁ tk σ₁ led₁, J xs.length z₁ σ₁ led₁ → Le z z₁ → St w b ns base z₀ env z₁ h₁ σ₁ led₁ → wpAny (model prog w) A (execs rest env) Q E (sh s h₁ tk))
    (hs : ∀ x, foldedSetIterable iter env x = pure x := by intro _; rfl) :
    wpAny (model prog w) A (execs (.For (.Name x px) iter body [] pos :: rest) env) Q E s := by
  refine ex_cons (ex_For (hit env z A s _ E S.X R fun v z₁ h₁ tk₁ g₁ r₁ => ?_) hs)
  refine src_iter R.hand (hsrc z₁ v r₁) g₁.zh fun fp P Stt o W hfp hex hst ho hP => ?_
  have S₁ := S.grow g₁
  have S₂ := S₁.push (h' := h₁.push o) (Grow.step g₁.zh (Le.rfl.push o)) (get_fresh h₁ (Nat.le_refl _)) (g₁.zh.none (get_fresh h₁ (Nat.le_refl _))) (Heap.get?_push_size h₁ ho)
  generalize hI : h₁.objs.size = I at *
  refine for_loop (FInv w b ns base z₀ env s z₁ I xs.length J Stt) ?_ (xs.length + 1)
    ⟨0, z₁, h₁.push o, tk₁, τ₀, led, o, Nat.zero_le _, rfl, rfl, Le.rfl, h0 z₁ g₁.zz, S₂.weak hsub, hst⟩
  rintro n s' ⟨i, zi, h', tk, σi, ledi, oI, hi, rfl, rfl, lz, hJ, Si, sti⟩
  by_cases hlt : i < xs.length
  · refine W.item i _ _ _ hlt sti fun u h₅ tk₅ hPu st₅ hk₅ => ?_
    obtain ⟨a, hxa, hua⟩ := hP i u hPu
    obtain ⟨o₅, e₅⟩ := hex _ _ st₅
    have S₅ := Si.upd [] (o' := o₅) (fun c o hc e => hk₅ c o (fun q => hc (List.mem_singleton.mp q)) e) e₅
    refine wpAny_assign_Name (st_store (s := (sh s h₅ tk₅)) S₅ (hua zi lz) hx fun h₆ tk₆ S₆ _ => ?_)
    refine wpAny_mono (turn i a zi h₆ tk₆ σi ledi I o₅ hxa hJ (g₁.zz.trans lz) S₆) (fun f s₇ h₇ => ?_) (fun _ _ q => q.elim)
    obtain ⟨rfl, z₂, h₂, tk₂, σ₂, led₂, rfl, l₂, S₇, hJ₂⟩ := h₇
    refine ⟨xs.length + 1 - (i + 1), by lia, i + 1, z₂, h₂, tk₂, σ₂, led₂, o₅, hlt, rfl, rfl, lz.trans l₂, hJ₂, S₇, W.frame (i + 1) h₅ h₂ st₅ (frame_turn hfp e₅ (S₇.ld (I, o₅) (.head _)).1 lz (Si.ld (I, oI) (.head _)).2.1 Si.X.zh hk₅ (l₂.trans S₇.X.zh))⟩
  · have hin : i = xs.length := by lia
    subst hin
    refine W.done _ _ _ sti fun h₅ tk₅ hk₅ => wpAny_execs_nil ?_
    obtain ⟨d1, d2, d3, d4, d5⟩ := Si.ld (I, oI) (.head _)
    have S₅ := (Si.less (led' := ledi) (fun p hp => .tail _ hp) (List.nodup_cons.mp Si.nd).2).other (h' := h₅) (d := I) (fun c o hc e => hk₅ c o (fun q => hc (List.mem_singleton.mp q)) e) d2 d3 d4 d5
      (fun p hp q => (List.nodup_cons.mp Si.nd).1 (List.mem_map.mpr ⟨p, hp, q⟩))
    exact done zi h₅ tk₅ σi ledi hJ (g₁.zz.trans lz) S₅

/-- while test -/
theorem ex_while {test : Expr} {body rest : List Stmt} {pos : Pos} {Q : Flow → Shared → Prop} (J : Nat → Heap → Sig → List (Addr × Obj) → Prop) (n : Nat)
    (S : St w b ns base z₀ env z s.heap σ led) (R : Room A k) (h0 : J n z σ led)
    (turn : ∀ n z₁ h₁ (tk : Nat) σ₁ led₁, J n z₁ σ₁ led₁ → Le z z₁ → St w b ns base z₀ env z₁ h₁ σ₁ led₁ → ∃ c τ, Sees h₁ σ₁ τ ∧ EvT prog w b k ns τ test c ∧
      (c = true → ∀ h' tk, St w b ns base z₀ env z₁ h' σ₁ led₁ → wpAny (model prog w) A (execs body env) (WhileQ w b ns base z₀ env s z₁ n J) NoE (sh s h' tk)) ∧
      (c = false → ∀ h' tk, St w b ns base z₀ env z₁ h' σ₁ led₁ → wpAny (model prog w) A (execs rest env) Q E (sh s h' tk))) :
    wpAny (model prog w) A (execs (.While test body [] pos :: rest) env) Q E s := by
  refine ex_cons (ex_While ?_)
  refine while_loop (WInv w b ns base z₀ env s z J) ?_ n ⟨z, s.heap, s.toks, σ, led, rfl, Le.rfl, h0, S⟩
  rintro n s' ⟨z₁, h₁, tk, σ₁, led₁, rfl, lz, hJ, S₁⟩
  obtain ⟨c, τ, hs, hT, h1, h2⟩ := turn n z₁ h₁ tk σ₁ led₁ hJ lz S₁
  refine S₁.test (s := (sh s h₁ tk)) hs R hT fun h' tk' S' l => ?_
  cases c with
  | true =>
    refine WP1.yes (wpAny_mono (h1 rfl h' tk' S') (fun f s₃ h₃ => ?_) (fun _ _ q => q.elim))
    obtain ⟨rfl, z₂, h₂, tk₂, σ₂, led₂, m, hm, rfl, l₂, S₂, hJ₂⟩ := h₃
    exact ⟨m, hm, z₂, h₂, tk₂, σ₂, led₂, rfl, lz.trans l₂, hJ₂, S₂⟩
  | false =>
    exact WP1.no (wpAny_execs_nil (h2 rfl h' tk' S'))

/-- y = x.pop() -/
theorem ex_pop (pre : List (Addr × Obj)) {post : List (Addr × Obj)} {x y : Str} {py px ap cp pos : Pos} {rest : List Stmt} {a : AV} {d : Addr} {us : List Value} {v : Value} {n : Nat} {Q : Flow → Shared → Prop}
    (S : St w b ns base z₀ env z s.heap σ (pre ++ (d, lstO (us ++ [v]) n) :: post)) (R : Room A k) (hx : σ.lookup x = some (.val (.ref d))) (hy : KindOk ns y) (r : Rep z v a) (hsz : us.length + 1 ≤ sizeLine)
    (h : ∀ m h' tk, St w b ns base z₀ env z h' ((y, a) :: σ) (pre ++ (d, lstO us m) :: post) → wpAny (model prog w) A (execs rest env) Q E (sh s h' tk))
    (hm : ∃ pl, eval (.Call (.Attribute (.Name x px) (Str.ofString "pop") ap) [] [] cp) env = (do
      let ov ← eval (.Name x px) env
      standAt ap.atName
      let (f, first) ← holding [ov] (getMethod ov (Str.ofString "pop") pl)
      callWith cp f first (backTo cp (starEach [] env)) []) := by exact ⟨_, rfl⟩)
    (hsw : swapsWith (.Call (.Attribute (.Name x px) (Str.ofString "pop") ap) [] [] cp) (some (.Name y py)) pos.line env = pure false := by rfl)
    (hd : (x == ("__debug__" : Str)) = false := by decide) (hc : (x == ("__classdict__" : Str)) = false := by decide) :
    wpAny (model prog w) A (execs (.Assign [.Name y py] (.Call (.Attribute (.Name x px) (Str.ofString "pop") ap) [] [] cp) pos :: rest) env) Q E s := by
  obtain ⟨pl, hm⟩ := hm
  refine ex_cons (wpAny_Assign_Name (MethodCall_ (pl := pl) (name_ S.X hx (fun ov ro => ?_) hd hc) hm) hsw)
  rw [ro.val_inv]
  have e0 := (S.ld (d, lstO (us ++ [v]) n) (List.mem_append_right _ (.head _))).1
  refine getMethod_builtin (T := "list") ⟨_, e0, rfl⟩ PySem.F.plainAttrs_list PySem.F.slot_list_pop PySem.F.type_list_pop (fun c q => by cases q; exact ⟨_, e0, rfl⟩) ?_
  refine callWith_method0 ?_
  have hsz' : (us ++ [v]).toArray.size ≤ sizeLine := by simpa using hsz
  have hk : (us ++ [v]).toArray.size - 1 = us.length := by rw [List.size_toArray, List.length_append]; rfl
  have hy' : (us ++ [v]).toArray[(us ++ [v]).toArray.size - 1]? = some v := by rw [hk]; simp
  refine call_meets PySem.F.slot_list_pop ⟨_, e0, rfl⟩ PySem.F.entry_list_pop (PySem.F.args_list_pop_1 _) (PySem.MeetsSeq.list_pop_last d _ n v hy' hsz') ⟨e0, ?_⟩
  have q := PySem.IsL.update (items := (us ++ [v]).toArray) (n := n) e0 (fun xs => xs.eraseIdxIfInBounds ((us ++ [v]).toArray.size - 1))
  have ee : (us ++ [v]).toArray.eraseIdxIfInBounds ((us ++ [v]).toArray.size - 1) = us.toArray := by rw [hk]; simpa using kl_erase us [] v
  rw [ee] at q
  obtain ⟨m, q'⟩ : ∃ m, (s.heap.update d (Obj.mapSeq fun xs => xs.eraseIdxIfInBounds ((us ++ [v]).toArray.size - 1))).get? d = some (lstO us m) := ⟨_, q⟩
  have S₂ := S.upd pre (o' := lstO us m) (upd_keep _ _ _) q'
  exact st_store (s := { s with heap := _ }) S₂ r hy fun h'' tk' S' _ => h m h'' tk' S'

/-- y = [..], y a plain local name -/
theorem ex_assignC {elt iter : Expr} {ifs : List Expr} {x y : Str} {px py pos spos : Pos} {scope : Scope} {src : AV} {xs : List AV} {rest : List Stmt} {Q : Flow → Shared → Prop} (r : Nat → Option AV)
    (S : St w b ns base z₀ env z s.heap σ led) (R : Room A k) (hit : Ev prog w b k ns σ iter src) (hsrc : ∀ z v, Rep z v src → Src z v xs)
    (hel : ∀ i a, xs[i]? = some a → ElM prog w b k (reNs scope.names ns) ((x, a) :: inner scope.names σ) noMut () ifs elt (r i) ())
    (hsz : xs.length ≤ sizeLine) (hk : scope.kind = .function) (hok : compOk scope.names ns (σ.map (·.1)) x = true) (hy : ns.lookup y = some .local)
    (h : ∀ l vs n z' h' tk, St w b ns base z₀ env z' h' ((y, .val (.ref l)) :: σ) ((l, lstO vs n) :: led) → Reps z' vs ((List.range xs.length).filterMap r) → wpAny (model prog w) A (execs rest env) Q E (sh s h' tk))
    (hsw : swapsWith (.ListComp elt [⟨.Name x px, iter, ifs, 0⟩] scope pos) (some (.Name y py)) spos.line env = pure (env.blockKind == .function && env.kindOf y == some .local && true && true) := by rfl)
    (hs : ∀ x, foldedSetIterable iter env x = pure x := by intro _; rfl) :
    wpAny (model prog w) A (execs (.Assign [.Name y py] (.ListComp elt [⟨.Name x px, iter, ifs, 0⟩] scope pos) spos :: rest) env) Q E s := by
  have hky : env.kindOf y = some .local := by unfold Env.kindOf; rw [S.X.nm]; exact hy
  have hsw' : swapsWith (.ListComp elt [⟨.Name x px, iter, ifs, 0⟩] scope pos) (some (.Name y py)) spos.line env = pure true := by
    rw [hsw, hky]
    unfold Env.blockKind
    rw [S.X.kd]; rfl
  refine ex_cons ?_
  rw [exec_Assign_Name_used _ _ _ _ hsw']
  refine wpAny_bind (wpAny_standAt (wpAny_bind ?_))
  show wpAny _ A (do let _ ← comprehension (.ListComp elt [⟨.Name x px, iter, ifs, 0⟩] scope pos) scope env _ (newList []) false (eval iter env) (some (assign (.Name y py) env))) _ _ s
  refine wpAny_bind (wpAny_mono (comp_core' (U := noMut) (use := some (assign (.Name y py) env)) (Q := fun _ s' => wpAny (model prog w) A (execs rest env) Q E s') (fun _ => ()) r hit hsrc hel hsz hk hok S.X R Apart.no trivial
    (fun l C vs n z' h' tk ml g p' n1 n2 e1 r1 c1 c2 c3 c4 c5 c6 => ?_) hs) (fun _ s' q => wpAny_pure (wpAny_pure q)) fun _ _ q => q)
  have S₁ := S.push g.no n1 n2 e1
  obtain ⟨oC, _, _, eC, _⟩ := id c4
  have hCL : C ≠ env.locals := fun q => by
    obtain ⟨ml', hn', _⟩ := S.X.loc
    obtain ⟨oL, _, _, eL, _⟩ := hn'
    rw [q, eL] at c1; cases c1
  have hCc : ∀ m c, (m, c) ∈ env.cells → C ≠ c := fun m c hm q => by
    obtain ⟨_, _, _, v, o', e4, _⟩ := S.fc m c hm
    rw [q, e4] at c1; cases c1
  have hCl : ∀ p ∈ (l, lstO vs n) :: led, p.1 ≠ C := fun p hp q => by
    rcases List.mem_cons.mp hp with rfl | hp
    · exact c3 q.symm
    · have := (S.ld p hp).1; rw [q, c1] at this; cases this
  refine wpAny_assign_Name (st_store (s := (sh s h' tk)) S₁ (.val _) (.inl hy) fun h₆ tk₆ S₆ hk₆ => ?_)
  refine ⟨ml, c4.at' fun o e => (hk₆ C hCL hCc).trans e, fun h₇ hs₇ => ?_⟩
  exact h l vs n z' h₇ tk₆ (S₆.other (d := C) (fun c o hc e => (hs₇.2 c hc).trans e) c2 (S.G.hh.none c1) hCL hCc hCl) r1
end
end Mine
end
section
open PySem PySem.W PyProof.Rows PySem.Calls PySem.Spec PySem.SeqAt
namespace Mine
section
variable {prog : Program} {w : World} {b : Heap} {k : Nat} {ns : List (Str × NameKind)} {base z₀ : Heap} {env : Env} {z h : Heap} {σ τ : Sig} {led : List (Addr × Obj)} {A : Around} {s : Shared} {E : Value → Shared → Prop}

theorem sub_nil : ∀ x a, ([] : Sig).lookup x = some a → σ.lookup x = some a := fun _ _ h => nomatch h
theorem sub_cons {y : Str} {a : AV} (h : σ.lookup y = some a) (hs : ∀ x a, τ.lookup x = some a → σ.lookup x = some a) : ∀ x a', ((y, a) :: τ).lookup x = some a' → σ.lookup x = some a' := fun x a' e => by
  rw [List.lookup_cons] at e
  cases hb : x == y with
  | true => rw [hb] at e; cases e; rw [eq_of_beq hb]; exact h
  | false => rw [hb] at e; exact hs x a' e
theorem St.cut (τ : Sig) (S : St w b ns base z₀ env z h σ led) (hs : ∀ x a, τ.lookup x = some a → σ.lookup x = some a := by repeat' (first | exact sub_nil | refine sub_cons rfl ?_)) : St w b ns base z₀ env z h τ led := S.weak hs
theorem sees_refl : Sees h σ σ := fun x a e => ⟨a, e, fun _ r => r⟩
theorem sees_list {x : Str} {d : Addr} {vs : List Value} {n : Nat} {xs : List AV} (hx : σ.lookup x = some (.val (.ref d))) (e : h.get? d = some (lstO vs n)) (r : Reps h vs xs) (hs : Sees h σ τ) : Sees h σ ((x, .list xs) :: τ) := fun y a q => by
  rw [List.lookup_cons] at q
  cases hb : y == x with
  | true => rw [hb] at q; cases q; rw [eq_of_beq hb]; exact ⟨_, hx, fun v rv => by rw [rv.val_inv]; exact .list e r⟩
  | false => rw [hb] at q; exact hs y a q
inductive Frz (σ : Sig) (l : Addr) (xs : List AV) : Sig → Prop
  | nil : Frz σ l xs []
  | same {x : Str} {a : AV} {τ : Sig} : σ.lookup x = some a → Frz σ l xs τ → Frz σ l xs ((x, a) :: τ)
  | new {x : Str} {τ : Sig} : σ.lookup x = some (.val (.ref l)) → Frz σ l xs τ → Frz σ l xs ((x, .list xs) :: τ)
theorem Frz.get {l : Addr} {xs : List AV} {z' : Heap} {vs : List Value} {n : Nat} (lz : Le z z') (e : z'.get? l = some (lstO vs n)) (r : Reps z vs xs) {τ : Sig} (H : Frz σ l xs τ) (x : Str) (a : AV) (q : τ.lookup x = some a) : ∃ a₀, σ.lookup x = some a₀ ∧ ∀ v, Rep z v a₀ → Rep z' v a := by
  induction H with
  | nil => cases q
  | @same y a' τ h t ih =>
    rw [List.lookup_cons] at q
    cases hb : x == y with
    | true => rw [hb] at q; cases q; rw [eq_of_beq hb]; exact ⟨_, h, fun v rv => rv.le lz⟩
    | false => rw [hb] at q; exact ih q
  | @new y τ h t ih =>
    rw [List.lookup_cons] at q
    cases hb : x == y with
    | true => rw [hb] at q; cases q; rw [eq_of_beq hb]; exact ⟨_, h, fun v rv => by rw [rv.val_inv]; exact .list e (r.le lz)⟩
    | false => rw [hb] at q; exact ih q
theorem St.frz {l : Addr} {vs : List Value} {n : Nat} {xs : List AV} (τ : Sig) (S : St w b ns base z₀ env z h σ ((l, lstO vs n) :: led)) (r : Reps z vs xs)
    (hs : Frz σ l xs τ := by repeat' (first | exact .nil | refine .same rfl ?_ | refine .new rfl ?_)) : ∃ z', Le z z' ∧ St w b ns base z₀ env z' h τ led := by
  obtain ⟨z', l1, _, S'⟩ := S.freeze (τ := τ) fun z' lz e => Frz.get lz e r hs
  exact ⟨z', l1, S'⟩
theorem St.swap {p q : Addr × Obj} (S : St w b ns base z₀ env z h σ (p :: q :: led)) : St w b ns base z₀ env z h σ (q :: p :: led) := by
  refine S.less (fun r hr => ?_) ?_
  · simp only [List.mem_cons] at hr ⊢; rcases hr with h | h | h <;> simp [h]
  · have := S.nd
    simp only [List.map_cons, List.nodup_cons, List.mem_cons, not_or] at this ⊢
    exact ⟨⟨fun e => this.1.1 e.symm, this.2.1⟩, this.1.2, this.2.2⟩
theorem St.at (S : St w b ns base z₀ env z h σ led) {d : Addr} {o : Obj} (hm : (d, o) ∈ led) : h.get? d = some o := (S.ld _ hm).1

/-- return e, e flat, with all that stands seen -/
theorem ex_retV {e : Expr} {pos : Pos} {rest : List Stmt} {a : AV} {Q : Flow → Shared → Prop} (S : St w b ns base z₀ env z s.heap σ led) (hs : Sees s.heap σ τ) (R : Room A k) (H : Ev prog w b k ns τ e a) (f : Flat a)
    (h : ∀ v h' tk, St w b ns base z₀ env z h' σ led → (∀ z, Rep z v a) → Q (.ret v) (sh s h' tk)) : wpAny (model prog w) A (execs (.Return (some e) pos :: rest) env) Q E s :=
  ex_cons (wpAny_Return_some (S.eval hs R H f fun v h' tk S' _ r => h v h' tk S' r))
/-- return of an own list, the end of an FnL -/
theorem ex_retO {x : Str} {px pos : Pos} {rest : List Stmt} {d : Addr} {vs : List Value} {n : Nat} {Q : Flow → Shared → Prop} (S : St w b ns base z₀ env z s.heap σ led) (hx : σ.lookup x = some (.val (.ref d))) (hm : (d, lstO vs n) ∈ led)
    (h : Grow z₀ base z s.heap → base.get? d = none → z.get? d = none → s.heap.get? d = some (lstO vs n) → Q (.ret (.ref d)) s)
    (hd : (x == ("__debug__" : Str)) = false := by decide) (hc : (x == ("__classdict__" : Str)) = false := by decide) : wpAny (model prog w) A (execs (.Return (some (.Name x px)) pos :: rest) env) Q E s :=
  ex_cons (wpAny_Return_some (name_ S.X hx (fun v r => by
    rw [r.val_inv]
    obtain ⟨e1, e2, e3, _⟩ := S.ld _ hm
    exact h S.G e3 e2 e1) hd hc))
end

theorem EvT.less {prog : Program} {w : World} {b : Heap} {j k : Nat} {ns : List (Str × NameKind)} {σ : Sig} {e : Expr} {c : Bool} (H : EvT prog w b j ns σ e c) (hj : j ≤ k) : EvT prog w b k ns σ e c := fun env z A s Q E X R h => H env z A s Q E X (R.less hj) h
theorem FnR.less {prog : Program} {w : World} {b : Heap} {j k : Nat} {f : Value} {as : List AV} {r : AV} (H : FnR prog w b j f as r) (hj : j ≤ k) : FnR prog w b k f as r := fun z A s Q E vs F X Y R rs h => H z A s Q E vs F X Y (R.less hj) rs h
theorem FnL.less {prog : Program} {w : World} {b : Heap} {j k : Nat} {f : Value} {as xs : List AV} (H : FnL prog w b j f as xs) (hj : j ≤ k) : FnL prog w b k f as xs := fun z A s Q E vs F X Y R rs h => H z A s Q E vs F X Y (R.less hj) rs h

/-- a def, entered -/
theorem fn_body {prog : Program} {w : World} {b : Heap} {k : Nat} (B : Base w b) {f : Addr} {fd : FuncData} {oc : Value} {od : Option Addr} {osl : Array (Option Value)} {body : List Stmt} {as : List AV} {ps : List Str} {r : AV}
    (ho : (KK w).lookup f = some ⟨oc, od, .func fd, osl⟩) (hb : fd.body = .stmts body) (hcd : codeIn (KK w) fd.code fd.qualname = true) (hclo : fd.closure = []) (hgl : fd.globals = mainGlobals) (hbi : fd.builtins = builtinsNs)
    (hco : fd.scope.isCoroutine = false) (hgen : fd.scope.isGenerator = false) (hk : fd.scope.kind = .function) (hl : as.length = ps.length) (hbind : ∀ vs, vs.length = ps.length → bindArgs fd ⟨vs, []⟩ = pure (ps.zip vs)) (hok : defOk fd.scope.names ps = true)
    (H : ∀ (base z₀ : Heap) (env : Env) (A : Around) (s : Shared) (Q : Flow → Shared → Prop), Room A k → St w b fd.scope.names base z₀ env z₀ s.heap (ps.zip as) [] →
      (∀ fl z' h' tk, Grow z₀ base z' h' → Rep z' (match fl with | .ret v => v | _ => .none) r → Q fl (sh s h' tk)) →
      wpAny (model prog w) A (execs body env) Q (fun _ _ => False) s) : FnR prog w b (k + 1) (.ref f) as r := by
  intro z A s Q E vs F bz lz R rs h
  refine enter B ho hcd hb hclo hgl hbi rfl hco hgen hk hl (hbind vs (rs.length.trans hl)) hok F bz lz R rs fun env h₁ tk₁ S R' => ?_
  exact H s.heap z env _ (sh s h₁ tk₁) _ R' S fun fl z' h' tk g r => h _ z' h' tk g r
theorem fn_bodyL {prog : Program} {w : World} {b : Heap} {k : Nat} (B : Base w b) {f : Addr} {fd : FuncData} {oc : Value} {od : Option Addr} {osl : Array (Option Value)} {body : List Stmt} {as : List AV} {ps : List Str} {xs : List AV}
    (ho : (KK w).lookup f = some ⟨oc, od, .func fd, osl⟩) (hb : fd.body = .stmts body) (hcd : codeIn (KK w) fd.code fd.qualname = true) (hclo : fd.closure = []) (hgl : fd.globals = mainGlobals) (hbi : fd.builtins = builtinsNs)
    (hco : fd.scope.isCoroutine = false) (hgen : fd.scope.isGenerator = false) (hk : fd.scope.kind = .function) (hl : as.length = ps.length) (hbind : ∀ vs, vs.length = ps.length → bindArgs fd ⟨vs, []⟩ = pure (ps.zip vs)) (hok : defOk fd.scope.names ps = true)
    (H : ∀ (base z₀ : Heap) (env : Env) (A : Around) (s : Shared) (Q : Flow → Shared → Prop), Room A k → St w b fd.scope.names base z₀ env z₀ s.heap (ps.zip as) [] →
      (∀ l vs n z' h' tk, Grow z₀ base z' h' → base.get? l = none → z'.get? l = none → h'.get? l = some (lstO vs n) → Reps z' vs xs → Q (.ret (.ref l)) (sh s h' tk)) →
      wpAny (model prog w) A (execs body env) Q (fun _ _ => False) s) : FnL prog w b (k + 1) (.ref f) as xs := by
  intro z A s Q E vs F bz lz R rs h
  refine enter B ho hcd hb hclo hgl hbi rfl hco hgen hk hl (hbind vs (rs.length.trans hl)) hok F bz lz R rs fun env h₁ tk₁ S R' => ?_
  exact H s.heap z env _ (sh s h₁ tk₁) _ R' S fun l vs n z' h' tk g a b c r => h l vs n z' h' tk g a b c r
end Mine
end
section
set_option maxRecDepth 100000
open PySem PySem.W PyProof.Rows PySem.Calls PySem.Spec PySem.SeqAt
namespace Mine
section
variable {prog : Program} {w : World} {b : Heap} {k : Nat}

theorem fn_ret (B : Base w b) {f : Addr} {fd : FuncData} {oc : Value} {od : Option Addr} {osl : Array (Option Value)} {e : Expr} {pos : Pos} {as : List AV} {ps : List Str} {r : AV}
    (ho : (KK w).lookup f = some ⟨oc, od, .func fd, osl⟩) (hb : fd.body = .stmts [.Return (some e) pos]) (hcd : codeIn (KK w) fd.code fd.qualname = true) (hclo : fd.closure = []) (hgl : fd.globals = mainGlobals) (hbi : fd.builtins = builtinsNs)
    (hco : fd.scope.isCoroutine = false) (hgen : fd.scope.isGenerator = false) (hk : fd.scope.kind = .function) (hl : as.length = ps.length) (hbind : ∀ vs, vs.length = ps.length → bindArgs fd ⟨vs, []⟩ = pure (ps.zip vs)) (hok : defOk fd.scope.names ps = true)
    (H : Ev prog w b k fd.scope.names (ps.zip as) e r) : FnR prog w b (k + 1) (.ref f) as r := by
  intro z A s Q E vs F bz lz R rs h
  refine enter B ho hcd hb hclo hgl hbi rfl hco hgen hk hl (hbind vs (rs.length.trans hl)) hok F bz lz R rs fun env h₁ tk₁ S R' => ?_
  exact ex_ret (s := (sh s h₁ tk₁)) S R' H fun v z' h' tk S' r' => h v z' h' tk S'.G r'
theorem fn_retL (B : Base w b) {f : Addr} {fd : FuncData} {oc : Value} {od : Option Addr} {osl : Array (Option Value)} {e : Expr} {pos : Pos} {as : List AV} {ps : List Str} {xs : List AV}
    (ho : (KK w).lookup f = some ⟨oc, od, .func fd, osl⟩) (hb : fd.body = .stmts [.Return (some e) pos]) (hcd : codeIn (KK w) fd.code fd.qualname = true) (hclo : fd.closure = []) (hgl : fd.globals = mainGlobals) (hbi : fd.builtins = builtinsNs)
    (hco : fd.scope.isCoroutine = false) (hgen : fd.scope.isGenerator = false) (hk : fd.scope.kind = .function) (hl : as.length = ps.length) (hbind : ∀ vs, vs.length = ps.length → bindArgs fd ⟨vs, []⟩ = pure (ps.zip vs)) (hok : defOk fd.scope.names ps = true)
    (H : EvL prog w b k fd.scope.names (ps.zip as) e xs) : FnL prog w b (k + 1) (.ref f) as xs := by
  intro z A s Q E vs F bz lz R rs h
  refine enter B ho hcd hb hclo hgl hbi rfl hco hgen hk hl (hbind vs (rs.length.trans hl)) hok F bz lz R rs fun env h₁ tk₁ S R' => ?_
  exact ex_retL (s := (sh s h₁ tk₁)) S R' H fun l vs n z' h' tk S' r' => by
    obtain ⟨e1, e2, e3, _⟩ := S'.ld (l, lstO vs n) (.head _)
    exact h l vs n z' h' tk S'.G e3 e2 e1 r'
theorem bind1 {fd : FuncData} {p : Str} (h : ∀ v, bindArgs fd ⟨[v], []⟩ = pure [(p, v)]) : ∀ vs : List Value, vs.length = [p].length → bindArgs fd ⟨vs, []⟩ = pure ([p].zip vs)
  | [v], _ => h v
  | [], e => by cases e
  | _ :: _ :: _, e => by simp at e
theorem bind2 {fd : FuncData} {p q : Str} (h : ∀ v u, bindArgs fd ⟨[v, u], []⟩ = pure [(p, v), (q, u)]) : ∀ vs : List Value, vs.length = [p, q].length → bindArgs fd ⟨vs, []⟩ = pure ([p, q].zip vs)
  | [v, u], _ => h v u
  | [], e => by cases e
  | [_], e => by simp at e
  | _ :: _ :: _ :: _, e => by simp at e
theorem bind3 {fd : FuncData} {p q r : Str} (h : ∀ v u t, bindArgs fd ⟨[v, u, t], []⟩ = pure [(p, v), (q, u), (r, t)]) : ∀ vs : List Value, vs.length = [p, q, r].length → bindArgs fd ⟨vs, []⟩ = pure ([p, q, r].zip vs)
  | [v, u, t], _ => h v u t
  | [], e => by cases e
  | [_], e => by simp at e
  | [_, _], e => by simp at e
  | _ :: _ :: _ :: _ :: _, e => by simp at e

noncomputable abbrev rowA (r : List Int) : AV := .list (avI r)
noncomputable abbrev matA (R : List (List Int)) : AV := .list (R.map rowA)
noncomputable abbrev tagA (t : List Int) : AV := .tup (avI t)
noncomputable abbrev dfaA (R T : List (List Int)) : AV := .dfa (.list (R.map rowA)) (.list (T.map tagA))

theorem gv (w : World) {x : Str} {v : Value} (h : nsIn (KK w) mainGlobals x = some (some v)) : GV w x v := .inl h
theorem gvb (w : World) {x : Str} {v : Value} (h : nsIn (KK w) mainGlobals x = some none) (h' : bootBuiltins x = some v) (h'' : x ≠ "__name__") : GV w x v := .inr ⟨h, h', h''⟩
theorem gv_len (w : World) : GV w (Str.ofString "len") (.builtin "len") := gvb w (by kernel_rfl) (by boot_fast) (by decide)

theorem f_state_count (B : Base w b) {R T : List (List Int)} (hsz : R.length < 2 ^ 62) : FnR prog w b (k + 1) (.ref 61) [dfaA R T] (.int R.length) := by
  refine fn_ret B rfl rfl (by kernel_rfl) rfl rfl rfl rfl rfl rfl (ps := [Str.ofString "self"]) rfl (bind1 fun _ => rfl) (by kernel_rfl) ?_
  refine ev_call B (ev_glob B (by rfl) (gv_len w) (fun z => .val _)) (.inl ⟨_, rfl⟩) (evs_cons (ev_rows B (ev_name (by rfl))) evs_nil) ?_
  have := fn_len (prog := prog) (w := w) (b := b) (k := k) (xs := R.map rowA) (by simp; lia)
  simpa using this
end
end Mine
end
section
namespace Mine
/-- what is reached in a graph -/
inductive Reach (L : List (List Int)) (seeds : List Int) : Int → Prop
  | seed {x : Int} : x ∈ seeds → Reach L seeds x
  | step {x y : Int} : Reach L seeds x → y ∈ L.getD x.toNat [] → Reach L seeds y
noncomputable abbrev atB (s : List Bool) (x : Int) : Bool := s.getD x.toNat false
noncomputable def markS (st : List Bool × List Int) (g : Int) : List Bool × List Int := if atB st.1 g then st else (st.1.set g.toNat true, st.2 ++ [g])
structure Sprd (L : List (List Int)) (seeds : List Int) (st : List Bool × List Int) : Prop where
  len : st.1.length = L.length
  rng : ∀ x ∈ st.2, 0 ≤ x ∧ x < L.length
  sound : ∀ x : Int, 0 ≤ x → atB st.1 x = true → Reach L seeds x
  wt : ∀ x ∈ st.2, atB st.1 x = true
  sd : ∀ x ∈ seeds, atB st.1 x = true
  cl : ∀ x : Int, 0 ≤ x → atB st.1 x = true → x ∈ st.2 ∨ ∀ g ∈ L.getD x.toNat [], atB st.1 g = true
noncomputable abbrev sprM (st : List Bool × List Int) : Nat := 2 * st.1.count false + st.2.length
theorem atB_set {s : List Bool} {x y : Int} (hx : 0 ≤ x) (hy : 0 ≤ y) (h : y < s.length) : atB (s.set y.toNat true) x = if x = y then true else atB s x := by
  unfold atB
  rw [List.getD_eq_getElem?_getD, List.getD_eq_getElem?_getD, List.getElem?_set]
  by_cases h1 : x = y
  · subst h1; rw [if_pos rfl, if_pos rfl, if_pos (by lia)]; rfl
  · rw [if_neg h1, if_neg (by lia)]
theorem atB_mono {s : List Bool} {x : Int} {k : Nat} (h : atB s x = true) : atB (s.set k true) x = true := by
  unfold atB at *
  rw [List.getD_eq_getElem?_getD] at *
  rw [List.getElem?_set]
  split
  · split
    · rfl
    · rw [List.getElem?_eq_none (by lia)] at h; cases h
  · exact h
theorem count_set {s : List Bool} : ∀ {k : Nat}, k < s.length → s.getD k false = false → (s.set k true).count false + 1 = s.count false := by
  induction s with
  | nil => intro k h; simp at h
  | cons c s ih =>
    intro k h e
    cases k with
    | zero => simp at e; subst e; simp
    | succ k =>
      simp at h e
      have := ih h (by simpa using e)
      rw [List.set_cons_succ, List.count_cons, List.count_cons]; lia
inductive MarkP (n : Nat) (g : Int) (st st' : List Bool × List Int) : Prop
  | mk (a1 : st'.1.length = n) (a2 : ∀ x : Int, atB st.1 x = true → atB st'.1 x = true) (a3 : ∀ x : Int, 0 ≤ x → atB st'.1 x = true → atB st.1 x = true ∨ (x = g ∧ x ∈ st'.2)) (a4 : atB st'.1 g = true) (a5 : ∀ x ∈ st.2, x ∈ st'.2) (a6 : ∀ x ∈ st'.2, x ∈ st.2 ∨ x = g) (a7 : sprM st' ≤ sprM st)
inductive MarksP (n : Nat) (gs : List Int) (st st' : List Bool × List Int) : Prop
  | mk (a1 : st'.1.length = n) (a2 : ∀ x : Int, atB st.1 x = true → atB st'.1 x = true) (a3 : ∀ x : Int, 0 ≤ x → atB st'.1 x = true → atB st.1 x = true ∨ (x ∈ gs ∧ x ∈ st'.2)) (a4 : ∀ g ∈ gs, atB st'.1 g = true) (a5 : ∀ x ∈ st.2, x ∈ st'.2) (a6 : ∀ x ∈ st'.2, x ∈ st.2 ∨ x ∈ gs) (a7 : sprM st' ≤ sprM st)
theorem mark_spec {n : Nat} {st : List Bool × List Int} (hl : st.1.length = n) {g : Int} (h0 : 0 ≤ g) (h1 : g < n) :
    MarkP n g st (markS st g) := by
  unfold markS
  split
  · rename_i h; exact ⟨hl, fun _ q => q, fun _ _ q => .inl q, h, fun _ q => q, fun _ q => .inl q, Nat.le_refl _⟩
  · rename_i h
    have hf : atB st.1 g = false := by simpa using h
    refine ⟨by simpa using hl, fun x q => atB_mono q, fun x hx q => ?_, ?_, fun x q => by simp [q], fun x q => by simpa using q, ?_⟩
    · rw [atB_set hx h0 (by lia)] at q
      by_cases e : x = g
      · exact .inr ⟨e, by simp [e]⟩
      · rw [if_neg e] at q; exact .inl q
    · rw [atB_set h0 h0 (by lia)]; simp
    · have := count_set (s := st.1) (k := g.toNat) (by lia) hf
      simp only [sprM, List.length_append, List.length_singleton]; lia
theorem marks_spec {n : Nat} (gs : List Int) : ∀ {st : List Bool × List Int}, st.1.length = n → (∀ g ∈ gs, 0 ≤ g ∧ g < n) →
    MarksP n gs st (gs.foldl markS st) := by
  induction gs with
  | nil => intro st hl _; exact ⟨hl, fun _ q => q, fun _ _ q => .inl q, (fun _ q => nomatch q), fun _ q => q, fun _ q => .inl q, Nat.le_refl _⟩
  | cons g gs ih =>
    intro st hl hg
    obtain ⟨a1, a2, a3, a4, a5, a6, a7⟩ := mark_spec hl (hg g (.head _)).1 (hg g (.head _)).2
    obtain ⟨b1, b2, b3, b4, b5, b6, b7⟩ := ih a1 fun x hx => hg x (.tail _ hx)
    refine ⟨b1, fun x q => b2 x (a2 x q), fun x hx q => ?_, fun x hx => ?_, fun x q => b5 x (a5 x q), fun x q => ?_, Nat.le_trans b7 a7⟩
    · rcases b3 x hx q with q | q
      · rcases a3 x hx q with q | q
        · exact .inl q
        · exact .inr ⟨by simp [q.1], b5 _ q.2⟩
      · exact .inr ⟨.tail _ q.1, q.2⟩
    · rcases List.mem_cons.mp hx with e | hx
      · subst e; exact b2 _ a4
      · exact b4 x hx
    · rcases b6 x q with q | q
      · rcases a6 x q with q | q
        · exact .inl q
        · exact .inr (by simp [q])
      · exact .inr (.tail _ q)
theorem Sprd.step {L : List (List Int)} {seeds : List Int} {seen : List Bool} {us : List Int} {p : Int} (S : Sprd L seeds (seen, us ++ [p])) (hL : ∀ r ∈ L, ∀ g ∈ r, 0 ≤ g ∧ g < L.length) :
    Sprd L seeds ((L.getD p.toNat []).foldl markS (seen, us)) ∧ sprM ((L.getD p.toNat []).foldl markS (seen, us)) < sprM (seen, us ++ [p]) := by
  have hp := S.rng p (by simp)
  have hg : ∀ g ∈ L.getD p.toNat [], 0 ≤ g ∧ g < L.length := fun g q => by
    have h : p.toNat < L.length := by lia
    rw [List.getD_eq_getElem?_getD, List.getElem?_eq_getElem h] at q
    exact hL _ (List.getElem_mem h) g q
  obtain ⟨b1, b2, b3, b4, b5, b6, b7⟩ := marks_spec (L.getD p.toNat []) (st := (seen, us)) S.len hg
  have hpr : Reach L seeds p := S.sound p hp.1 (S.wt p (by simp))
  refine ⟨⟨b1, fun x q => ?_, fun x hx q => ?_, fun x q => ?_, fun x q => b2 x (S.sd x q), fun x hx q => ?_⟩, ?_⟩
  · rcases b6 x q with q | q
    · exact S.rng x (by simp [q])
    · exact hg x q
  · rcases b3 x hx q with q | q
    · exact S.sound x hx q
    · exact .step hpr q.1
  · rcases b6 x q with q | q
    · exact b2 x (S.wt x (by simp [q]))
    · exact b4 x q
  · rcases b3 x hx q with q | q
    · rcases S.cl x hx q with q | q
      · rcases List.mem_append.mp q with q | q
        · exact .inl (b5 x q)
        · have := List.mem_singleton.mp q; subst this; exact .inr b4
      · exact .inr fun g hg => b2 g (q g hg)
    · exact .inl q.2
  · have : sprM (seen, us ++ [p]) = sprM (seen, us) + 1 := by simp only [sprM, List.length_append, List.length_singleton]; lia
    lia
theorem seeds_spec (gs : List Int) : ∀ {s : List Bool} {n : Nat}, s.length = n → (∀ g ∈ gs, 0 ≤ g ∧ g < n) → (gs.foldl (fun s g => s.set g.toNat true) s).length = n ∧ ∀ x : Int, 0 ≤ x → (atB (gs.foldl (fun s g => s.set g.toNat true) s) x = true ↔ atB s x = true ∨ x ∈ gs) := by
  induction gs with
  | nil => intro s n h _; exact ⟨h, fun x _ => by simp⟩
  | cons g gs ih =>
    intro s n h hg
    obtain ⟨c1, c2⟩ := ih (s := s.set g.toNat true) (n := n) (by simpa using h) fun x hx => hg x (.tail _ hx)
    refine ⟨c1, fun x hx => ?_⟩
    rw [List.foldl_cons, c2 x hx, atB_set hx (hg g (.head _)).1 (by rw [h]; exact (hg g (.head _)).2)]
    by_cases e : x = g <;> simp [e]
theorem Sprd.start {L : List (List Int)} {seeds : List Int} (h : ∀ g ∈ seeds, 0 ≤ g ∧ g < L.length) : Sprd L seeds (seeds.foldl (fun s g => s.set g.toNat true) (List.replicate L.length false), seeds) := by
  obtain ⟨c1, c2⟩ := seeds_spec seeds (s := List.replicate L.length false) (n := L.length) (by simp) h
  have z : ∀ x : Int, atB (List.replicate L.length false) x = false := fun x => by
    unfold atB; rw [List.getD_eq_getElem?_getD, List.getElem?_replicate]; split <;> rfl
  refine ⟨c1, h, fun x hx q => ?_, fun x q => (c2 x (h x q).1).mpr (.inr q), fun x q => (c2 x (h x q).1).mpr (.inr q), fun x hx q => ?_⟩
  · rcases (c2 x hx).mp q with q | q
    · rw [z] at q; cases q
    · exact .seed q
  · rcases (c2 x hx).mp q with q | q
    · rw [z] at q; cases q
    · exact .inl q
theorem Sprd.fin {L : List (List Int)} {seeds : List Int} {seen : List Bool} (S : Sprd L seeds (seen, [])) (hs : ∀ g ∈ seeds, 0 ≤ g ∧ g < L.length) (hL : ∀ r ∈ L, ∀ g ∈ r, 0 ≤ g ∧ g < L.length) (x : Int) (hx : 0 ≤ x) : atB seen x = true ↔ Reach L seeds x := by
  refine ⟨S.sound x hx, fun h => ?_⟩
  have : ∀ y, Reach L seeds y → 0 ≤ y ∧ atB seen y = true := fun y hy => by
    induction hy with
    | seed h => exact ⟨(hs _ h).1, S.sd _ h⟩
    | @step x y _ h ih =>
      refine ⟨?_, ((S.cl x ih.1 ih.2).resolve_left (fun q => nomatch q)) y h⟩
      rw [List.getD_eq_getElem?_getD] at h
      cases e : L[x.toNat]? with
      | none => rw [e] at h; cases h
      | some r => rw [e] at h; exact (hL r (List.mem_of_getElem? e) y h).1
  exact (this x h).2
open Classical in
noncomputable def spreadF (L : List (List Int)) (seeds : List Int) : List Bool := (List.range L.length).map fun v : Nat => decide (Reach L seeds v)
theorem Sprd.eq {L : List (List Int)} {seeds : List Int} {seen : List Bool} (S : Sprd L seeds (seen, [])) (hs : ∀ g ∈ seeds, 0 ≤ g ∧ g < L.length) (hL : ∀ r ∈ L, ∀ g ∈ r, 0 ≤ g ∧ g < L.length) : seen = spreadF L seeds := by
  apply List.ext_getElem
  · simp [spreadF, S.len]
  · intro i h1 h2
    have := S.fin hs hL i (by lia)
    unfold atB at this
    simp only [Int.toNat_natCast, List.getD_eq_getElem?_getD, List.getElem?_eq_getElem h1, Option.getD_some] at this
    simp only [spreadF, List.getElem_map, List.getElem_range]
    rw [Bool.eq_iff_iff, this]; simp
end Mine
end
section
namespace Mine
noncomputable def addW (c : Int) (aft : List Int) (g : Int) : List Int := if g = -1 then aft else aft.set g.toNat (aft.getD g.toNat 0 + c)
noncomputable def rowW (R : List (List Int)) (counts aft : List Int) (i : Nat) : List Int := (R.getD i []).foldl (addW (counts.getD i 0)) aft
noncomputable def stepW (n : Nat) (R : List (List Int)) (counts : List Int) : List Int := (List.range n).foldl (rowW R counts) (List.replicate n 0)
noncomputable def countsF (n : Nat) (R : List (List Int)) : Nat → List Int
  | 0 => (List.replicate n 0).set 0 1
  | k + 1 => stepW n R (countsF n R k)
noncomputable def tagged (n : Nat) (T : List (List Int)) : List Nat := (List.range n).filter fun i => !(T.getD i []).isEmpty
noncomputable def countW (n : Nat) (R T : List (List Int)) (len : Nat) : Int := ((tagged n T).map fun i => (countsF n R len).getD i 0).sum
theorem addW_len {n : Nat} {c : Int} {aft : List Int} (g : Int) (h : aft.length = n) : (addW c aft g).length = n := by unfold addW; split <;> simp [h]
theorem addWs_len {n : Nat} {c : Int} (gs : List Int) : ∀ {aft : List Int}, aft.length = n → (gs.foldl (addW c) aft).length = n := by
  induction gs with
  | nil => intro _ h; exact h
  | cons g gs ih => intro aft h; exact ih (addW_len g h)
theorem rowW_len {n : Nat} {R : List (List Int)} {c aft : List Int} (i : Nat) (h : aft.length = n) : (rowW R c aft i).length = n := addWs_len _ h
theorem rowWs_len {n : Nat} {R : List (List Int)} {c : List Int} (gs : List Nat) : ∀ {aft : List Int}, aft.length = n → (gs.foldl (rowW R c) aft).length = n := by
  induction gs with
  | nil => intro _ h; exact h
  | cons g gs ih => intro aft h; exact ih (rowW_len g h)
theorem stepW_len (n : Nat) (R : List (List Int)) (c : List Int) : (stepW n R c).length = n := rowWs_len _ (by simp)
theorem countsF_len (n : Nat) (R : List (List Int)) : ∀ k, (countsF n R k).length = n
  | 0 => by simp [countsF]
  | k + 1 => stepW_len _ _ _
theorem countsF_fold (n : Nat) (R : List (List Int)) : ∀ k, (List.range k).foldl (fun c _ => stepW n R c) ((List.replicate n 0).set 0 1) = countsF n R k
  | 0 => rfl
  | k + 1 => by rw [List.range_succ, List.foldl_append, countsF_fold n R k]; rfl
end Mine
end
section
set_option maxRecDepth 100000
open PySem PySem.W PyProof.Rows PySem.Calls PySem.Spec PySem.SeqAt
namespace Mine
/-- an automaton, as the law builds it -/
structure Aut (n m : Nat) (R T : List (List Int)) : Prop where
  n1 : 1 ≤ n
  n5 : n ≤ 5
  m1 : 1 ≤ m
  m3 : m ≤ 3
  hR : R.length = n
  hT : T.length = n
  row : ∀ r ∈ R, r.length = m
  ent : ∀ r ∈ R, ∀ g ∈ r, -1 ≤ g ∧ g < n
  tag : ∀ t ∈ T, t.length ≤ 2
noncomputable def linksF (R : List (List Int)) : List (List Int) := R.map fun r => r.filter (· != -1)
theorem sz_ok {n : Nat} (h : n ≤ 1000000) : n ≤ sizeLine := by unfold sizeLine; lia
theorem lt63 {i : Nat} (h : i ≤ 1000) : (i : Int) < 2 ^ 63 := Int.lt_of_le_of_lt (Int.ofNat_le.mpr h) (by decide)
theorem sz_range {n : Nat} (h : n ≤ 1000) : (List.range n).length ≤ sizeLine := by rw [List.length_range]; exact sz_ok (Nat.le_trans h (by decide))
theorem le_k {i n : Nat} (h : i < n) (hn : n ≤ 5) : i ≤ 1000 := Nat.le_trans (Nat.le_of_lt h) (Nat.le_trans hn (by decide))
theorem lt63i {x : Int} {n : Nat} (h : x < n) (hn : n ≤ 5) : x < 2 ^ 63 := Int.lt_trans h (lt63 (Nat.le_trans hn (by decide)))
theorem tn {x : Int} {n : Nat} (h : 0 ≤ x ∧ x < n) : x.toNat < n := (Int.toNat_lt h.1).mpr h.2
theorem sz_n {n : Nat} (hn : n ≤ 5) : n ≤ sizeLine := sz_ok (Nat.le_trans hn (by decide))
theorem k100 {n : Nat} (hn : n ≤ 5) : n ≤ 100 := Nat.le_trans hn (by decide)
theorem k1000 {n : Nat} (hn : n ≤ 5) : n ≤ 1000 := Nat.le_trans hn (by decide)
theorem mapget {α β : Type} {f : α → β} {l : List α} {i : Nat} {x : α} (h : l[i]? = some x) : (l.map f)[i]? = some (f x) := by rw [List.getElem?_map, h]; rfl
theorem mapgetL {α β : Type} {f : α → β} {l : List α} {i : Nat} (h : i < l.length) : (l.map f)[i]? = some (f l[i]) := mapget (List.getElem?_eq_getElem h)
theorem inn (i : Nat) : (0 : Int) ≤ i := Int.natCast_nonneg i
section
variable {prog : Program} {w : World} {b : Heap} {k : Nat} {n m : Nat} {R T : List (List Int)}
theorem src_list {as : List AV} : ∀ z v, Rep z v (.list as) → Src z v as := fun z v r => .list r
theorem src_rng {n : Nat} (h : n < 2 ^ 62) : ∀ z v, Rep z v (.rng 0 n) → Src z v ((List.range n).map fun i : Nat => AV.int i) := fun z v r => by
  have q := Src.rng r (by lia) (by lia) (by lia) (by lia)
  have e : avI (rangeI 0 n) = (List.range n).map fun i : Nat => AV.int i := by simp [rangeI, avI]
  rw [e] at q; exact q
theorem gv_DEAD (w : World) : GV w (Str.ofString "DEAD") (.int (-1) 218) := gv w (by kernel_rfl)
theorem gv_range (w : World) : GV w (Str.ofString "range") (.type "range") := gvb w (by kernel_rfl) (by boot_fast) (by decide)
theorem gv_list (w : World) : GV w (Str.ofString "list") (.type "list") := gvb w (by kernel_rfl) (by boot_fast) (by decide)
theorem gv_int (w : World) : GV w (Str.ofString "int") (.type "int") := gvb w (by kernel_rfl) (by boot_fast) (by decide)
theorem gv_sum (w : World) : GV w (Str.ofString "sum") (.builtin "sum") := gvb w (by kernel_rfl) (by boot_fast) (by decide)
theorem gv_any (w : World) : GV w (Str.ofString "any") (.builtin "any") := gvb w (by kernel_rfl) (by boot_fast) (by decide)
theorem gv_abs (w : World) : GV w (Str.ofString "abs") (.builtin "abs") := gvb w (by kernel_rfl) (by boot_fast) (by decide)

theorem avI_get {l : List Int} {i : Nat} (h : i < l.length) : (avI l)[i]? = some (.int (l.getD i 0)) := by simp [h]
theorem f_class_count (B : Base w b) (H : Aut n m R T) : FnR prog w b (k + 1) (.ref 54) [dfaA R T] (.int m) := by
  refine fn_ret B rfl rfl (by kernel_rfl) rfl rfl rfl rfl rfl rfl (ps := [Str.ofString "self"]) rfl (bind1 fun _ => rfl) (by kernel_rfl) ?_
  cases R with
  | nil => have := H.hR; have := H.n1; simp at *; lia
  | cons r R =>
  refine ev_call B (ev_glob B (by rfl) (gv_len w) (fun z => .val _)) (.inl ⟨_, rfl⟩) (evs_cons (ev_item (ev_rows B (ev_name (by rfl))) (ev_int (i := 0)) (by decide) (by decide) rfl) evs_nil) ?_
  have hr := H.row r (.head _)
  have := H.m3
  have := fn_len (prog := prog) (w := w) (b := b) (k := k) (xs := avI r) (by simp; lia)
  rw [List.length_map, hr] at this
  exact this
theorem f_links (B : Base w b) (H : Aut n m R T) : FnL prog w b (k + 1) (.ref 73) [dfaA R T] ((linksF R).map rowA) := by
  refine fn_retL B rfl rfl (by kernel_rfl) rfl rfl rfl rfl rfl rfl (ps := [Str.ofString "self"]) rfl (bind1 fun _ => rfl) (by kernel_rfl) ?_
  rw [linksF, List.map_map]
  refine ev_comp R rowA _ (ev_rows B (ev_name (by rfl))) src_list (sz_ok (by have := H.hR; have := H.n5; lia)) (fun r hr => ?_) rfl (by kernel_rfl)
  have h3 := H.row r hr
  have := H.m3
  refine Ev.of_L (ev_compIf r AV.int (· != -1) AV.int (ev_name (by rfl)) src_list (sz_ok (by lia)) (fun g hg => ?_) (fun g hg _ => ev_name (by rfl)) rfl (by kernel_rfl))
  exact evt_cmp (ev_name (by rfl)) (ev_glob B (by rfl) (gv_DEAD w) (fun z => .int _ _)) cmp_ne
theorem f_sign_of (B : Base w b) (c : Bool) : FnR prog w b (k + 1) (.ref 135) [.bool c] (tagA (if c then [0] else [])) := by
  refine fn_ret B rfl rfl (by kernel_rfl) rfl rfl rfl rfl rfl rfl (ps := [Str.ofString "is_kept"]) rfl (bind1 fun _ => rfl) (by kernel_rfl) ?_
  have e : tagA (if c then [0] else []) = if c = true then tagA [0] else tagA [] := by cases c <;> rfl
  rw [e]
  exact ev_ifexp (evt_bool (ev_name (by rfl))) (fun _ => ev_tuple (evs_cons ev_int evs_nil)) (fun _ => ev_tuple evs_nil)
theorem fn_lenI {xs : List AV} {n : Nat} (h : xs.length = n) (hn : n < 2 ^ 62) : FnR prog w b k (.builtin "len") [.list xs] (.int n) := by
  have := fn_len (prog := prog) (w := w) (b := b) (k := k) (xs := xs) (by lia)
  rw [h] at this; exact this
theorem ev_range1 (B : Base w b) {ns : List (Str × NameKind)} {σ : Sig} {p pos : Pos} {e : Expr} {n : Int} (kx : ns.lookup (Str.ofString "range") = some .globalImplicit) (H : Ev prog w b k ns σ e (.int n))
    (he : ∀ env, starEach [e] env = (false, eval e env) :: starEach [] env := by intro _; rfl)
    (hx : ∀ env, eval (.Call (.Name (Str.ofString "range") p) [e] [] pos) env = (do callWith pos (← eval (.Name (Str.ofString "range") p) env) [] (backTo pos (starEach [e] env)) (backToKw pos (keywordEach [] env))) := by intro _; rfl) : Ev prog w b k ns σ (.Call (.Name (Str.ofString "range") p) [e] [] pos) (.rng 0 n) :=
  ev_call B (ev_glob B kx (gv_range w) (fun z => .val _)) (.inr (.inl ⟨_, rfl⟩)) (evs_cons H evs_nil he) fn_range he (by intro _; rfl) hx
theorem ev_len1 (B : Base w b) {ns : List (Str × NameKind)} {σ : Sig} {p pos : Pos} {e : Expr} {xs : List AV} {n : Nat} (kx : ns.lookup (Str.ofString "len") = some .globalImplicit) (H : Ev prog w b k ns σ e (.list xs)) (h : xs.length = n) (hn : n < 2 ^ 62)
    (he : ∀ env, starEach [e] env = (false, eval e env) :: starEach [] env := by intro _; rfl)
    (hx : ∀ env, eval (.Call (.Name (Str.ofString "len") p) [e] [] pos) env = (do callWith pos (← eval (.Name (Str.ofString "len") p) env) [] (backTo pos (starEach [e] env)) (backToKw pos (keywordEach [] env))) := by intro _; rfl) : Ev prog w b k ns σ (.Call (.Name (Str.ofString "len") p) [e] [] pos) (.int n) :=
  ev_call B (ev_glob B kx (gv_len w) (fun z => .val _)) (.inl ⟨_, rfl⟩) (evs_cons H evs_nil he) (fn_lenI h hn) he (by intro _; rfl) hx
theorem ev_sum1 (B : Base w b) {ns : List (Str × NameKind)} {σ : Sig} {p pos : Pos} {e : Expr} {xs : List Int} (kx : ns.lookup (Str.ofString "sum") = some .globalImplicit) (H : Ev prog w b k ns σ e (.list (avI xs)))
    (he : ∀ env, starEach [e] env = (false, eval e env) :: starEach [] env := by intro _; rfl)
    (hx : ∀ env, eval (.Call (.Name (Str.ofString "sum") p) [e] [] pos) env = (do callWith pos (← eval (.Name (Str.ofString "sum") p) env) [] (backTo pos (starEach [e] env)) (backToKw pos (keywordEach [] env))) := by intro _; rfl) : Ev prog w b k ns σ (.Call (.Name (Str.ofString "sum") p) [e] [] pos) (.int xs.sum) :=
  ev_call B (ev_glob B kx (gv_sum w) (fun z => .val _)) (.inl ⟨_, rfl⟩) (evs_cons H evs_nil he) fn_sum he (by intro _; rfl) hx

noncomputable def tableF (n : Nat) (R : List (List Int)) : List (List Int) := R.map fun r => (List.range n).map fun g : Nat => (r.count (g : Int) : Int)
theorem f_table (B : Base w b) (H : Aut n m R T) : FnL prog w b (k + 1) (.ref 159) [.list (R.map rowA)] ((tableF n R).map rowA) := by
  refine fn_retL B rfl rfl (by kernel_rfl) rfl rfl rfl rfl rfl rfl (ps := [Str.ofString "rows"]) rfl (bind1 fun _ => rfl) (by kernel_rfl) ?_
  rw [tableF, List.map_map]
  have := H.n5
  have hR := H.hR
  refine ev_comp R rowA _ (ev_name (by rfl)) src_list (sz_ok (by lia)) (fun r hr => ?_) rfl (by kernel_rfl)
  have e : (rowA ∘ fun r : List Int => (List.range n).map fun g : Nat => (r.count (g : Int) : Int)) r = .list ((List.range n).map fun g : Nat => AV.int (r.count (g : Int) : Nat)) := by simp [avI]
  rw [e]
  refine Ev.of_L (ev_comp (List.range n) (fun i : Nat => AV.int i) _ (ev_range1 B (by rfl) (ev_len1 B (by rfl) (ev_name (by rfl)) (n := n) (by simp [hR]) (by lia))) (src_rng (by lia)) (sz_ok (by simp; lia)) (fun i hi => ?_) rfl (by kernel_rfl))
  exact ev_count (ev_name (by rfl)) (ev_name (by rfl))

/-- square tables of numbers -/
structure Sq (n : Nat) (M : List (List Int)) : Prop where
  len : M.length = n
  row : ∀ r ∈ M, r.length = n
noncomputable abbrev ent (M : List (List Int)) (i j : Nat) : Int := (M.getD i []).getD j 0
noncomputable def timesF (n : Nat) (P Q : List (List Int)) : List (List Int) := (List.range n).map fun i => (List.range n).map fun j => ((List.range n).map fun a => ent P i a * ent Q a j).sum
theorem Sq.at {M : List (List Int)} (S : Sq n M) {i : Nat} (hi : i < n) : ∃ r, M[i]? = some r ∧ r.length = n := by
  have h : i < M.length := by rw [S.len]; exact hi
  exact ⟨M[i], List.getElem?_eq_getElem h, S.row _ (List.getElem_mem h)⟩
theorem ev_ent {ns : List (Str × NameKind)} {σ : Sig} {v i j : Expr} {p q : Pos} {M : List (List Int)} {a c : Nat} (S : Sq n M) (hn : n ≤ 5) (ha : a < n) (hc : c < n) (hv : Ev prog w b k ns σ v (.list (M.map rowA))) (hi : Ev prog w b k ns σ i (.int a)) (hj : Ev prog w b k ns σ j (.int c))
    (hs : ∀ o t, subscripted i false o t = operate [o, t] (getItem o t) := by intro _ _; with_unfolding_all rfl) (hs' : ∀ o t, subscripted j false o t = operate [o, t] (getItem o t) := by intro _ _; with_unfolding_all rfl) :
    Ev prog w b k ns σ (.Subscript (.Subscript v i p) j q) (.int (ent M a c)) := by
  obtain ⟨r, hr, hl⟩ := S.at ha
  have e : ent M a c = r.getD c 0 := by simp [ent, List.getD, hr]
  rw [e]
  refine ev_item (xs := avI r) (ev_item (xs := M.map rowA) hv hi (by lia) (by lia) (by simp [hr]) hs) hj (by lia) (by lia) ?_ hs'
  have : c < r.length := by lia
  simp [this]
theorem f_times (B : Base w b) {P Q : List (List Int)} (hn : n ≤ 5) (hP : Sq n P) (hQ : Sq n Q) (hm : ∀ i j a, i < n → j < n → a < n → IntMulOk (ent P i a) (ent Q a j)) :
    FnL prog w b (k + 1) (.ref 164) [.list (P.map rowA), .list (Q.map rowA)] ((timesF n P Q).map rowA) := by
  refine fn_bodyL B rfl rfl (by kernel_rfl) rfl rfl rfl rfl rfl rfl (ps := [Str.ofString "one", Str.ofString "other"]) rfl (bind2 fun _ _ => rfl) (by kernel_rfl) fun base z₀ env A s Q' Rm S h => ?_
  refine ex_assign S Rm (ev_range1 B (by rfl) (ev_len1 B (by rfl) (ev_name (by rfl)) (n := n) (by simp [hP.len]) (by lia))) (by decide) fun z₁ h₁ tk₁ S₁ l₁ => ?_
  have rg : ∀ z v, Rep z v (.rng 0 n) → Src z v ((List.range n).map fun i : Nat => AV.int i) := src_rng (by lia)
  have sz : (List.range n).length ≤ sizeLine := sz_ok (by simp; lia)
  refine ex_retL (s := (sh s h₁ tk₁)) S₁ Rm (xs := (timesF n P Q).map rowA) ?_ fun l vs m z' h' tk S' r => by
    obtain ⟨e1, e2, e3, _⟩ := S'.ld (l, lstO vs m) (.head _)
    exact h l vs m z' h' tk S'.G e3 e2 e1 r
  rw [timesF, List.map_map]
  refine ev_comp (List.range n) (fun i : Nat => AV.int i) _ (ev_name (by rfl)) rg sz (fun i hi => ?_) rfl (by kernel_rfl)
  have hi := List.mem_range.mp hi
  have e : (rowA ∘ fun i => (List.range n).map fun j => ((List.range n).map fun a => ent P i a * ent Q a j).sum) i = .list ((List.range n).map fun j => AV.int ((List.range n).map fun a => ent P i a * ent Q a j).sum) := by simp [avI]
  rw [e]
  refine Ev.of_L (ev_comp (List.range n) (fun i : Nat => AV.int i) _ (ev_name (by rfl)) rg sz (fun j hj => ?_) rfl (by kernel_rfl))
  have hj := List.mem_range.mp hj
  refine ev_sum1 B (by rfl) ?_
  rw [avI, List.map_map]
  refine Ev.of_L (ev_comp (List.range n) (fun i : Nat => AV.int i) _ (ev_name (by rfl)) rg sz (fun a ha => ?_) rfl (by kernel_rfl))
  have ha := List.mem_range.mp ha
  exact ev_bin (ev_ent hP hn hi ha (ev_name (by rfl)) (ev_name (by rfl)) (ev_name (by rfl))) (ev_ent hQ hn ha hj (ev_name (by rfl)) (ev_name (by rfl)) (ev_name (by rfl))) (bin_mul (hm i j a hi hj ha))
end
end Mine
end
section
set_option maxRecDepth 100000
open PySem PySem.W PyProof.Rows PySem.Calls PySem.Spec PySem.SeqAt
namespace Mine
section
variable {prog : Program} {w : World} {b : Heap} {k : Nat} {ns : List (Str × NameKind)} {base z₀ : Heap} {env : Env} {z : Heap} {σ : Sig} {led : List (Addr × Obj)} {A : Around} {s : Shared} {E : Value → Shared → Prop}
inductive RepsS (z : Heap) (vs : List Value) (xs : List AV) (a : AV) : Prop
  | mk (us : List Value) (v : Value) (e : vs = us ++ [v]) (r : Reps z us xs) (q : Rep z v a)
theorem Reps.snoc_inv {z : Heap} {vs : List Value} {xs : List AV} {a : AV} (h : Reps z vs (xs ++ [a])) : RepsS z vs xs a := by
  induction xs generalizing vs with
  | nil => cases vs with
    | nil => cases h
    | cons v vs =>
      obtain ⟨r, t⟩ := h.cons_inv
      cases vs with
      | nil => exact ⟨[], v, rfl, .nil, r⟩
      | cons _ _ => cases t
  | cons x xs ih => cases vs with
    | nil => cases h
    | cons v vs =>
      obtain ⟨h, t⟩ := h.cons_inv
      obtain ⟨us, u, e, r, q⟩ := ih t
      exact ⟨v :: us, u, congrArg _ e, .cons h r, q⟩

/-- for x in src, told by a fold -/
theorem ex_forS {α S : Type} {x : Str} {px pos : Pos} {iter : Expr} {body rest : List Stmt} {src : AV} {Q : Flow → Shared → Prop} (as : List α) (enc : α → AV) (step : S → α → S) (st₀ : S) (rep : S → Heap → Sig → List (Addr × Obj) → Prop) (τ₀ : Sig)
    (S₀ : St w b ns base z₀ env z s.heap σ led) (R : Room A k) (hit : Ev prog w b k ns σ iter src) (hsrc : ∀ z v, Rep z v src → Src z v (as.map enc)) (hx : KindOk ns x) (h0 : ∀ z', Le z z' → rep st₀ z' τ₀ led)
    (turn : ∀ i a st z₁ h₁ tk σ₁ led₁ I oI, as[i]? = some a → st = (as.take i).foldl step st₀ → rep st z₁ σ₁ led₁ → Le z z₁ → St w b ns base z₀ env z₁ h₁ ((x, enc a) :: σ₁) ((I, oI) :: led₁) →
      wpAny (model prog w) A (execs body env) (TurnQ w b ns base z₀ env s z₁ I oI (rep (step st a))) NoE (sh s h₁ tk))
    (done : ∀ z₁ h₁ tk σ₁ led₁, rep (as.foldl step st₀) z₁ σ₁ led₁ → Le z z₁ → St w b ns base z₀ env z₁ h₁ σ₁ led₁ → wpAny (model prog w) A (execs rest env) Q E (sh s h₁ tk))
    (hs : ∀ x, foldedSetIterable iter env x = pure x := by intro _; rfl) (hsub : ∀ x a, τ₀.lookup x = some a → σ.lookup x = some a := by repeat' (first | exact sub_nil | refine sub_cons rfl ?_)) :
    wpAny (model prog w) A (execs (.For (.Name x px) iter body [] pos :: rest) env) Q E s := by
  refine ex_for (fun i z' σ' led' => rep ((as.take i).foldl step st₀) z' σ' led') τ₀ S₀ R hit hsrc hx hsub h0 (fun i a z₁ h₁ tk σ₁ led₁ I oI hxa hJ lz S₁ => ?_) (fun z₁ h₁ tk σ₁ led₁ hJ lz S₁ => ?_) hs
  · rw [List.getElem?_map] at hxa
    cases q : as[i]? with
    | none => rw [q] at hxa; cases hxa
    | some a' =>
      rw [q] at hxa
      cases hxa
      have e : (as.take (i + 1)).foldl step st₀ = step ((as.take i).foldl step st₀) a' := by rw [List.take_succ, q]; simp
      rw [e]
      exact turn i a' _ z₁ h₁ tk σ₁ led₁ I oI q rfl hJ lz S₁
  · rw [List.length_map, List.take_length] at hJ
    exact done z₁ h₁ tk σ₁ led₁ hJ lz S₁

inductive Rep1 (σ₀ : Sig) (f : Obj → List (Addr × Obj)) (P : Prop) (xs : List AV) (z' : Heap) (σ' : Sig) (led' : List (Addr × Obj)) : Prop
  | mk (es : σ' = σ₀) (p : P) (vs : List Value) (m : Nat) (r : Reps z' vs xs) (e : led' = f (lstO vs m))
inductive PRep (σ₁ : Sig) (n : Nat) (dw ds : Addr) (st : List Bool × List Int) (z' : Heap) (σ' : Sig) (led' : List (Addr × Obj)) : Prop
  | mk (es : σ' = σ₁) (hl : st.1.length = n) (hw : st.2.length ≤ 100000) (vs : List Value) (m m' : Nat) (r : Reps z' vs (avI st.2)) (e : led' = [(dw, lstO vs m'), (ds, lstO (st.1.map Value.bool) m)])
inductive PWh (L : List (List Int)) (seeds : List Int) (σ₁ : Sig) (n : Nat) (dw ds : Addr) (j : Nat) (z' : Heap) (σ' : Sig) (led' : List (Addr × Obj)) : Prop
  | mk (st : List Bool × List Int) (sp : Sprd L seeds st) (e : j = sprM st) (b : sprM st ≤ 200) (r : PRep σ₁ n dw ds st z' σ' led')
/-- tables of ways -/
structure Ways (n : Nat) (L : List (List Int)) : Prop where
  n5 : n ≤ 5
  len : L.length = n
  wd : ∀ r ∈ L, r.length ≤ 25
  rng : ∀ r ∈ L, ∀ g ∈ r, 0 ≤ g ∧ g < L.length

theorem f_spread (B : Base w b) {n : Nat} {L : List (List Int)} {seeds : List Int} (H : Ways n L) (hs : ∀ g ∈ seeds, 0 ≤ g ∧ g < L.length) (hsz : seeds.length ≤ 100) :
    FnL prog w b (k + 1) (.ref 28) [.list (L.map rowA), rowA seeds] (avB (spreadF L seeds)) := by
  have n5 := H.n5
  have hl := H.len
  refine fn_bodyL B rfl rfl (by kernel_rfl) rfl rfl rfl rfl rfl rfl (ps := [Str.ofString "links", Str.ofString "seeds"]) rfl (bind2 fun _ _ => rfl) (by kernel_rfl) fun base z₀ env A s Q' Rm S h => ?_
  refine ex_assignL S Rm (ev_lmul ev_bool (ev_len1 B (by rfl) (ev_name (by rfl)) (n := n) (by simp [hl]) (by lia)) (by lia) (by lia)) (by decide) fun ds vs nn z₁ h₁ tk₁ S₁ r₁ l₁ => ?_
  have e₁ : vs = (List.replicate n false).map Value.bool := by
    have : List.replicate (n : Int).toNat (AV.bool false) = avB (List.replicate n false) := by simp [avB]
    rw [this] at r₁; exact r₁.boolsAre
  subst e₁
  let σ₀ : Sig := [(Str.ofString "seen", .val (.ref ds)), (Str.ofString "links", .list (L.map rowA)), (Str.ofString "seeds", rowA seeds)]
  refine ex_forS (s := (sh s h₁ tk₁)) seeds AV.int (fun s g => s.set g.toNat true) (List.replicate n false) (fun st _ σ' led' => σ' = σ₀ ∧ ∃ m, st.length = n ∧ led' = [(ds, lstO (st.map Value.bool) m)]) σ₀ S₁ Rm (ev_name (by rfl)) src_list (by decide) (fun _ _ => ⟨rfl, nn, by simp, rfl⟩) ?_ ?_
  · rintro i g st z₂ h₂ tk₂ σ₂ led₂ I oI hg - ⟨rfl, m, hst, rfl⟩ lz S₂
    have hgr := hs g (List.mem_of_getElem? hg)
    refine ex_setitem (s := (sh s h₂ tk₂)) [(I, oI)] S₂ sees_refl Rm ev_bool (.bool _) (by rfl) (ev_name (by rfl)) hgr.1 (by simp [hst]; lia) (by lia) fun v z₃ h₃ tk₃ S₃ l₃ r₃ => ?_
    have ev : v = .bool true := (r₃ z₃).bool_inv
    subst ev
    exact ex_nil ⟨rfl, z₃, h₃, tk₃, σ₀, _, rfl, l₃, S₃.cut σ₀, rfl, m, by simp [hst], by simp [List.map_set]⟩
  · rintro z₂ h₂ tk₂ σ₂ led₂ ⟨rfl, m, hst, rfl⟩ lz S₂
    have sp := Sprd.start hs
    rw [hl] at sp
    generalize hsn : seeds.foldl (fun s g => s.set g.toNat true) (List.replicate n false) = seen₀ at *
    refine ex_assignL (s := (sh s h₂ tk₂)) S₂ Rm (ev_callL B (ev_glob B (by rfl) (gv_list w) (fun z => .val _)) (.inr (.inl ⟨_, rfl⟩)) (evs_cons (ev_name (a := rowA seeds) (by rfl)) evs_nil) (fn_list (sz_ok (by simp; lia)))) (by decide) fun dw vs m' z₃ h₃ tk₃ S₃ r₃ l₃ => ?_
    let σ₁ : Sig := [(Str.ofString "waiting", .val (.ref dw)), (Str.ofString "seen", .val (.ref ds)), (Str.ofString "links", .list (L.map rowA))]
    let rep : List Bool × List Int → Heap → Sig → List (Addr × Obj) → Prop := PRep σ₁ n dw ds
    refine ex_while (s := (sh s h₃ tk₃)) (PWh L seeds σ₁ n dw ds) (sprM (seen₀, seeds)) (S₃.cut σ₁) Rm ⟨_, sp, rfl, ?_, rfl, hst, by simp; lia, vs, m, m', r₃, rfl⟩ ?_
    · have := List.count_le_length (a := false) (l := seen₀)
      simp only [sprM]; lia
    · rintro j z₄ h₄ tk₄ σ₄ led₄ ⟨st, sp, rfl, hb, rfl, hsl, hwl, vs, m, m', rv, rfl⟩ lz₄ S₄
      have ew := S₄.at (d := dw) (.head _)
      refine ⟨!(avI st.2).isEmpty, _, sees_list (x := Str.ofString "waiting") (by rfl) ew (rv.le S₄.X.zh) sees_refl, evt_list (ev_name (by rfl)) (by simp; lia), fun hc h₅ tk₅ S₅ => ?_, fun hc h₅ tk₅ S₅ => ?_⟩
      · obtain ⟨seen, us⟩ := st
        rcases List.eq_nil_or_concat us with e | ⟨us, p, e⟩
        · subst e; simp at hc
        · rw [List.concat_eq_append] at e
          subst e
          simp only [avI, List.map_append, List.map_cons, List.map_nil] at rv
          obtain ⟨us', v, rfl, r₁, r₂⟩ := rv.snoc_inv
          have hp := sp.rng p (by simp)
          refine ex_pop (s := (sh s h₅ tk₅)) [] S₅ Rm (by rfl) (by decide) r₂ (sz_ok (by have := r₁.length; simp at hwl this; lia)) fun m'' h₆ tk₆ S₆ => ?_
          obtain ⟨sp', hlt⟩ := sp.step H.rng
          have hpl : p.toNat < L.length := tn hp
          have eg : L.getD p.toNat [] = L[p.toNat] := by rw [List.getD_eq_getElem?_getD, List.getElem?_eq_getElem hpl]; rfl
          rw [eg] at sp' hlt
          have hmem : L[p.toNat] ∈ L := List.getElem_mem hpl
          refine ex_forS (s := (sh s h₆ tk₆)) L[p.toNat] AV.int markS (seen, us) rep σ₁ S₆ Rm (ev_item (xs := L.map rowA) (ev_name (a := .list (L.map rowA)) (by rfl)) (ev_name (by rfl)) hp.1 (lt63i hp.2 (hl ▸ n5)) (mapgetL hpl)) src_list (by decide) (fun z' lz' => ⟨rfl, hsl, by simp at hwl; simp; lia, us', m, m'', r₁.le lz', rfl⟩) ?_ ?_
          · rintro i g st z₇ h₇ tk₇ σ₇ led₇ I oI hg hst' ⟨rfl, hsl', hwl', vs', m, m', rv, rfl⟩ lz₇ S₇
            have hgm : g ∈ L[p.toNat] := List.mem_of_getElem? hg
            have hgr := H.rng _ hmem g hgm
            have es := S₇.at (d := ds) (.tail _ (.tail _ (.head _)))
            have hgt : g.toNat < st.1.length := Nat.lt_of_lt_of_eq (tn hgr) (hl.trans hsl'.symm)
            refine ex_if (s := (sh s h₇ tk₇)) S₇ (sees_list (x := Str.ofString "seen") (xs := avB st.1) (by rfl) es (Reps.of_bools _) sees_refl) Rm (evt_not (evt_bool (c := st.1[g.toNat]) (ev_item (xs := avB st.1) (ev_name (by rfl)) (ev_name (by rfl)) hgr.1 (lt63i hgr.2 (hl ▸ n5)) (mapgetL hgt)))) fun h₈ tk₈ S₈ l₈ => ?_
            have em : atB st.1 g = st.1[g.toNat] := by unfold atB; rw [List.getD_eq_getElem?_getD, List.getElem?_eq_getElem hgt]; rfl
            cases hc : st.1[g.toNat] with
            | true =>
              have e2 : markS st g = st := by unfold markS; rw [em, hc]; rfl
              rw [e2]
              exact ex_nil (ex_nil ⟨rfl, z₇, h₈, tk₈, σ₁, _, rfl, Le.rfl, S₈.cut σ₁, rfl, hsl', hwl', vs', m, m', rv, rfl⟩)
            | false =>
              have e2 : markS st g = (st.1.set g.toNat true, st.2 ++ [g]) := by unfold markS; rw [em, hc]; rfl
              rw [e2]
              refine ex_setitem (s := (sh s h₈ tk₈)) [(I, oI), (dw, lstO vs' m')] S₈ sees_refl Rm ev_bool (.bool _) (by rfl) (ev_name (by rfl)) hgr.1 (by simp; lia) (by lia) fun v z₉ h₉ tk₉ S₉ l₉ r₉ => ?_
              have ev : v = .bool true := (r₉ z₉).bool_inv
              subst ev
              have hvl := rv.length
              simp only [List.length_map] at hvl
              refine ex_append (s := (sh s h₉ tk₉)) [(I, oI)] S₉ Rm (by rfl) (ev_name (a := .int g) (by rfl)) (sz_ok (by lia)) fun v m₂ z' h' tk' S' l' r' => ?_
              refine ex_nil (ex_nil ⟨rfl, z', h', tk', σ₁, _, rfl, l₉.trans l', S'.cut σ₁, rfl, by simp [hsl'], ?_, vs' ++ [v], m, m₂, ?_, by simp [List.map_set]⟩)
              · obtain ⟨-, -, -, -, -, -, b7⟩ := marks_spec (n := L.length) (L[p.toNat].take i) (st := (seen, us)) sp.len (fun g hg => H.rng _ hmem g (List.mem_of_mem_take hg))
                rw [← hst'] at b7
                simp only [sprM, List.length_append, List.length_singleton] at b7 hb ⊢
                lia
              · simp only [avI, List.map_append, List.map_cons, List.map_nil]
                exact (rv.le (l₉.trans l')).append (.cons r' .nil)
          · rintro z₇ h₇ tk₇ σ₇ led₇ hr lz₇ S₇
            exact ex_nil ⟨rfl, z₇, h₇, tk₇, _, _, sprM (L[p.toNat].foldl markS (seen, us)), hlt, rfl, lz₇, S₇, _, sp', rfl, by lia, hr⟩
      · have e : st.2 = [] := by cases e : st.2 with | nil => rfl | cons _ _ => rw [e] at hc; simp at hc
        obtain ⟨seen, us⟩ := st
        cases e
        have es := sp.eq hs H.rng
        subst es
        refine ex_retO (s := (sh s h₅ tk₅)) (d := ds) S₅ (by rfl) (.tail _ (.head _)) fun g e1 e2 e3 => h _ _ _ _ _ _ g e1 e2 e3 (Reps.of_bools _)
end
end Mine
end
section
set_option maxRecDepth 100000
open PySem PySem.W PyProof.Rows PySem.Calls PySem.Spec PySem.SeqAt
namespace Mine
section
variable {prog : Program} {w : World} {b : Heap} {k n m : Nat} {R T : List (List Int)}
theorem ev_states (B : Base w b) (H : Aut n m R T) {ns : List (Str × NameKind)} {σ : Sig} {v : Expr} {ap pos : Pos} (hv : Ev prog w b (k + 1) ns σ v (dfaA R T))
    (hm : ∀ env, ∃ pl, eval (.Call (.Attribute v (Str.ofString "state_count") ap) [] [] pos) env = (do
      let ov ← eval v env
      standAt ap.atName
      let (f, first) ← holding [ov] (getMethod ov (Str.ofString "state_count") pl)
      callWith pos f first (backTo pos (starEach [] env)) []) := by intro _; exact ⟨_, rfl⟩) :
    Ev prog w b (k + 1) ns σ (.Call (.Attribute v (Str.ofString "state_count") ap) [] [] pos) (.int n) := by
  have := f_state_count (prog := prog) (w := w) (b := b) (k := k) B (R := R) (T := T) (by have := H.hR; have := H.n5; lia)
  rw [H.hR] at this
  exact ev_meth0 B hv (f := 61) (by kernel_rfl) (by kernel_rfl) (by kernel_rfl) (by kernel_rfl) (by intros; kernel_rfl) this hm
theorem Aut.rowAt (H : Aut n m R T) {i : Nat} (hi : i < n) : ∃ r, R[i]? = some r ∧ R.getD i [] = r ∧ r.length = m ∧ ∀ g ∈ r, -1 ≤ g ∧ g < n := by
  have h : i < R.length := by rw [H.hR]; exact hi
  exact ⟨R[i], List.getElem?_eq_getElem h, by rw [List.getD_eq_getElem?_getD, List.getElem?_eq_getElem h]; rfl, H.row _ (List.getElem_mem h), H.ent _ (List.getElem_mem h)⟩
theorem Aut.tagAt (H : Aut n m R T) {i : Nat} (hi : i < n) : ∃ t, T[i]? = some t ∧ T.getD i [] = t ∧ t.length ≤ 2 := by
  have h : i < T.length := by rw [H.hT]; exact hi
  exact ⟨T[i], List.getElem?_eq_getElem h, by rw [List.getD_eq_getElem?_getD, List.getElem?_eq_getElem h]; rfl, H.tag _ (List.getElem_mem h)⟩
/-- dfa.tags[state] as a test -/
theorem evt_tag (B : Base w b) (H : Aut n m R T) {ns : List (Str × NameKind)} {σ : Sig} {v i : Expr} {p q : Pos} {a : Nat} (ha : a < n) (hv : Ev prog w b k ns σ v (dfaA R T)) (hi : Ev prog w b k ns σ i (.int a))
    (he : ∀ env, eval (.Attribute v (Str.ofString "tags") p) env = (do
      let o ← eval v env
      standAt p.atName
      let r ← holding [o] (getAttr o (Str.ofString "tags") true)
      letTemporaryGo v o r
      pure r) := by intro _; with_unfolding_all rfl)
    (hs : ∀ o t, subscripted i false o t = operate [o, t] (getItem o t) := by intro _ _; with_unfolding_all rfl) :
    EvT prog w b k ns σ (.Subscript (.Attribute v (Str.ofString "tags") p) i q) (!(T.getD a []).isEmpty) := by
  obtain ⟨t, h1, h2, h3⟩ := H.tagAt ha
  have n5 := H.n5
  have := evt_tup (prog := prog) (w := w) (b := b) (k := k) (ns := ns) (σ := σ) (e := .Subscript (.Attribute v (Str.ofString "tags") p) i q) (xs := avI t) (ev_item (xs := T.map tagA) (ev_tags B hv he) hi (by lia) (by lia) (by simp [h1]) hs) (by simp; lia) (by intro _; rfl)
  rw [h2]
  simpa using this
theorem f_count (B : Base w b) (H : Aut n m R T) {len : Nat} (hlen : len ≤ 100) : FnR prog w b (k + 2) (.ref 128) [dfaA R T, .int len] (.int (countW n R T len)) := by
  have n5 := H.n5
  have n1 := H.n1
  have m3 := H.m3
  refine fn_body B rfl rfl (by kernel_rfl) rfl rfl rfl rfl rfl rfl (ps := [Str.ofString "dfa", Str.ofString "length"]) rfl (bind2 fun _ _ => rfl) (by kernel_rfl) fun base z₀ env A s Q' Rm S h => ?_
  refine ex_if S sees_refl Rm (evt_cmp (ev_name (by rfl)) ev_int cmp_lt) fun h₁ tk₁ S₁ l₁ => ?_
  rw [decide_eq_false (by lia)]
  refine ex_nil ?_
  refine ex_assignL (s := (sh s h₁ tk₁)) S₁ Rm (ev_lmul ev_int (ev_states B H (ev_name (by rfl))) (by lia) (by lia)) (by decide) fun dc vs nn z₂ h₂ tk₂ S₂ r₂ l₂ => ?_
  have hvl := r₂.length
  simp only [List.length_replicate, Int.toNat_natCast] at hvl
  refine ex_setitem (s := (sh s h₂ tk₂)) [] S₂ sees_refl Rm (ev_int (i := 1)) (.int _) (by rfl) (ev_int (i := 0)) (by lia) (by lia) (by lia) fun v z₃ h₃ tk₃ S₃ l₃ r₃ => ?_
  have rr : Reps z₃ (vs.set 0 v) (avI ((List.replicate n 0).set 0 1)) := by
    have := (r₂.le l₃).set 0 (r₃ z₃)
    simpa [avI, List.map_set] using this
  let σ₀ : List Int → Sig := fun c => [(Str.ofString "counts", .list (avI c)), (Str.ofString "dfa", dfaA R T), (Str.ofString "length", .int len)]
  obtain ⟨z₄, l₄, S₄⟩ := St.frz (σ₀ ((List.replicate n 0).set 0 1)) S₃ rr
  have rg : ∀ j : Nat, j ≤ 100 → ∀ z v, Rep z v (.rng 0 j) → Src z v ((List.range j).map fun i : Nat => AV.int i) := fun j hj => src_rng (by lia)
  refine ex_forS (s := (sh s h₃ tk₃)) (List.range len) (fun i : Nat => AV.int i) (fun c _ => stepW n R c) ((List.replicate n 0).set 0 1) (fun c _ σ' led' => σ' = σ₀ c ∧ c.length = n ∧ led' = []) (σ₀ ((List.replicate n 0).set 0 1)) S₄ Rm
    (ev_range1 B (by rfl) (ev_name (by rfl))) (rg len hlen) (by decide) (fun _ _ => ⟨rfl, by simp, rfl⟩) ?_ ?_
  · rintro i _ c z₅ h₅ tk₅ σ₅ led₅ I oI - - ⟨rfl, hc, rfl⟩ l₅ S₅
    refine ex_assignL (s := (sh s h₅ tk₅)) S₅ Rm (ev_lmul ev_int (ev_states B H (ev_name (by rfl))) (by lia) (by lia)) (by decide) fun da vs nn z₆ h₆ tk₆ S₆ r₆ l₆ => ?_
    have r₆' : Reps z₆ vs (avI (List.replicate n 0)) := by simpa [avI] using r₆
    let σ₁ : Sig := [(Str.ofString "after", .val (.ref da)), (Str.ofString "counts", .list (avI c)), (Str.ofString "dfa", dfaA R T), (Str.ofString "length", .int len)]
    refine ex_forS (s := (sh s h₆ tk₆)) (List.range n) (fun i : Nat => AV.int i) (rowW R c) (List.replicate n 0) (fun aft => Rep1 σ₁ (fun o => [(da, o), (I, oI)]) (aft.length = n) (avI aft)) σ₁ S₆ Rm
      (ev_range1 B (by rfl) (ev_states B H (ev_name (by rfl)))) (rg n (k100 n5)) (by decide) (fun _ lz => ⟨rfl, by simp, vs, nn, r₆'.le lz, rfl⟩) ?_ ?_
    · rintro _ st aft z₇ h₇ tk₇ σ₇ led₇ I₂ oI₂ hst - ⟨rfl, ha, vs, mm, rv, rfl⟩ l₇ S₇
      have hst := List.mem_range.mp (List.mem_of_getElem? hst)
      obtain ⟨row, e1, e2, e3, e4⟩ := H.rowAt hst
      unfold rowW
      rw [e2]
      let σ₂ : Sig := [(Str.ofString "after", .val (.ref da)), (Str.ofString "counts", .list (avI c)), (Str.ofString "dfa", dfaA R T), (Str.ofString "length", .int len), (Str.ofString "state", .int st)]
      refine ex_forS (s := (sh s h₇ tk₇)) row AV.int (addW (c.getD st 0)) aft (fun aft => Rep1 σ₂ (fun o => [(I₂, oI₂), (da, o), (I, oI)]) (aft.length = n) (avI aft)) σ₂ S₇ Rm
        (ev_item (xs := R.map rowA) (ev_rows B (ev_name (by rfl))) (ev_name (by rfl)) (inn st) (lt63 (le_k hst n5)) (mapget e1)) src_list (by decide) (fun _ lz => ⟨rfl, ha, vs, mm, rv.le lz, rfl⟩) ?_ ?_
      · rintro _ g aft z₈ h₈ tk₈ σ₈ led₈ I₃ oI₃ hg - ⟨rfl, ha, vs, mm, rv, rfl⟩ l₈ S₈
        have hg := e4 g (List.mem_of_getElem? hg)
        refine ex_if (s := (sh s h₈ tk₈)) S₈ sees_refl Rm (evt_cmp (ev_name (by rfl)) (ev_glob B (by rfl) (gv_DEAD w) (fun z => .int _ _)) cmp_ne) fun h₉ tk₉ S₉ l₉ => ?_
        unfold addW
        by_cases hd : g = -1
        · have hb : (g != -1) = false := by simp [hd]
          rw [if_pos hd, hb]
          exact ex_nil (ex_nil ⟨rfl, z₈, h₉, tk₉, σ₂, _, rfl, Le.rfl, S₉.cut σ₂, rfl, ha, vs, mm, rv, rfl⟩)
        · have hb : (g != -1) = true := by simp [hd]
          rw [if_neg hd, hb]
          have hgn : g.toNat < n := by lia
          obtain ⟨v, hv, rv'⟩ := rv.get (i := g.toNat) (a := .int (aft.getD g.toNat 0)) (by
            have : g.toNat < aft.length := Nat.lt_of_lt_of_eq hgn ha.symm
            simp [this])
          obtain ⟨u, rfl⟩ := rv'.int_inv
          refine ex_augitem (s := (sh s h₉ tk₉)) [(I₃, oI₃), (I₂, oI₂)] S₉ Rm (by rfl) (ev_name (a := .int g) (by rfl)) (by lia) (by lia) hv (fun _ _ => sees_refl)
            (ev_item (xs := avI c) (j := st) (a := .int (c.getD st 0)) (ev_name (by rfl)) (ev_name (by rfl)) (inn st) (lt63 (le_k hst n5)) (avI_get (Nat.lt_of_lt_of_eq hst hc.symm))) (.inl ⟨rfl, rfl⟩) fun t z' h' tk' S' l' => ?_
          refine ex_nil (ex_nil ⟨rfl, z', h', tk', σ₂, _, rfl, l', S'.cut σ₂, rfl, by simp [ha], _, mm, ?_, rfl⟩)
          have := (rv.le l').set g.toNat (.int (aft.getD g.toNat 0 + c.getD st 0) t)
          simpa [avI, List.map_set] using this
      · rintro z₈ h₈ tk₈ σ₈ led₈ ⟨rfl, ha, vs, mm, rv, rfl⟩ l₈ S₈
        exact ex_nil ⟨rfl, z₈, h₈, tk₈, σ₁, _, rfl, l₈, S₈.cut σ₁, rfl, ha, vs, mm, rv, rfl⟩
    · rintro z₇ h₇ tk₇ σ₇ led₇ ⟨rfl, ha, vs, mm, rv, rfl⟩ l₇ S₇
      refine ex_assign (s := (sh s h₇ tk₇)) S₇ Rm (ev_name (by rfl)) (by decide) fun z₈ h₈ tk₈ S₈ l₈ => ?_
      obtain ⟨z₉, l₉, S₉⟩ := St.frz (σ₀ (stepW n R c)) S₈ (rv.le l₈)
      exact ex_nil ⟨rfl, z₉, h₈, tk₈, _, _, rfl, ((l₆.trans l₇).trans l₈).trans l₉, S₉, rfl, stepW_len n R c, rfl⟩
  · rintro z₅ h₅ tk₅ σ₅ led₅ ⟨rfl, hc, rfl⟩ l₅ S₅
    rw [countsF_fold] at *
    refine ex_ret (s := (sh s h₅ tk₅)) (a := .int (countW n R T len)) S₅ Rm ?_ fun v z' h' tk S' r => h _ z' h' tk S'.G r
    refine ev_sum1 B (by rfl) ?_
    rw [avI, List.map_map]
    refine Ev.of_L (ev_compIf (List.range n) (fun i : Nat => AV.int i) (fun i => !(T.getD i []).isEmpty) _ (ev_range1 B (by rfl) (ev_states B H (ev_name (by rfl)))) (rg n (k100 n5)) (sz_range (k1000 n5)) (fun i hi => ?_) (fun i hi _ => ?_) rfl (by kernel_rfl))
    · exact evt_tag B H (List.mem_range.mp hi) (ev_name (by rfl)) (ev_name (by rfl))
    · have hi := List.mem_range.mp hi
      exact ev_item (xs := avI (countsF n R len)) (j := i) (ev_name (by rfl)) (ev_name (by rfl)) (by lia) (by lia) (avI_get (l := countsF n R len) (i := i) (by have := countsF_len n R len; lia))
end
end Mine
end
section
open PySem PySem.W PyProof.Rows PySem.Calls PySem.Spec PySem.SeqAt
namespace Mine

/-- lists of one's own, what they hold -/
inductive RowsAre (z : Heap) : List (Addr × Obj) → List (List AV) → Prop
  | nil : RowsAre z [] []
  | cons {d : Addr} {us : List Value} {n : Nat} {xs : List AV} {led : List (Addr × Obj)} {xss : List (List AV)} : Reps z us xs → RowsAre z led xss → RowsAre z ((d, lstO us n) :: led) (xs :: xss)
theorem RowsAre.ind {z : Heap} {P : List (Addr × Obj) → List (List AV) → Prop} (hn : P [] []) (hc : ∀ {d us n xs led xss}, Reps z us xs → RowsAre z led xss → P led xss → P ((d, lstO us n) :: led) (xs :: xss)) {led : List (Addr × Obj)} {xss : List (List AV)} (h : RowsAre z led xss) : P led xss :=
  h.rec (motive := fun led xss _ => P led xss) hn fun r t ih => hc r t ih
theorem RowsAre.le {z z' : Heap} (l : Le z z') {led : List (Addr × Obj)} {xss : List (List AV)} (h : RowsAre z led xss) : RowsAre z' led xss := h.ind (P := fun led xss => RowsAre z' led xss) .nil fun r _ t => .cons (r.le l) t
theorem RowsAre.append {z : Heap} {led led' : List (Addr × Obj)} {xss yss : List (List AV)} (h : RowsAre z led xss) (h' : RowsAre z led' yss) : RowsAre z (led ++ led') (xss ++ yss) := h.ind (P := fun led xss => RowsAre z (led ++ led') (xss ++ yss)) h' fun r _ t => .cons r t
theorem RowsAre.length {z : Heap} {led : List (Addr × Obj)} {xss : List (List AV)} (h : RowsAre z led xss) : led.length = xss.length := h.ind (P := fun led xss => led.length = xss.length) rfl fun _ _ e => congrArg (· + 1) e
inductive Splits (z : Heap) (led : List (Addr × Obj)) (xss : List (List AV)) (i : Nat) (xs : List AV) : Prop
  | mk (pre : List (Addr × Obj)) (d : Addr) (us : List Value) (n : Nat) (post : List (Addr × Obj)) (e : led = pre ++ (d, lstO us n) :: post) (hl : pre.length = i) (r : Reps z us xs) (hs : ∀ us' n' ys z', Le z z' → Reps z' us' ys → RowsAre z' (pre ++ (d, lstO us' n') :: post) (xss.set i ys))
theorem RowsAre.split {z : Heap} {led : List (Addr × Obj)} {xss : List (List AV)} (h : RowsAre z led xss) : ∀ {i : Nat} {xs : List AV}, xss[i]? = some xs → Splits z led xss i xs :=
  h.ind (P := fun led xss => ∀ {i : Nat} {xs : List AV}, xss[i]? = some xs → Splits z led xss i xs) (fun e => nomatch e) fun {d us n xs led xss} r t ih i ys e => match i with
    | 0 => Option.some.inj e ▸ ⟨[], d, us, n, led, rfl, rfl, r, fun us' n' ys z' l r' => .cons r' (t.le l)⟩
    | i + 1 =>
      let ⟨pre, d', us', n', post, e1, e2, e3, e4⟩ := ih (i := i) e
      ⟨(d, lstO us n) :: pre, d', us', n', post, congrArg _ e1, congrArg (· + 1) e2, e3, fun us'' n'' ys z' l r' => .cons (r.le l) (e4 us'' n'' ys z' l r')⟩
noncomputable abbrev refs (led : List (Addr × Obj)) : List Value := led.map fun p => Value.ref p.1
theorem RowsAre.reps {z h : Heap} (l : Le z h) {led : List (Addr × Obj)} {xss : List (List AV)} (H : RowsAre z led xss) : (∀ p ∈ led, h.get? p.1 = some p.2) → Reps h (refs led) (xss.map AV.list) :=
  H.ind (P := fun led xss => (∀ p ∈ led, h.get? p.1 = some p.2) → Reps h (refs led) (xss.map AV.list)) (fun _ => .nil) fun r t ih hl => .cons (.list (hl _ (.head _)) (r.le l)) (ih fun p hp => hl p (.tail _ hp))
theorem reps_vals {z : Heap} (vs : List Value) : Reps z vs (vs.map AV.val) := by
  induction vs with
  | nil => exact .nil
  | cons v vs ih => exact .cons (.val v) ih

structure Rows2 (base z h : Heap) (vs : List Value) (led : List (Addr × Obj)) (xss : List (List AV)) : Prop where
  vs : vs = refs led
  at' : ∀ p ∈ led, h.get? p.1 = some p.2 ∧ z.get? p.1 = none ∧ base.get? p.1 = none
  nd : (led.map (·.1)).Nodup
  rows : RowsAre z led xss

section
variable (prog : Program) (w : World) (b : Heap) (k : Nat) (ns : List (Str × NameKind)) (σ : Sig)
noncomputable def EvLL (e : Expr) (xss : List (List AV)) : Prop :=
  ∀ (env : Env) (z : Heap) (A : Around) (s : Shared) (Q E : Value → Shared → Prop), EnvOK w b ns env z s.heap σ → Room A k →
    (∀ l vs n led z' h' tk, Grow z s.heap z' h' → s.heap.get? l = none → z'.get? l = none → h'.get? l = some (lstO vs n) → Rows2 s.heap z' h' vs led xss → (∀ p ∈ led, p.1 ≠ l) → Q (.ref l) (sh s h' tk)) →
    wpAny (model prog w) A (eval e env) Q E s
noncomputable def FnLL (f : Value) (as : List AV) (xss : List (List AV)) : Prop :=
  ∀ (z : Heap) (A : Around) (s : Shared) (Q E : Value → Shared → Prop) (vs : List Value), HasFr b s.heap → Le b z → Le z s.heap → Room A k → Reps z vs as →
    (∀ l vs n led z' h' tk, Grow z s.heap z' h' → s.heap.get? l = none → z'.get? l = none → h'.get? l = some (lstO vs n) → Rows2 s.heap z' h' vs led xss → (∀ p ∈ led, p.1 ≠ l) → Q (.ref l) (sh s h' tk)) → wpAny (model prog w) A (call f vs) Q E s
end
section
variable {prog : Program} {w : World} {b : Heap} {k : Nat} {ns : List (Str × NameKind)} {σ : Sig}
theorem Rows2.down {h₀ base z h : Heap} {vs : List Value} {led : List (Addr × Obj)} {xss : List (List AV)} (r : Rows2 base z h vs led xss) (l : Le h₀ base) : Rows2 h₀ z h vs led xss :=
  ⟨r.vs, fun p hp => ⟨(r.at' p hp).1, (r.at' p hp).2.1, l.none (r.at' p hp).2.2⟩, r.nd, r.rows⟩

/-- [new list for x in iter] -/
theorem ev_compLL {α : Type} {elt iter : Expr} {x : Str} {px pos : Pos} {scope : Scope} {src : AV} (as : List α) (enc : α → AV) (f : α → List AV)
    (hit : Ev prog w b k ns σ iter src) (hsrc : ∀ z v, Rep z v src → Src z v (as.map enc)) (hsz : as.length ≤ sizeLine)
    (hE : ∀ a ∈ as, EvL prog w b k (reNs scope.names ns) ((x, enc a) :: inner scope.names σ) elt (f a))
    (hk : scope.kind = .function) (hok : compOk scope.names ns (σ.map (·.1)) x = true)
    (hs : ∀ (env : Env) x, foldedSetIterable iter env x = pure x := by intro _ _; rfl) :
    EvLL prog w b k ns σ (.ListComp elt [⟨.Name x px, iter, [], 0⟩] scope pos) (as.map f) := by
  intro env z A s Q E X R h
  rw [eval_ListComp]
  let Y : (Addr → Prop) → Nat → Heap → Heap → List Value → Prop := fun Pv i z h ys => (∀ c, Pv c → s.heap.get? c = none) ∧ (∀ c, h.get? c = none → s.heap.get? c = none) ∧ ∃ led, Rows2 s.heap z h ys led ((as.take i).map f) ∧ ∀ p ∈ led, ¬ Pv p.1
  have Yk : ∀ Pv i z h h' ys, Y Pv i z h ys → (∀ c o, ¬ Pv c → h.get? c = some o → h'.get? c = some o) → Y Pv i z h' ys := by
    rintro Pv i z h h' ys ⟨y1, y2, led, y3, y4⟩ hk
    refine ⟨y1, fun c hc => ?_, led, ⟨y3.vs, fun p hp => ?_, y3.nd, y3.rows⟩, y4⟩
    · cases q : h.get? c with
      | none => exact y2 c q
      | some o =>
        by_cases hp : Pv c
        · exact y1 c hp
        · have := hk c o hp q; rw [hc] at this; cases this
    · obtain ⟨e1, e2⟩ := y3.at' p hp
      exact ⟨hk _ _ (y4 p hp) e1, e2⟩
  refine comp_coreY' (use := none) (U := noMut) (fun _ => ()) Y Yk hit hsrc (fun i a' hxa env z A s' E ys Pv X R ap p hpv hy => ?_) (by rw [List.length_map]; exact hsz) hk hok
    (fun Pv z' h' h1 h2 => ⟨h1, h2, [], ⟨rfl, (fun _ hp => nomatch hp), .nil, .nil⟩, (fun _ hp => nomatch hp)⟩) X R Apart.no trivial (fun l C vs n z' h' tk ml Pv hPl hPC g p' n1 n2 e1 hy c1 c2 c3 c4 c5 c6 => ?_) (hs env)
  · rw [List.getElem?_map] at hxa
    cases qa : as[i]? with
    | none => rw [qa] at hxa; cases hxa
    | some a =>
    rw [qa] at hxa
    cases hxa
    refine wpAny_tests_nil ⟨z, s'.heap, s'.toks, (), rfl, .of (Grow.refl X.zh), trivial, (fun q => nomatch q), fun _ => ?_⟩
    refine hE a (List.mem_of_getElem? qa) env z A s' _ E X R fun l us n z' h' tk g n1 n2 e1 r => ?_
    obtain ⟨y1, y2, led, y3, y4⟩ := hy
    have ea : (as.take (i + 1)).map f = (as.take i).map f ++ [f a] := by rw [List.take_succ, qa]; simp
    refine ⟨z', h', tk, rfl, .of g, trivial, y1, fun c hc => y2 c (g.hh.none hc), led ++ [(l, lstO us n)], ⟨?_, fun p hp => ?_, ?_, ?_⟩, fun p hp => ?_⟩
    · rw [y3.vs]; simp [refs]
    · rcases List.mem_append.mp hp with hp | hp
      · obtain ⟨e2, e3, e4⟩ := y3.at' p hp
        exact ⟨g.hh _ _ e2, g.off e2 e3, e4⟩
      · rw [List.mem_singleton.mp hp]; exact ⟨e1, n2, y2 l n1⟩
    · rw [List.map_append, List.nodup_append]
      refine ⟨y3.nd, by simp, fun c hc d hd q => ?_⟩
      obtain ⟨p, hp, rfl⟩ := List.mem_map.mp hc
      obtain ⟨p', hp', rfl⟩ := List.mem_map.mp hd
      rw [List.mem_singleton.mp hp'] at q
      have := (y3.at' p hp).1
      rw [show p.1 = l from q, n1] at this; cases this
    · rw [ea]; exact (y3.rows.le g.zz).append (.cons r .nil)
    · rcases List.mem_append.mp hp with hp | hp
      · exact y4 p hp
      · rw [List.mem_singleton.mp hp]
        intro q
        obtain ⟨_, o, e⟩ := hpv l q
        rw [n1] at e; cases e
  · rw [List.length_map] at hy
    refine ⟨ml, c4, fun h₆ hs₆ => ?_⟩
    obtain ⟨y1, y2, led, y3, y4⟩ := Yk Pv _ z' h' h₆ vs hy fun c o hc e => (hs₆.2 c fun q => hc (q ▸ hPC)).trans e
    rw [List.take_length] at y3
    exact h l vs n led z' h₆ tk (g.no.upd (d := C) (fun c o hc e => (hs₆.2 c hc).trans e) c1 c2) n1 n2 ((hs₆.2 l (Ne.symm c3)).trans e1) y3 fun p hp q => y4 p hp (q ▸ hPl)

theorem ev_callLL (B : Base w b) {fe e : Expr} {es : List Expr} {pos : Pos} {f : Value} {as : List AV} {xss : List (List AV)} (hf : Ev prog w b k ns σ fe (.val f)) (hc : Callable w f) (ha : EvS prog w b k ns σ (e :: es) as) (H : FnLL prog w b k f as xss)
    (he : ∀ env, starEach (e :: es) env = (false, eval e env) :: starEach es env := by intro _; rfl) (hp : ∀ env, (backTo pos (starEach es env)).any (·.1) = false := by intro _; rfl)
    (hx : ∀ env, eval (.Call fe (e :: es) [] pos) env = (do callWith pos (← eval fe env) [] (backTo pos (starEach (e :: es) env)) (backToKw pos (keywordEach [] env))) := by intro _; rfl) :
    EvLL prog w b k ns σ (.Call fe (e :: es) [] pos) xss := fun env z A s Q E X R h => Call_ (hf env z A s _ E X R fun v z₁ h₁ tk₁ g₁ r₁ => by
      rw [r₁.val_inv]
      exact hc.call B (ha env z₁ A _ pos _ E (X.le g₁) R fun vs z₂ h₂ tk₂ g₂ r₂ => ⟨((X.bz.trans g₁.zz).trans g₂.zz).trans g₂.zh,
        H z₂ A _ Q E vs ((X.le g₁).le g₂).fr ((X.bz.trans g₁.zz).trans g₂.zz) g₂.zh R r₂ fun l vs n led z' h' tk g e1 e2 e3 r q => h l vs n led z' h' tk ((g₁.trans g₂).trans g) ((g₁.trans g₂).hh.none e1) e2 e3 (r.down (g₁.trans g₂).hh) q⟩) (he env) (hp env)) (hx env)
end
section
variable {prog : Program} {w : World} {b : Heap} {k : Nat} {ns : List (Str × NameKind)} {base z₀ : Heap} {env : Env} {z h z' h' : Heap} {σ τ : Sig} {led : List (Addr × Obj)} {A : Around} {s : Shared} {E : Value → Shared → Prop}
/-- new objects of one's own -/
theorem St.pushes (S : St w b ns base z₀ env z h σ led) (g : Grow z h z' h') : ∀ {led' : List (Addr × Obj)}, (∀ p ∈ led', h'.get? p.1 = some p.2 ∧ z'.get? p.1 = none ∧ h.get? p.1 = none) → (led'.map (·.1)).Nodup → St w b ns base z₀ env z' h' σ (led' ++ led)
  | [], _, _ => S.grow g
  | (l, o) :: led', hl, nd => by
    have S₁ := S.pushes g (led' := led') (fun p hp => hl p (.tail _ hp)) (List.nodup_cons.mp nd).2
    obtain ⟨e1, e2, e3⟩ := hl (l, o) (.head _)
    have S₀ := S.push g e3 e2 e1
    refine ⟨S₁.X, S₁.G, fun p hp => ?_, ?_, S₁.fl, S₁.fc, S₁.fa, S₁.cc, S₁.nf⟩
    · rcases List.mem_cons.mp hp with rfl | hp
      · exact S₀.ld _ (.head _)
      · exact S₁.ld p hp
    · rw [List.cons_append, List.map_cons, List.nodup_cons]
      refine ⟨fun hm => ?_, S₁.nd⟩
      obtain ⟨p, hp, q⟩ := List.mem_map.mp hm
      rcases List.mem_append.mp hp with hp | hp
      · exact (List.nodup_cons.mp nd).1 (List.mem_map.mpr ⟨p, hp, q⟩)
      · have := (S.ld p hp).1
        rw [show p.1 = l from q, e3] at this; cases this
theorem ex_assignLL {x : Str} {px pos : Pos} {value : Expr} {rest : List Stmt} {xss : List (List AV)} {Q : Flow → Shared → Prop} (S : St w b ns base z₀ env z s.heap σ led) (R : Room A k) (H : EvLL prog w b k ns σ value xss) (hx : KindOk ns x)
    (h : ∀ l n led' z' h' tk, St w b ns base z₀ env z' h' ((x, .val (.ref l)) :: σ) ((l, lstO (refs led') n) :: (led' ++ led)) → RowsAre z' led' xss → Le z z' → wpAny (model prog w) A (execs rest env) Q E (sh s h' tk))
    (hs : swapsWith value (some (.Name x px)) pos.line env = pure false := by rfl) : wpAny (model prog w) A (execs (.Assign [.Name x px] value pos :: rest) env) Q E s :=
  ex_cons (wpAny_Assign_Name (H env z A s _ E S.X R fun l vs n led' z' h' tk g n1 n2 e1 r q => by
    have hv := r.vs
    subst hv
    have S₁ := S.pushes g (led' := (l, lstO (refs led') n) :: led') (fun p hp => by
      rcases List.mem_cons.mp hp with rfl | hp
      · exact ⟨e1, n2, n1⟩
      · exact r.at' p hp) (by
      rw [List.map_cons, List.nodup_cons]
      refine ⟨fun hm => ?_, r.nd⟩
      obtain ⟨p, hp, e⟩ := List.mem_map.mp hm
      exact q p hp e)
    exact st_store (s := (sh s h' tk)) S₁ (.val _) hx fun h'' tk' S' _ => h l n led' z' h'' tk' S' r.rows g.zz) hs)
theorem fn_bodyLL (B : Base w b) {f : Addr} {fd : FuncData} {oc : Value} {od : Option Addr} {osl : Array (Option Value)} {body : List Stmt} {as : List AV} {ps : List Str} {xss : List (List AV)}
    (ho : (KK w).lookup f = some ⟨oc, od, .func fd, osl⟩) (hb : fd.body = .stmts body) (hcd : codeIn (KK w) fd.code fd.qualname = true) (hclo : fd.closure = []) (hgl : fd.globals = mainGlobals) (hbi : fd.builtins = builtinsNs)
    (hco : fd.scope.isCoroutine = false) (hgen : fd.scope.isGenerator = false) (hk : fd.scope.kind = .function) (hl : as.length = ps.length) (hbind : ∀ vs, vs.length = ps.length → bindArgs fd ⟨vs, []⟩ = pure (ps.zip vs)) (hok : defOk fd.scope.names ps = true)
    (H : ∀ (base z₀ : Heap) (env : Env) (A : Around) (s : Shared) (Q : Flow → Shared → Prop), Room A k → St w b fd.scope.names base z₀ env z₀ s.heap (ps.zip as) [] →
      (∀ l n led z' h' tk, St w b fd.scope.names base z₀ env z' h' [] ((l, lstO (refs led) n) :: led) → RowsAre z' led xss → Q (.ret (.ref l)) (sh s h' tk)) →
      wpAny (model prog w) A (execs body env) Q (fun _ _ => False) s) : FnLL prog w b (k + 1) (.ref f) as xss := by
  intro z A s Q E vs F bz lz R rs h
  refine enter B ho hcd hb hclo hgl hbi rfl hco hgen hk hl (hbind vs (rs.length.trans hl)) hok F bz lz R rs fun env h₁ tk₁ S R' => ?_
  refine H s.heap z env _ (sh s h₁ tk₁) _ R' S fun l n led z' h' tk S' r => ?_
  obtain ⟨e1, e2, e3, _⟩ := S'.ld _ (.head _)
  have nd := S'.nd
  rw [List.map_cons, List.nodup_cons] at nd
  exact h l _ n led z' h' tk S'.G e3 e2 e1 ⟨rfl, fun p hp => ⟨(S'.ld p (.tail _ hp)).1, (S'.ld p (.tail _ hp)).2.1, (S'.ld p (.tail _ hp)).2.2.1⟩, nd.2, r⟩ fun p hp q => nd.1 (List.mem_map.mpr ⟨p, hp, q⟩)
theorem ex_retLL {e : Expr} {pos : Pos} {rest : List Stmt} {xss : List (List AV)} {Q : Flow → Shared → Prop} (S : St w b ns base z₀ env z s.heap σ []) (R : Room A k) (H : EvLL prog w b k ns σ e xss)
    (h : ∀ l n led z' h' tk, St w b ns base z₀ env z' h' [] ((l, lstO (refs led) n) :: led) → RowsAre z' led xss → Q (.ret (.ref l)) (sh s h' tk)) : wpAny (model prog w) A (execs (.Return (some e) pos :: rest) env) Q E s :=
  ex_cons (wpAny_Return_some (H env z A s _ E S.X R fun l vs n led' z' h' tk g n1 n2 e1 r q => by
    have hv := r.vs
    subst hv
    have S₁ := S.pushes g (led' := (l, lstO (refs led') n) :: led') (fun p hp => by
      rcases List.mem_cons.mp hp with rfl | hp
      · exact ⟨e1, n2, n1⟩
      · exact r.at' p hp) (by
      rw [List.map_cons, List.nodup_cons]
      refine ⟨fun hm => ?_, r.nd⟩
      obtain ⟨p, hp, e⟩ := List.mem_map.mp hm
      exact q p hp e)
    rw [List.append_nil] at S₁
    exact h l n led' z' h' tk (S₁.weak fun _ _ e => nomatch e) r.rows))

/-- v.append(e), v told with all that stands seen -/
theorem ex_appendG (pre : List (Addr × Obj)) {post : List (Addr × Obj)} {v : Expr} {ap cp pos : Pos} {e : Expr} {rest : List Stmt} {a : AV} {d : Addr} {vs : List Value} {n : Nat} {Q : Flow → Shared → Prop}
    (S : St w b ns base z₀ env z s.heap σ (pre ++ (d, lstO vs n) :: post)) (hs : Sees s.heap σ τ) (R : Room A k) (hv : Ev prog w b k ns τ v (.val (.ref d))) (H : Ev prog w b k ns σ e a) (hsz : vs.length ≤ sizeLine)
    (h : ∀ v m z' h' tk, St w b ns base z₀ env z' h' σ (pre ++ (d, lstO (vs ++ [v]) m) :: post) → Le z z' → Rep z' v a → wpAny (model prog w) A (execs rest env) Q E (sh s h' tk))
    (hst : ∀ env, starEach [e] env = [(false, eval e env)] := by intro _; rfl)
    (hm : ∃ pl, eval (.Call (.Attribute v (Str.ofString "append") ap) [e] [] cp) env = (do
      let ov ← eval v env
      standAt ap.atName
      let (f, first) ← holding [ov] (getMethod ov (Str.ofString "append") pl)
      callWith cp f first (backTo cp (starEach [e] env)) []) := by exact ⟨_, rfl⟩)
    (hsw : swapsWith (.Call (.Attribute v (Str.ofString "append") ap) [e] [] cp) none pos.line env = pure false := by rfl) :
    wpAny (model prog w) A (execs (.Expr (.Call (.Attribute v (Str.ofString "append") ap) [e] [] cp) pos :: rest) env) Q E s := by
  obtain ⟨pl, hm⟩ := hm
  refine ex_cons (wpAny_Expr_any (MethodCall_ (pl := pl) (S.eval hs R hv (.val _) fun ov h₁ tk₁ S₁ l₁ ro => ?_) hm) (by unfold interactive; rw [S.X.kd]; rfl) hsw)
  rw [(ro z).val_inv]
  have e0 := (S₁.ld (d, lstO vs n) (List.mem_append_right _ (.head _))).1
  refine getMethod_builtin (T := "list") ⟨_, e0, rfl⟩ PySem.F.plainAttrs_list PySem.F.slot_list_append PySem.F.type_list_append (fun c q => by cases q; exact ⟨_, e0, rfl⟩) ?_
  refine callWith_method1 (rest := []) (evs_cons H evs_nil hst env z A _ cp _ E S₁.X R fun ws z₂ h₂ tk₂ g₂ r₂ => ?_) (hst env) rfl
  replace r₂ := r₂.cns; obtain ⟨_, _, rfl, r₂, t⟩ := r₂
  cases t
  have S₂ := S₁.grow g₂
  have e₂ := (S₂.ld (d, lstO vs n) (List.mem_append_right _ (.head _))).1
  refine wpAny_list_append_plain ⟨n, e₂⟩ (fun h₃ hl₃ hs₃ => ?_) (by simpa using hsz)
  obtain ⟨m, e₃⟩ := hl₃
  exact h _ m z₂ h₃ tk₂ (S₂.upd pre (fun c o hc e => (hs₃.2 c hc).trans e) (by rw [e₃]; simp)) g₂.zz r₂
/-- v[i] = e, v told with all that stands seen -/
theorem ex_setitemG {τ' : Sig} (pre : List (Addr × Obj)) {post : List (Addr × Obj)} {v : Expr} {sp pos : Pos} {value i : Expr} {rest : List Stmt} {a : AV} {d : Addr} {vs : List Value} {n : Nat} {j : Int} {Q : Flow → Shared → Prop}
    (S : St w b ns base z₀ env z s.heap σ (pre ++ (d, lstO vs n) :: post)) (hs : Sees s.heap σ τ) (R : Room A k) (H : Ev prog w b k ns τ value a) (f : Flat a)
    (hs' : ∀ h', Le s.heap h' → Sees h' σ τ') (hv : Ev prog w b k ns τ' v (.val (.ref d)))
    (hi : Ev prog w b k ns σ i (.int j)) (h0 : 0 ≤ j) (h1 : j < vs.length) (h2 : j < 2 ^ 63)
    (h : ∀ v z' h' tk, St w b ns base z₀ env z' h' σ (pre ++ (d, lstO (vs.set j.toNat v) n) :: post) → Le z z' → (∀ z, Rep z v a) → wpAny (model prog w) A (execs rest env) Q E (sh s h' tk))
    (hsw : swapsWith value (some (.Subscript v i sp)) pos.line env = pure false := by rfl) :
    wpAny (model prog w) A (execs (.Assign [.Subscript v i sp] value pos :: rest) env) Q E s := by
  refine ex_cons (wpAny_Assign_Subscript (S.eval hs R H f fun v h' tk S' l' r => ?_) hsw)
  refine S'.eval (s := (sh s h' tk)) (hs' _ l') R hv (.val _) fun ov h'' tk'' S'' l'' ro => ?_
  rw [(ro z).val_inv]
  refine hi env z A _ _ E S''.X R fun iv z₂ h₂ tk₂ g₂ r₂ => ?_
  obtain ⟨t, rfl⟩ := r₂.int_inv
  have S₂ := S''.grow g₂
  have e := (S₂.ld (d, lstO vs n) (List.mem_append_right _ (.head _))).1
  exact ki_setAt (n := n) e h0 h2 (by simpa using h1) (h v z₂ _ tk₂ (S₂.upd pre (upd_keep _ _ _) (lst_set e _ _)) g₂.zz r)
end
end Mine
end
section
open PySem PySem.W PyProof.Rows PySem.Calls PySem.Spec PySem.SeqAt
namespace Mine
section
variable {prog : Program} {w : World} {b : Heap} {k : Nat} {ns : List (Str × NameKind)} {base z₀ : Heap} {env : Env} {z : Heap} {σ : Sig} {led : List (Addr × Obj)} {A : Around} {s : Shared} {E : Value → Shared → Prop}
theorem comp_LL {α : Type} {elt iter : Expr} {x : Str} {px pos pos' : Pos} {scope : Scope} {src : AV} (as : List α) (enc : α → AV) (f : α → List AV) {use : Option (Value → Sem Unit)} {Q : Value → Shared → Prop}
    (X : EnvOK w b ns env z s.heap σ) (R : Room A k)
    (hit : Ev prog w b k ns σ iter src) (hsrc : ∀ z v, Rep z v src → Src z v (as.map enc)) (hsz : as.length ≤ sizeLine)
    (hE : ∀ a ∈ as, EvL prog w b k (reNs scope.names ns) ((x, enc a) :: inner scope.names σ) elt (f a))
    (hk : scope.kind = .function) (hok : compOk scope.names ns (σ.map (·.1)) x = true)
    (h : ∀ l C vs n led z' h' tk ml, Grow z s.heap z' h' → s.heap.get? l = none → z'.get? l = none → h'.get? l = some (lstO vs n) → Rows2 s.heap z' h' vs led (as.map f) → (∀ p ∈ led, p.1 ≠ l ∧ p.1 ≠ C) →
      s.heap.get? C = none → z'.get? C = none → C ≠ l → h'.Ns C ml → compPost (model prog w) A E use Q (.ref l) C (.ok .next) (sh s h' tk))
    (hs : ∀ x, foldedSetIterable iter env x = pure x) :
    wpAny (model prog w) A (comprehension (.ListComp elt [⟨.Name x px, iter, [], 0⟩] scope pos) scope env pos' (newList []) false (eval iter env) use) Q E s := by
  let Y : (Addr → Prop) → Nat → Heap → Heap → List Value → Prop := fun Pv i z h ys => (∀ c, Pv c → s.heap.get? c = none) ∧ (∀ c, h.get? c = none → s.heap.get? c = none) ∧ ∃ led, Rows2 s.heap z h ys led ((as.take i).map f) ∧ ∀ p ∈ led, ¬ Pv p.1
  have Yk : ∀ Pv i z h h' ys, Y Pv i z h ys → (∀ c o, ¬ Pv c → h.get? c = some o → h'.get? c = some o) → Y Pv i z h' ys := by
    rintro Pv i z h h' ys ⟨y1, y2, led, y3, y4⟩ hk
    refine ⟨y1, fun c hc => ?_, led, ⟨y3.vs, fun p hp => ?_, y3.nd, y3.rows⟩, y4⟩
    · cases q : h.get? c with
      | none => exact y2 c q
      | some o =>
        by_cases hp : Pv c
        · exact y1 c hp
        · have := hk c o hp q; rw [hc] at this; cases this
    · obtain ⟨e1, e2⟩ := y3.at' p hp
      exact ⟨hk _ _ (y4 p hp) e1, e2⟩
  refine comp_coreY' (use := use) (U := noMut) (fun _ => ()) Y Yk hit hsrc (fun i a' hxa env z A s' E ys Pv X R ap p hpv hy => ?_) (by rw [List.length_map]; exact hsz) hk hok
    (fun Pv z' h' h1 h2 => ⟨h1, h2, [], ⟨rfl, (fun _ hp => nomatch hp), .nil, .nil⟩, (fun _ hp => nomatch hp)⟩) X R Apart.no trivial (fun l C vs n z' h' tk ml Pv hPl hPC g p' n1 n2 e1 hy c1 c2 c3 c4 c5 c6 => ?_) hs
  · rw [List.getElem?_map] at hxa
    cases qa : as[i]? with
    | none => rw [qa] at hxa; cases hxa
    | some a =>
    rw [qa] at hxa
    cases hxa
    refine wpAny_tests_nil ⟨z, s'.heap, s'.toks, (), rfl, .of (Grow.refl X.zh), trivial, (fun q => nomatch q), fun _ => ?_⟩
    refine hE a (List.mem_of_getElem? qa) env z A s' _ E X R fun l us n z' h' tk g n1 n2 e1 r => ?_
    obtain ⟨y1, y2, led, y3, y4⟩ := hy
    have ea : (as.take (i + 1)).map f = (as.take i).map f ++ [f a] := by rw [List.take_succ, qa]; simp
    refine ⟨z', h', tk, rfl, .of g, trivial, y1, fun c hc => y2 c (g.hh.none hc), led ++ [(l, lstO us n)], ⟨?_, fun p hp => ?_, ?_, ?_⟩, fun p hp => ?_⟩
    · rw [y3.vs]; simp [refs]
    · rcases List.mem_append.mp hp with hp | hp
      · obtain ⟨e2, e3, e4⟩ := y3.at' p hp
        exact ⟨g.hh _ _ e2, g.off e2 e3, e4⟩
      · rw [List.mem_singleton.mp hp]; exact ⟨e1, n2, y2 l n1⟩
    · rw [List.map_append, List.nodup_append]
      refine ⟨y3.nd, by simp, fun c hc d hd q => ?_⟩
      obtain ⟨p, hp, rfl⟩ := List.mem_map.mp hc
      obtain ⟨p', hp', rfl⟩ := List.mem_map.mp hd
      rw [List.mem_singleton.mp hp'] at q
      have := (y3.at' p hp).1
      rw [show p.1 = l from q, n1] at this; cases this
    · rw [ea]; exact (y3.rows.le g.zz).append (.cons r .nil)
    · rcases List.mem_append.mp hp with hp | hp
      · exact y4 p hp
      · rw [List.mem_singleton.mp hp]
        intro q
        obtain ⟨_, o, e⟩ := hpv l q
        rw [n1] at e; cases e
  · rw [List.length_map] at hy
    obtain ⟨y1, y2, led, y3, y4⟩ := hy
    rw [List.take_length] at y3
    exact h l C vs n led z' h' tk ml g.no n1 n2 e1 y3 (fun p hp => ⟨fun q => y4 p hp (q ▸ hPl), fun q => y4 p hp (q ▸ hPC)⟩) c1 c2 c3 c4

/-- y = [new list for x in iter], y a plain local name -/
theorem ex_assignCLL {α : Type} {elt iter : Expr} {x y : Str} {px py pos spos : Pos} {scope : Scope} {src : AV} {rest : List Stmt} (as : List α) (enc : α → AV) (f : α → List AV) {Q : Flow → Shared → Prop}
    (S : St w b ns base z₀ env z s.heap σ led) (R : Room A k) (hit : Ev prog w b k ns σ iter src) (hsrc : ∀ z v, Rep z v src → Src z v (as.map enc)) (hsz : as.length ≤ sizeLine)
    (hE : ∀ a ∈ as, EvL prog w b k (reNs scope.names ns) ((x, enc a) :: inner scope.names σ) elt (f a))
    (hk : scope.kind = .function) (hok : compOk scope.names ns (σ.map (·.1)) x = true) (hy : ns.lookup y = some .local)
    (h : ∀ l n led' z' h' tk, St w b ns base z₀ env z' h' ((y, .val (.ref l)) :: σ) ((l, lstO (refs led') n) :: (led' ++ led)) → RowsAre z' led' (as.map f) → Le z z' → wpAny (model prog w) A (execs rest env) Q E (sh s h' tk))
    (hsw : swapsWith (.ListComp elt [⟨.Name x px, iter, [], 0⟩] scope pos) (some (.Name y py)) spos.line env = pure (env.blockKind == .function && env.kindOf y == some .local && true && true) := by rfl)
    (hs : ∀ x, foldedSetIterable iter env x = pure x := by intro _; rfl) :
    wpAny (model prog w) A (execs (.Assign [.Name y py] (.ListComp elt [⟨.Name x px, iter, [], 0⟩] scope pos) spos :: rest) env) Q E s := by
  have hky : env.kindOf y = some .local := by unfold Env.kindOf; rw [S.X.nm]; exact hy
  have hsw' : swapsWith (.ListComp elt [⟨.Name x px, iter, [], 0⟩] scope pos) (some (.Name y py)) spos.line env = pure true := by
    rw [hsw, hky]
    unfold Env.blockKind
    rw [S.X.kd]; rfl
  refine ex_cons ?_
  rw [exec_Assign_Name_used _ _ _ _ hsw']
  refine wpAny_bind (wpAny_standAt (wpAny_bind ?_))
  show wpAny _ A (do let _ ← comprehension (.ListComp elt [⟨.Name x px, iter, [], 0⟩] scope pos) scope env _ (newList []) false (eval iter env) (some (assign (.Name y py) env))) _ _ s
  refine wpAny_bind (wpAny_mono (comp_LL (use := some (assign (.Name y py) env)) (Q := fun _ s' => wpAny (model prog w) A (execs rest env) Q E s') as enc f S.X R hit hsrc hsz hE hk hok
    (fun l C vs n led' z' h' tk ml g n1 n2 e1 r1 q1 c1 c2 c3 c4 => ?_) hs) (fun _ s' q => wpAny_pure (wpAny_pure q)) fun _ _ q => q)
  have hv := r1.vs
  subst hv
  have S₁ := S.pushes g (led' := (l, lstO (refs led') n) :: led') (fun p hp => by
    rcases List.mem_cons.mp hp with rfl | hp
    · exact ⟨e1, n2, n1⟩
    · exact r1.at' p hp) (by
    rw [List.map_cons, List.nodup_cons]
    refine ⟨fun hm => ?_, r1.nd⟩
    obtain ⟨p, hp, e⟩ := List.mem_map.mp hm
    exact (q1 p hp).1 e)
  have hCL : C ≠ env.locals := fun q => by
    obtain ⟨ml', hn', _⟩ := S.X.loc
    obtain ⟨oL, _, _, eL, _⟩ := hn'
    rw [q, eL] at c1; cases c1
  have hCc : ∀ m c, (m, c) ∈ env.cells → C ≠ c := fun m c hm q => by
    obtain ⟨_, _, _, v, o', e4, _⟩ := S.fc m c hm
    rw [q, e4] at c1; cases c1
  have hCl : ∀ p ∈ (l, lstO (refs led') n) :: (led' ++ led), p.1 ≠ C := fun p hp q => by
    rcases List.mem_cons.mp hp with rfl | hp
    · exact c3 q.symm
    · rcases List.mem_append.mp hp with hp | hp
      · exact (q1 p hp).2 q
      · have := (S.ld p hp).1; rw [q, c1] at this; cases this
  refine wpAny_assign_Name (st_store (s := (sh s h' tk)) S₁ (.val _) (.inl hy) fun h₆ tk₆ S₆ hk₆ => ?_)
  refine ⟨ml, c4.at' fun o e => (hk₆ C hCL hCc).trans e, fun h₇ hs₇ => ?_⟩
  exact h l n led' z' h₇ tk₆ (S₆.other (d := C) (fun c o hc e => (hs₇.2 c hc).trans e) c2 (S.G.hh.none c1) hCL hCc hCl) r1.rows g.zz

/-- y = [elt for x in iter if c], y a plain local name -/
theorem ex_assignCI {α : Type} {elt iter ct : Expr} {x y : Str} {px py pos spos : Pos} {scope : Scope} {src : AV} {rest : List Stmt} (as : List α) (enc : α → AV) (p : α → Bool) (f : α → AV) {Q : Flow → Shared → Prop}
    (S : St w b ns base z₀ env z s.heap σ led) (R : Room A k) (hit : Ev prog w b k ns σ iter src) (hsrc : ∀ z v, Rep z v src → Src z v (as.map enc)) (hsz : as.length ≤ sizeLine)
    (hT : ∀ a ∈ as, EvT prog w b k (reNs scope.names ns) ((x, enc a) :: inner scope.names σ) ct (p a))
    (hE : ∀ a ∈ as, p a = true → Ev prog w b k (reNs scope.names ns) ((x, enc a) :: inner scope.names σ) elt (f a))
    (hk : scope.kind = .function) (hok : compOk scope.names ns (σ.map (·.1)) x = true) (hy : ns.lookup y = some .local)
    (h : ∀ l vs n z' h' tk, St w b ns base z₀ env z' h' ((y, .val (.ref l)) :: σ) ((l, lstO vs n) :: led) → Reps z' vs ((as.filter p).map f) → wpAny (model prog w) A (execs rest env) Q E (sh s h' tk))
    (hsw : swapsWith (.ListComp elt [⟨.Name x px, iter, [ct], 0⟩] scope pos) (some (.Name y py)) spos.line env = pure (env.blockKind == .function && env.kindOf y == some .local && true && true) := by rfl)
    (hs : ∀ x, foldedSetIterable iter env x = pure x := by intro _; rfl) :
    wpAny (model prog w) A (execs (.Assign [.Name y py] (.ListComp elt [⟨.Name x px, iter, [ct], 0⟩] scope pos) spos :: rest) env) Q E s := by
  refine ex_assignC _ S R hit hsrc (pure_el as enc p f fun a ha => ElM.pure (fun env z A s Q E X R h => wpAny_tests_one (hT a ha env z A s Q E X R h)) (hE a ha)) (by rw [List.length_map]; exact hsz) hk hok hy (fun l vs n z' h' tk S' r => ?_) hsw hs
  rw [List.length_map, filterMap_range] at r
  exact h l vs n z' h' tk S' r
theorem ex_assignCp {α : Type} {elt iter : Expr} {x y : Str} {px py pos spos : Pos} {scope : Scope} {src : AV} {rest : List Stmt} (as : List α) (enc : α → AV) (f : α → AV) {Q : Flow → Shared → Prop}
    (S : St w b ns base z₀ env z s.heap σ led) (R : Room A k) (hit : Ev prog w b k ns σ iter src) (hsrc : ∀ z v, Rep z v src → Src z v (as.map enc)) (hsz : as.length ≤ sizeLine)
    (hE : ∀ a ∈ as, Ev prog w b k (reNs scope.names ns) ((x, enc a) :: inner scope.names σ) elt (f a))
    (hk : scope.kind = .function) (hok : compOk scope.names ns (σ.map (·.1)) x = true) (hy : ns.lookup y = some .local)
    (h : ∀ l vs n z' h' tk, St w b ns base z₀ env z' h' ((y, .val (.ref l)) :: σ) ((l, lstO vs n) :: led) → Reps z' vs (as.map f) → wpAny (model prog w) A (execs rest env) Q E (sh s h' tk))
    (hsw : swapsWith (.ListComp elt [⟨.Name x px, iter, [], 0⟩] scope pos) (some (.Name y py)) spos.line env = pure (env.blockKind == .function && env.kindOf y == some .local && true && true) := by rfl)
    (hs : ∀ x, foldedSetIterable iter env x = pure x := by intro _; rfl) :
    wpAny (model prog w) A (execs (.Assign [.Name y py] (.ListComp elt [⟨.Name x px, iter, [], 0⟩] scope pos) spos :: rest) env) Q E s := by
  refine ex_assignC _ S R hit hsrc (pure_el as enc (fun _ => true) f fun a ha => ElM.pure (fun env z A s Q E X R h => wpAny_tests_nil (h z s.heap s.toks (Grow.refl X.zh))) fun _ => hE a ha) (by rw [List.length_map]; exact hsz) hk hok hy (fun l vs n z' h' tk S' r => ?_) hsw hs
  rw [List.length_map, filterMap_range] at r
  have e : as.filter (fun _ => true) = as := List.filter_eq_self.mpr fun _ _ => rfl
  rw [e] at r
  exact h l vs n z' h' tk S' r
/-- no swap where the name is a cell's -/
theorem noSwap {value : Expr} {y : Str} {py : Pos} {c d : Bool} {line : Nat} {h : Heap} (S : St w b ns base z₀ env z h σ led) (hy : ns.lookup y = some .cell)
    (hs : swapsWith value (some (.Name y py)) line env = pure (env.blockKind == .function && env.kindOf y == some .local && c && d) := by rfl) : swapsWith value (some (.Name y py)) line env = pure false := by
  have hky : env.kindOf y = some .cell := by unfold Env.kindOf; rw [S.X.nm]; exact hy
  rw [hs, hky]
  cases (env.blockKind == ScopeKind.function) <;> rfl
theorem St.re {led' : List (Addr × Obj)} {h : Heap} (S : St w b ns base z₀ env z h σ led) (e : led = led' := by simp) : St w b ns base z₀ env z h σ led' := e ▸ S
theorem St.perm {led' : List (Addr × Obj)} {h : Heap} (S : St w b ns base z₀ env z h σ led) (e : led.Perm led') : St w b ns base z₀ env z h σ led' :=
  S.less (fun p hp => e.mem_iff.mpr hp) ((e.map _).nodup_iff.mp S.nd)
end
end Mine
end
section
open PySem PySem.W PyProof.Rows PySem.Calls PySem.Spec PySem.SeqAt
namespace Mine
section
variable {prog : Program} {w : World} {b : Heap} {k : Nat} {ns : List (Str × NameKind)} {base z₀ : Heap} {env : Env} {z : Heap} {σ τ : Sig} {led : List (Addr × Obj)} {A : Around} {s : Shared} {E : Value → Shared → Prop}
theorem evt_and {e₁ e₂ : Expr} {pos : Pos} {c d : Bool} (H : EvT prog w b k ns σ e₁ c) (K : c = true → EvT prog w b k ns σ e₂ d) : EvT prog w b k ns σ (.BoolOp .And [e₁, e₂] pos) (c && d) :=
  fun env z A s Q E X R h => isTrue_and (H env z A s _ E X R fun z' h' tk g => by
    cases c with
    | false => exact h z' h' tk g
    | true => exact isTrue_and (K rfl env z' A _ _ E (X.le g) R fun z'' h'' tk' g' => by
        have := h z'' h'' tk' (g.trans g')
        cases d with
        | false => exact this
        | true => exact isTrue_and_nil this))
theorem readsAll_of_bools {h : Heap} : ∀ (l : List Bool), ReadsAll h (l.map Value.bool) (l.map PyData.bool) []
  | [] => .nil
  | c :: l => by
    have := ReadsAll.cons (Reads.bool (h := h) c) (readsAll_of_bools (h := h) l)
    simpa using this
theorem countIn_bools (c : Bool) : ∀ l : List Bool, PySem.Spec.countIn (.bool c) (l.map PyData.bool) = (l.count c : Nat)
  | [] => rfl
  | d :: l => by
    have ih := countIn_bools c l
    rw [List.map_cons, List.count_cons]
    show (if PySem.Spec.same (.bool d) (.bool c) then 1 else 0) + PySem.Spec.countIn (.bool c) (l.map PyData.bool) = _
    rw [ih]
    cases c <;> cases d <;> simp [PySem.Spec.same] <;> lia
/-- xs.count(e) of bools -/
theorem ev_countB {v e : Expr} {ap pos : Pos} {l : List Bool} {x : Bool} (hv : Ev prog w b k ns σ v (.list (avB l))) (he : Ev prog w b k ns σ e (.bool x)) (hs : ∀ env, starEach [e] env = [(false, eval e env)] := by intro _; rfl)
    (hm : ∀ env, ∃ pl, eval (.Call (.Attribute v (Str.ofString "count") ap) [e] [] pos) env = (do
      let ov ← eval v env
      standAt ap.atName
      let (f, first) ← holding [ov] (getMethod ov (Str.ofString "count") pl)
      callWith pos f first (backTo pos (starEach [e] env)) []) := by intro _; exact ⟨_, rfl⟩) :
    Ev prog w b k ns σ (.Call (.Attribute v (Str.ofString "count") ap) [e] [] pos) (.int (l.count x : Nat)) := by
  intro env z A s Q E X R h
  obtain ⟨pl, hm⟩ := hm env
  refine MethodCall_ (pl := pl) (hv env z A s _ E X R fun v₁ z₁ h₁ tk₁ g₁ r₁ => ?_) hm
  replace r₁ := r₁.lst; obtain ⟨a, vs, n, rfl, e1, r₁⟩ := r₁
  refine getMethod_builtin (T := "list") ⟨_, g₁.zh _ _ e1, rfl⟩ PySem.F.plainAttrs_list PySem.F.slot_list_count PySem.F.type_list_count (fun c q => by cases q; exact ⟨_, g₁.zh _ _ e1, rfl⟩) ?_
  refine callWith_method1 (rest := []) (evs_cons he evs_nil hs env z₁ A _ pos _ E (X.le g₁) R fun ws z₂ h₂ tk₂ g₂ r₂ => ?_) (hs env) rfl
  replace r₂ := r₂.cns; obtain ⟨_, _, rfl, r₂, t⟩ := r₂
  cases t
  rw [r₂.bool_inv]
  have hb := r₁.boolsAre
  subst hb
  refine count_list_bools (isList_of (g₂.hh _ _ (g₁.zh _ _ e1))) (readsAll_of_bools (h := h₂) l) (by rw [List.all_eq_true]; intro x hx; obtain ⟨c, _, rfl⟩ := List.mem_map.mp hx; rfl) ?_
  rw [countIn_bools]
  exact h _ z₂ h₂ _ (g₁.trans g₂) (.int _ _)

/-- y = [elt for x in iter if c], y a plain local name, with all that stands seen -/
theorem ex_assignCV {α : Type} {elt iter ct : Expr} {x y : Str} {px py pos spos : Pos} {scope : Scope} {src : AV} {rest : List Stmt} (as : List α) (enc : α → AV) (p : α → Bool) (f : α → AV) {Q : Flow → Shared → Prop}
    (S : St w b ns base z₀ env z s.heap σ led) (hsee : Sees s.heap σ τ) (R : Room A k) (hit : Ev prog w b k ns τ iter src) (hsrc : ∀ z v, Rep z v src → Src z v (as.map enc)) (hsz : as.length ≤ sizeLine)
    (hT : ∀ a ∈ as, EvT prog w b k (reNs scope.names ns) ((x, enc a) :: inner scope.names τ) ct (p a))
    (hE : ∀ a ∈ as, p a = true → Ev prog w b k (reNs scope.names ns) ((x, enc a) :: inner scope.names τ) elt (f a))
    (hk : scope.kind = .function) (hok : compOk scope.names ns (τ.map (·.1)) x = true) (hy : ns.lookup y = some .local)
    (h : ∀ l vs n z' h' tk, St w b ns base z₀ env z h' ((y, .val (.ref l)) :: σ) ((l, lstO vs n) :: led) → Reps z' vs ((as.filter p).map f) → wpAny (model prog w) A (execs rest env) Q E (sh s h' tk))
    (hsw : swapsWith (.ListComp elt [⟨.Name x px, iter, [ct], 0⟩] scope pos) (some (.Name y py)) spos.line env = pure (env.blockKind == .function && env.kindOf y == some .local && true && true) := by rfl)
    (hs : ∀ x, foldedSetIterable iter env x = pure x := by intro _; rfl) :
    wpAny (model prog w) A (execs (.Assign [.Name y py] (.ListComp elt [⟨.Name x px, iter, [ct], 0⟩] scope pos) spos :: rest) env) Q E s := by
  have hel := pure_el (prog := prog) (w := w) (b := b) (k := k) (ns := ns) (σ := τ) (x := x) (names := scope.names) as enc p f fun a ha => ElM.pure (fun env z A s Q E X R h => wpAny_tests_one (hT a ha env z A s Q E X R h)) (hE a ha)
  have hky : env.kindOf y = some .local := by unfold Env.kindOf; rw [S.X.nm]; exact hy
  have hsw' : swapsWith (.ListComp elt [⟨.Name x px, iter, [ct], 0⟩] scope pos) (some (.Name y py)) spos.line env = pure true := by
    rw [hsw, hky]
    unfold Env.blockKind
    rw [S.X.kd]; rfl
  refine ex_cons ?_
  rw [exec_Assign_Name_used _ _ _ _ hsw']
  refine wpAny_bind (wpAny_standAt (wpAny_bind ?_))
  show wpAny _ A (do let _ ← comprehension (.ListComp elt [⟨.Name x px, iter, [ct], 0⟩] scope pos) scope env _ (newList []) false (eval iter env) (some (assign (.Name y py) env))) _ _ s
  refine wpAny_bind (wpAny_mono (comp_core' (U := noMut) (use := some (assign (.Name y py) env)) (Q := fun _ s' => wpAny (model prog w) A (execs rest env) Q E s') (fun _ => ()) _ hit hsrc hel (by rw [List.length_map]; exact hsz) hk hok (S.view hsee) R Apart.no trivial
    (fun l C vs n z' h' tk ml g p' n1 n2 e1 r1 c1 c2 c3 c4 c5 c6 => ?_) hs) (fun _ s' q => wpAny_pure (wpAny_pure q)) fun _ _ q => q)
  rw [List.length_map, filterMap_range] at r1
  have S₁ := S.push (Grow.step S.X.zh g.no.hh) n1 (S.X.zh.none n1) e1
  obtain ⟨oC, _, _, eC, _⟩ := id c4
  have hCL : C ≠ env.locals := fun q => by
    obtain ⟨ml', hn', _⟩ := S.X.loc
    obtain ⟨oL, _, _, eL, _⟩ := hn'
    rw [q, eL] at c1; cases c1
  have hCc : ∀ m c, (m, c) ∈ env.cells → C ≠ c := fun m c hm q => by
    obtain ⟨_, _, _, v, o', e4, _⟩ := S.fc m c hm
    rw [q, e4] at c1; cases c1
  have hCl : ∀ p ∈ (l, lstO vs n) :: led, p.1 ≠ C := fun p hp q => by
    rcases List.mem_cons.mp hp with rfl | hp
    · exact c3 q.symm
    · have := (S.ld p hp).1; rw [q, c1] at this; cases this
  refine wpAny_assign_Name (st_store (s := (sh s h' tk)) S₁ (.val _) (.inl hy) fun h₆ tk₆ S₆ hk₆ => ?_)
  refine ⟨ml, c4.at' fun o e => (hk₆ C hCL hCc).trans e, fun h₇ hs₇ => ?_⟩
  exact h l vs n z' h₇ tk₆ (S₆.other (d := C) (fun c o hc e => (hs₇.2 c hc).trans e) (S.X.zh.none c1) (S.G.hh.none c1) hCL hCc hCl) r1
end
end Mine
end
section
open PySem PySem.W PyProof.Rows PySem.Calls PySem.Spec PySem.SeqAt
namespace Mine
/-- the pen: one list of two numbers -/
noncomputable def penU (d : Addr) : Mut (Int × Int) := ⟨fun c => c = d, fun t h => ∃ u v n, h.get? d = some (lstO [.int t.1 u, .int t.2 v] n),
  fun p m => by obtain ⟨u, v, n, e⟩ := p; exact ⟨_, m ▸ e⟩, fun p k => by obtain ⟨u, v, n, e⟩ := p; exact ⟨u, v, n, k _ _ rfl e⟩⟩
section
variable {w : World} {b : Heap} {ns : List (Str × NameKind)} {base z₀ : Heap} {env : Env} {z h z' h' : Heap} {σ : Sig} {led : List (Addr × Obj)}
/-- an object that was there is taken as one's own -/
theorem St.open {d : Addr} {o : Obj} (S : St w b ns base z₀ env z h σ led) (e : base.get? d = some o) (n : z.get? d = none) : St w b ns (mask base fun c => c != d) z₀ env z h σ ((d, o) :: led) := by
  have sub : Le (mask base fun c => c != d) base := fun c o' q => by rw [mask_get] at q; split at q; exact q; cases q
  have none_ : ∀ c, base.get? c = none → (mask base fun c => c != d).get? c = none := fun c => sub.none
  refine ⟨S.X, ⟨S.G.zz, S.G.zh, sub.trans S.G.hh, fun c o' q => (S.G.nw c o' q).imp id (none_ c)⟩, fun p hp => ?_, ?_, ⟨none_ _ S.fl.1, S.fl.2⟩, fun m c hm => ?_, S.fa, S.cc, S.nf⟩
  · rcases List.mem_cons.mp hp with rfl | hp
    · refine ⟨S.G.hh _ _ e, n, by rw [mask_get]; simp, fun q => ?_, fun m c hm q => ?_⟩
      · have := S.fl.1
        rw [← show d = env.locals from q, e] at this; cases this
      · have := (S.fc m c hm).1
        rw [← show d = c from q, e] at this; cases this
    · obtain ⟨e1, e2, e3, e4⟩ := S.ld p hp; exact ⟨e1, e2, none_ _ e3, e4⟩
  · rw [List.map_cons, List.nodup_cons]
    refine ⟨fun hm => ?_, S.nd⟩
    obtain ⟨p, hp, q⟩ := List.mem_map.mp hm
    have := (S.ld p hp).2.2.1
    rw [q, e] at this; cases this
  · obtain ⟨e1, e2⟩ := S.fc m c hm; exact ⟨none_ _ e1, e2⟩
theorem St.shut {d : Addr} {o : Obj} (S : St w b ns (mask base fun c => c != d) z₀ env z h σ ((d, o) :: led)) : GrowM (penU d) z₀ base z h := by
  refine ⟨S.G.zz, S.G.zh, fun c o' m e => S.G.hh c o' (by rw [mask_get, if_pos (by simp only [bne_iff_ne, ne_eq]; exact m)]; exact e), fun c o' q => (S.G.nw c o' q).imp id fun n => ?_⟩
  rw [mask_get] at n
  by_cases hc : c = d
  · have := (S.ld (d, o) (.head _)).2.1
    rw [← hc, q] at this; cases this
  · rwa [if_pos (by simpa using hc)] at n
/-- the pen has been used -/
theorem St.growM (pre : List (Addr × Obj)) {d : Addr} {o o' : Obj} {post : List (Addr × Obj)} (S : St w b ns base z₀ env z h σ (pre ++ (d, o) :: post)) (g : GrowM (penU d) z h z' h') (e : h'.get? d = some o') : St w b ns base z₀ env z' h' σ (pre ++ (d, o') :: post) := by
  obtain ⟨d1, d2, d3, d4, d5⟩ := S.ld (d, o) (List.mem_append_right _ (.head _))
  have ap : Apart (penU d) env z := ⟨fun c m => by rw [show c = d from m]; exact d2, fun m => d4 (show env.locals = d from m).symm, fun n c hc m => d5 n c (mem_of_lookup hc) (show c = d from m).symm⟩
  have hL : ∃ o, h.get? env.locals = some o := by
    obtain ⟨ml, hn, _⟩ := S.X.loc
    obtain ⟨oL, _, _, eL, _⟩ := hn
    exact ⟨_, eL⟩
  obtain ⟨oL, eL⟩ := hL
  have nd := S.nd
  rw [List.map_append, List.map_cons] at nd
  have hne : ∀ p, p ∈ pre ∨ p ∈ post → p.1 ≠ d := fun p hp q => by
    rw [List.nodup_append] at nd
    rcases hp with hp | hp
    · exact nd.2.2 p.1 (List.mem_map.mpr ⟨p, hp, rfl⟩) d (.head _) q
    · exact (List.nodup_cons.mp nd.2.1).1 (List.mem_map.mpr ⟨p, hp, q⟩)
  refine ⟨S.X.leM ap g, ⟨S.G.zz.trans g.zz, g.zh, fun c o₁ q => g.hh c o₁ (fun m => by rw [show c = d from m, d3] at q; cases q) (S.G.hh c o₁ q), fun c o₁ q => (g.nw c o₁ q).elim (S.G.nw c o₁) fun n => .inr (S.G.hh.none n)⟩, fun p hp => ?_, ?_, ⟨S.fl.1, g.off eL S.fl.2⟩, fun n c hm => ?_, S.fa, S.cc, S.nf⟩
  · have old : p ∈ pre ∨ p ∈ post → h'.get? p.1 = some p.2 ∧ z'.get? p.1 = none ∧ base.get? p.1 = none ∧ p.1 ≠ env.locals ∧ ∀ n c, (n, c) ∈ env.cells → p.1 ≠ c := fun hp' => by
      obtain ⟨e1, e2, e3⟩ := S.ld p (by rcases hp' with q | q; exact List.mem_append_left _ q; exact List.mem_append_right _ (.tail _ q))
      exact ⟨g.hh _ _ (hne p hp') e1, g.off e1 e2, e3⟩
    rcases List.mem_append.mp hp with hp | hp
    · exact old (.inl hp)
    · rcases List.mem_cons.mp hp with rfl | hp
      · exact ⟨e, g.off d1 d2, d3, d4, d5⟩
      · exact old (.inr hp)
  · rw [List.map_append, List.map_cons]; exact nd
  · obtain ⟨e1, e2, e3, v, o₁, e4, e5⟩ := S.fc n c hm
    exact ⟨e1, g.off e4 e2, e3, v, o₁, g.hh c o₁ (fun m => d5 n c hm (show c = d from m).symm) e4, e5⟩
end
section
variable (prog : Program) (w : World) (b : Heap) (k : Nat) {T : Type} (U : Mut T)
noncomputable def FnM (t : T) (f : Value) (as : List AV) (r : AV) (t' : T) : Prop :=
  ∀ (z : Heap) (A : Around) (s : Shared) (Q E : Value → Shared → Prop) (vs : List Value), HasFr b s.heap → Le b z → Le z s.heap → Room A k → (∀ c, U.M c → z.get? c = none) → U.P t s.heap → Reps z vs as →
    (∀ v z' h' tk, GrowM U z s.heap z' h' → U.P t' h' → Rep z' v r → Q v (sh s h' tk)) → wpAny (model prog w) A (call f vs) Q E s
end
section
variable {prog : Program} {w : World} {b : Heap} {k : Nat} {ns : List (Str × NameKind)} {σ : Sig} {T : Type} {U : Mut T}
theorem evm_call (B : Base w b) {fe e : Expr} {es : List Expr} {pos : Pos} {f : Value} {as : List AV} {r : AV} {t t' : T} (hf : Ev prog w b k ns σ fe (.val f)) (hc : Callable w f) (ha : EvS prog w b k ns σ (e :: es) as) (H : FnM prog w b k U t f as r t')
    (he : ∀ env, starEach (e :: es) env = (false, eval e env) :: starEach es env := by intro _; rfl) (hp : ∀ env, (backTo pos (starEach es env)).any (·.1) = false := by intro _; rfl)
    (hx : ∀ env, eval (.Call fe (e :: es) [] pos) env = (do callWith pos (← eval fe env) [] (backTo pos (starEach (e :: es) env)) (backToKw pos (keywordEach [] env))) := by intro _; rfl) :
    EvM prog w b k ns σ U t (.Call fe (e :: es) [] pos) r t' := fun env z A s Q E X R ap p h => Call_ (hf env z A s _ E X R fun v z₁ h₁ tk₁ g₁ r₁ => by
      rw [r₁.val_inv]
      have p₁ : U.P t h₁ := U.st p fun c o _ e => g₁.hh c o e
      have ap₁ : Apart U env z₁ := ap.le p (.of g₁)
      exact hc.call B (ha env z₁ A _ pos _ E (X.le g₁) R fun vs z₂ h₂ tk₂ g₂ r₂ => ⟨((X.bz.trans g₁.zz).trans g₂.zz).trans g₂.zh,
        have p₂ : U.P t h₂ := U.st p₁ fun c o _ e => g₂.hh c o e
        H z₂ A _ Q E vs ((X.le g₁).le g₂).fr ((X.bz.trans g₁.zz).trans g₂.zz) g₂.zh R (ap₁.le p₁ (.of g₂)).zo p₂ r₂ fun v z' h' tk g p' r => h v z' h' tk (GrowM.trans (t := t) (.of (g₁.trans g₂)) p₂ g) p' r⟩) (he env) (hp env)) (hx env)
theorem evm_bin {l r : Expr} {op : Operator} {pos : Pos} {a c d : AV} {t t₁ t₂ : T} (hl : EvM prog w b k ns σ U t l a t₁) (hr : EvM prog w b k ns σ U t₁ r c t₂) (ho : BinR prog w b k op a c d) : EvM prog w b k ns σ U t (.BinOp l op r pos) d t₂ :=
  fun env z A s Q E X R ap p h => wpAny_BinOp (hl env z A s _ E X R ap p fun v₁ z₁ h₁ tk₁ g₁ p₁ r₁ => hr env z₁ A _ _ E (X.leM ap g₁) R (ap.le p g₁) p₁ fun v₂ z₂ h₂ tk₂ g₂ p₂ r₂ =>
    ho z₂ A _ Q E v₁ v₂ ((X.leM ap g₁).leM (ap.le p g₁) g₂).fr g₂.zh R (r₁.le g₂.zz) r₂ fun v z' h' tk g r => h v z' h' tk (GrowM.trans (t := t₂) (g₁.trans p₁ g₂) p₂ (.of g)) (U.st p₂ fun c o _ e => g.hh c o e) r)
/-- (.., .., ..)[e] -/
theorem evm_tupitem {v i : Expr} {pos : Pos} {xs : List AV} {j : Int} {a : AV} {t t' : T} (hv : Ev prog w b k ns σ v (.tup xs)) (hi : EvM prog w b k ns σ U t i (.int j) t') (h0 : 0 ≤ j) (h1 : j < 2 ^ 62) (hx : xs[j.toNat]? = some a)
    (hs : ∀ o t, subscripted i false o t = operate [o, t] (getItem o t) := by intro _ _; with_unfolding_all rfl) : EvM prog w b k ns σ U t (.Subscript v i pos) a t' := by
  intro env z A s Q E X R ap p h
  refine Subscript_ (hv env z A s _ E X R fun v₁ z₁ h₁ tk₁ g₁ r₁ => hi env z₁ A _ _ E (X.le g₁) R (ap.le p (.of g₁)) (U.st p fun c o _ e => g₁.hh c o e) fun v₂ z₂ h₂ tk₂ g₂ p₂ r₂ => ?_)
  obtain ⟨u, rfl⟩ := r₂.int_inv
  replace r₁ := r₁.tp; obtain ⟨l, vs, rfl, e, r₁⟩ := r₁
  obtain ⟨x, hx', rx⟩ := r₁.get hx
  have it : IsTup h₂ l vs.toArray := (e.keeps g₂.zz).keeps g₂.zh
  have hlt : j.toNat < vs.length := (List.getElem?_eq_some_iff.mp hx').1
  refine tail_any it.typeIs PySem.F.slot_tuple_getitem.lookup (getItem_tuple it (j := j.toNat) (by lia) (by lia) ?_ (by simpa using hx') (h x z₂ h₂ tk₂ (GrowM.trans (t := t) (.of g₁) (U.st p fun c o _ e => g₁.hh c o e) g₂) p₂ (rx.le g₂.zz))) (hs _ _)
  exact seqIndex_of h0 (by simp; lia)
theorem ElM.ofM {elt : Expr} {a : AV} {t t' : T} (H : EvM prog w b k ns σ U t elt a t') : ElM prog w b k ns σ U t [] elt (some a) t' := by
  intro env z A s E X R ap p
  exact wpAny_tests_nil ⟨z, s.heap, s.toks, t, rfl, .of (Grow.refl X.zh), p, rfl, (fun q => nomatch q), fun _ => H env z A s _ E X R ap p fun v z' h' tk g p' r => ⟨z', h', tk, a, rfl, g, p', rfl, r⟩⟩
/-- [elt for x in iter], with the pen -/
theorem evlm_compM {elt iter : Expr} {x : Str} {px pos : Pos} {scope : Scope} {src : AV} {α : Type} (as : List α) (enc : α → AV) (f : Nat → AV) (t : Nat → T)
    (hit : Ev prog w b k ns σ iter src) (hsrc : ∀ z v, Rep z v src → Src z v (as.map enc)) (hsz : as.length ≤ sizeLine)
    (hE : ∀ i a, as[i]? = some a → EvM prog w b k (reNs scope.names ns) ((x, enc a) :: inner scope.names σ) U (t i) elt (f i) (t (i + 1)))
    (hk : scope.kind = .function) (hok : compOk scope.names ns (σ.map (·.1)) x = true)
    (hs : ∀ (env : Env) x, foldedSetIterable iter env x = pure x := by intro _ _; rfl) :
    EvLM prog w b k ns σ U (t 0) (.ListComp elt [⟨.Name x px, iter, [], 0⟩] scope pos) ((List.range as.length).map f) (t as.length) := by
  have := evlm_comp (prog := prog) (w := w) (b := b) (k := k) (ns := ns) (σ := σ) (U := U) (pos := pos) (px := px) (elt := elt) (ifs := []) t (fun i => some (f i)) hit hsrc (fun i a hxa => ?_) (by rw [List.length_map]; exact hsz) hk hok hs
  · rw [List.length_map] at this
    have e : (List.range as.length).filterMap (fun i => some (f i)) = (List.range as.length).map f := by rw [← List.filterMap_eq_map]; rfl
    rwa [e] at this
  · rw [List.getElem?_map] at hxa
    cases qa : as[i]? with
    | none => rw [qa] at hxa; cases hxa
    | some a' =>
      rw [qa] at hxa
      cases hxa
      exact ElM.ofM (hE i a' qa)
end
section
variable {prog : Program} {w : World} {b : Heap} {k : Nat} {ns : List (Str × NameKind)} {base z₀ : Heap} {env : Env} {z : Heap} {σ : Sig} {led : List (Addr × Obj)} {A : Around} {s : Shared} {E : Value → Shared → Prop}
theorem St.apart {h : Heap} {d : Addr} {o : Obj} (S : St w b ns base z₀ env z h σ led) (hm : (d, o) ∈ led) : Apart (penU d) env z := by
  obtain ⟨d1, d2, d3, d4, d5⟩ := S.ld (d, o) hm
  exact ⟨fun c m => by rw [show c = d from m]; exact d2, fun m => d4 (show env.locals = d from m).symm, fun n c hc m => d5 n c (mem_of_lookup hc) (show c = d from m).symm⟩
/-- x = e, with the pen -/
theorem ex_assignM (pre : List (Addr × Obj)) {post : List (Addr × Obj)} {x : Str} {px pos : Pos} {value : Expr} {rest : List Stmt} {a : AV} {d : Addr} {t t' : Int × Int} {u v : Tok} {n : Nat} {Q : Flow → Shared → Prop}
    (S : St w b ns base z₀ env z s.heap σ (pre ++ (d, lstO [.int t.1 u, .int t.2 v] n) :: post)) (R : Room A k) (H : EvM prog w b k ns σ (penU d) t value a t') (hx : KindOk ns x)
    (h : ∀ u v n z' h' tk, St w b ns base z₀ env z' h' ((x, a) :: σ) (pre ++ (d, lstO [.int t'.1 u, .int t'.2 v] n) :: post) → Le z z' → wpAny (model prog w) A (execs rest env) Q E (sh s h' tk))
    (hs : swapsWith value (some (.Name x px)) pos.line env = pure false := by rfl) : wpAny (model prog w) A (execs (.Assign [.Name x px] value pos :: rest) env) Q E s :=
  ex_cons (wpAny_Assign_Name (H env z A s _ E S.X R (S.apart (List.mem_append_right _ (.head _))) ⟨u, v, n, S.at (List.mem_append_right _ (.head _))⟩ fun vv z' h' tk g p' r => by
    obtain ⟨u', v', n', e'⟩ := p'
    exact st_store (s := (sh s h' tk)) (S.growM pre g e') r hx fun h'' tk' S' _ => h u' v' n' z' h'' tk' S' g.zz) hs)
end
end Mine
end
section
open PySem PySem.W PyProof.Rows PySem.Calls PySem.Spec PySem.SeqAt
namespace Mine
/-- the state within a comprehension of two clauses -/
structure Sc (w : World) (b : Heap) (ns : List (Str × NameKind)) (base z₀ : Heap) (env : Env) (z h : Heap) (σ : Sig) (led : List (Addr × Obj)) : Prop where
  X : EnvOK w b ns env z h σ
  G : Grow z₀ base z h
  ld : ∀ p ∈ led, h.get? p.1 = some p.2 ∧ z.get? p.1 = none ∧ base.get? p.1 = none ∧ p.1 ≠ env.locals
  nd : (led.map (·.1)).Nodup
  fl : base.get? env.locals = none ∧ z.get? env.locals = none
  fc : ∀ n c, env.cells.lookup n = some c → ∃ o, base.get? c = some o
section
variable {w : World} {b : Heap} {ns : List (Str × NameKind)} {base z₀ : Heap} {env : Env} {z h z' h' : Heap} {σ : Sig} {led : List (Addr × Obj)}
theorem Sc.grow (S : Sc w b ns base z₀ env z h σ led) (g : Grow z h z' h') : Sc w b ns base z₀ env z' h' σ led := by
  obtain ⟨ml, hn, hl⟩ := S.X.loc
  obtain ⟨oL, _, _, eL, _⟩ := id hn
  refine ⟨S.X.le g, S.G.trans g, fun p hp => ?_, S.nd, ⟨S.fl.1, g.off eL S.fl.2⟩, S.fc⟩
  obtain ⟨e1, e2, e3⟩ := S.ld p hp; exact ⟨g.hh _ _ e1, g.off e1 e2, e3⟩
theorem Sc.weak (S : Sc w b ns base z₀ env z h σ led) {τ : Sig} (hs : ∀ x a, τ.lookup x = some a → σ.lookup x = some a) : Sc w b ns base z₀ env z h τ led := ⟨S.X.weak hs, S.G, S.ld, S.nd, S.fl, S.fc⟩
theorem Sc.less (S : Sc w b ns base z₀ env z h σ led) {led' : List (Addr × Obj)} (hs : ∀ p ∈ led', p ∈ led) (nd : (led'.map (·.1)).Nodup) : Sc w b ns base z₀ env z h σ led' := ⟨S.X, S.G, fun p hp => S.ld p (hs p hp), nd, S.fl, S.fc⟩
theorem Sc.tail {p : Addr × Obj} (S : Sc w b ns base z₀ env z h σ (p :: led)) : Sc w b ns base z₀ env z h σ led := S.less (fun _ hp => .tail _ hp) (List.nodup_cons.mp S.nd).2
theorem Sc.at (S : Sc w b ns base z₀ env z h σ led) {d : Addr} {o : Obj} (hm : (d, o) ∈ led) : h.get? d = some o := (S.ld _ hm).1
theorem Sc.push (S : Sc w b ns base z₀ env z h σ led) (g : Grow z h z' h') {l : Addr} {o : Obj} (n : h.get? l = none) (n' : z'.get? l = none) (e : h'.get? l = some o) : Sc w b ns base z₀ env z' h' σ ((l, o) :: led) := by
  have S' := S.grow g
  obtain ⟨ml, hn, hl⟩ := S.X.loc
  obtain ⟨oL, _, _, eL, _⟩ := id hn
  refine ⟨S'.X, S'.G, fun p hp => ?_, ?_, S'.fl, S'.fc⟩
  · rcases List.mem_cons.mp hp with rfl | hp
    · refine ⟨e, n', S.G.hh.none n, fun q => ?_⟩
      rw [show l = env.locals from q, eL] at n; cases n
    · exact S'.ld p hp
  · rw [List.map_cons, List.nodup_cons]
    refine ⟨fun hm => ?_, S.nd⟩
    obtain ⟨p, hp, q⟩ := List.mem_map.mp hm
    have := (S.ld p hp).1
    rw [q, n] at this; cases this
theorem Sc.off (S : Sc w b ns base z₀ env z h σ led) {d : Addr} (d3 : base.get? d = none) : ∀ n c, env.cells.lookup n = some c → c ≠ d := fun n c e q => by
  obtain ⟨o, e'⟩ := S.fc n c e
  rw [q, d3] at e'; cases e'
theorem Sc.upd (pre : List (Addr × Obj)) {d : Addr} {o o' : Obj} {post : List (Addr × Obj)} (S : Sc w b ns base z₀ env z h σ (pre ++ (d, o) :: post)) (hk : ∀ c o, c ≠ d → h.get? c = some o → h'.get? c = some o) (e : h'.get? d = some o') :
    Sc w b ns base z₀ env z h' σ (pre ++ (d, o') :: post) := by
  obtain ⟨d1, d2, d3, d4⟩ := S.ld (d, o) (List.mem_append_right _ (.head _))
  have G' := S.G.upd hk d3 d2
  obtain ⟨ml, hn, hl⟩ := S.X.loc
  have nd := S.nd
  rw [List.map_append, List.map_cons] at nd
  have hne : ∀ p, p ∈ pre ∨ p ∈ post → p.1 ≠ d := fun p hp q => by
    rw [List.nodup_append] at nd
    rcases hp with hp | hp
    · exact nd.2.2 p.1 (List.mem_map.mpr ⟨p, hp, rfl⟩) d (.head _) q
    · exact (List.nodup_cons.mp nd.2.1).1 (List.mem_map.mpr ⟨p, hp, q⟩)
  refine ⟨⟨S.X.bz, G'.zh, S.X.nm, S.X.kd, S.X.gl, S.X.bi, S.X.top, ⟨ml, hn.at' fun o e => hk _ o (Ne.symm d4) e, hl⟩, fun x a e k => ?_, S.X.cov⟩, G', fun p hp => ?_, ?_, S.fl, S.fc⟩
  · obtain ⟨c, v, e1, ⟨o, e2, e3⟩, e4⟩ := S.X.cel x a e k
    exact ⟨c, v, e1, ⟨o, hk c o (S.off d3 x c e1) e2, e3⟩, e4⟩
  · rcases List.mem_append.mp hp with hp | hp
    · obtain ⟨e1, e2⟩ := S.ld p (List.mem_append_left _ hp); exact ⟨hk _ _ (hne p (.inl hp)) e1, e2⟩
    · rcases List.mem_cons.mp hp with rfl | hp
      · exact ⟨e, d2, d3, d4⟩
      · obtain ⟨e1, e2⟩ := S.ld p (List.mem_append_right _ (.tail _ hp)); exact ⟨hk _ _ (hne p (.inr hp)) e1, e2⟩
  · rw [List.map_append, List.map_cons]; exact nd
theorem Sc.other (S : Sc w b ns base z₀ env z h σ led) {d : Addr} (hk : ∀ c o, c ≠ d → h.get? c = some o → h'.get? c = some o) (d2 : z.get? d = none) (d3 : base.get? d = none) (d4 : d ≠ env.locals) (d6 : ∀ p ∈ led, p.1 ≠ d) : Sc w b ns base z₀ env z h' σ led := by
  have G' := S.G.upd hk d3 d2
  obtain ⟨ml, hn, hl⟩ := S.X.loc
  refine ⟨⟨S.X.bz, G'.zh, S.X.nm, S.X.kd, S.X.gl, S.X.bi, S.X.top, ⟨ml, hn.at' fun o e => hk _ o (Ne.symm d4) e, hl⟩, fun x a e k => ?_, S.X.cov⟩, G', fun p hp => ?_, S.nd, S.fl, S.fc⟩
  · obtain ⟨c, v, e1, ⟨o, e2, e3⟩, e4⟩ := S.X.cel x a e k
    exact ⟨c, v, e1, ⟨o, hk c o (S.off d3 x c e1) e2, e3⟩, e4⟩
  · obtain ⟨e1, e2⟩ := S.ld p hp; exact ⟨hk _ _ (d6 p hp) e1, e2⟩
end
section
variable {prog : Program} {w : World} {b : Heap} {k : Nat} {ns : List (Str × NameKind)} {base z₀ : Heap} {env : Env} {z : Heap} {σ : Sig} {led : List (Addr × Obj)} {A : Around} {s : Shared} {E : Value → Shared → Prop}
theorem sc_store {x : Str} {v : Value} {a : AV} {Q : Unit → Shared → Prop} (S : Sc w b ns base z₀ env z s.heap σ led) (r : Rep z v a) (hx : ns.lookup x = some .local)
    (h : ∀ h' tk, Sc w b ns base z₀ env z h' ((x, a) :: σ) led → (∀ c, c ≠ env.locals → h'.get? c = s.heap.get? c) → Q () (sh s h' tk)) : wpAny (model prog w) A (storeName env x v) Q E s := by
  have hk : env.kindOf x = ns.lookup x := by unfold Env.kindOf; rw [S.X.nm]
  obtain ⟨ml, hn, hl⟩ := S.X.loc
  refine wpAny_storeName_local (hk.trans hx) hn (fun h' hn' hs => ?_) (by rw [S.X.kd]; rfl)
  have kp : ∀ c o, c ≠ env.locals → s.heap.get? c = some o → h'.get? c = some o := fun c o hc e => (hs.2 c hc).trans e
  have G' := S.G.upd kp S.fl.1 S.fl.2
  refine h h' _ ⟨⟨S.X.bz, G'.zh, S.X.nm, S.X.kd, S.X.gl, S.X.bi, S.X.top, ⟨_, hn', fun y a' e q => ?_⟩, fun y a' e q => ?_, fun y a' e => ?_⟩, G', fun p hp => ?_, S.nd, S.fl, S.fc⟩ (fun c hc => hs.2 c hc)
  · by_cases hy : y = x
    · subst hy; rw [List.lookup_cons, beq_self_eq_true] at e; cases e; exact ⟨v, by simp, r⟩
    · rw [List.lookup_cons, beq_eq_false_iff_ne.mpr hy] at e
      obtain ⟨v', e1, e2⟩ := hl y a' e q
      exact ⟨v', by simp [hy, e1], e2⟩
  · have hy : y ≠ x := fun q' => by subst q'; rw [hx] at q; rcases q with q | q <;> cases q
    rw [List.lookup_cons, beq_eq_false_iff_ne.mpr hy] at e
    obtain ⟨c, v', e1, ⟨o, e2, e3⟩, e4⟩ := S.X.cel y a' e q
    exact ⟨c, v', e1, ⟨o, kp c o (S.off S.fl.1 y c e1) e2, e3⟩, e4⟩
  · by_cases hy : y = x
    · subst hy; exact .inl hx
    · rw [List.lookup_cons, beq_eq_false_iff_ne.mpr hy] at e; exact S.X.cov y a' e
  · obtain ⟨e1, e2⟩ := S.ld p hp; exact ⟨kp _ _ e2.2.2 e1, e2⟩
end

theorem compTurn_two0 (elt t₀ i₀ t₁ i₁ : Expr) (ifs : List Expr) (scope : Scope) (pos : Pos) (it acc : Value) (env : Env) :
    compTurn (.ListComp elt [⟨t₀, i₀, [], 0⟩, ⟨t₁, i₁, ifs, 0⟩] scope pos) 0 it acc env = (do
      standAt i₀.pos
      match ← pyNext it with
      | none => pure (.done .next)
      | some v =>
        letOwnedTupleGo t₀ it v
        assign t₀ env v
        let x ← eval i₁ env
        standAt i₁.pos
        let x ← foldedSetIterable i₁ env x
        let _ ← runOwn (.compStart (.ListComp elt [⟨t₀, i₀, [], 0⟩, ⟨t₁, i₁, ifs, 0⟩] scope pos) 1 (← holding [x] (pyIter x)) acc env) env
        again (.compLoop (.ListComp elt [⟨t₀, i₀, [], 0⟩, ⟨t₁, i₁, ifs, 0⟩] scope pos) 0 it acc env)) := by rfl
theorem compTurn_two1 (elt t₀ i₀ t₁ i₁ : Expr) (ifs : List Expr) (scope : Scope) (pos : Pos) (it acc : Value) (env : Env) :
    compTurn (.ListComp elt [⟨t₀, i₀, [], 0⟩, ⟨t₁, i₁, ifs, 0⟩] scope pos) 1 it acc env = (do
      standAt i₁.pos
      match ← pyNext it with
      | none => pure (.done .next)
      | some v =>
        letOwnedTupleGo t₁ it v
        assign t₁ env v
        let mut ok := true
        for c in ifs do
          if ok then ok ← isTrue c env (eval c env)
        if ok then
          (do let _ ← call (.builtin "list.append") [acc, ← eval elt env])
        again (.compLoop (.ListComp elt [⟨t₀, i₀, [], 0⟩, ⟨t₁, i₁, ifs, 0⟩] scope pos) 1 it acc env)) := by rfl
section
variable {prog : Program} {w : World} {A : Around} {E : Value → Shared → Prop} {R : Result → Shared → Prop} {s : Shared}
noncomputable abbrev NoV : Value → Shared → Prop := fun _ _ => False
noncomputable abbrev InnR (I : Nat → Shared → Prop) (n : Nat) (r : Result) (s₅ : Shared) : Prop := match r with | .ok _ => ∃ m, m < n ∧ I m s₅ | .error _ => False
noncomputable abbrev TW0 (prog : Program) (w : World) (A : Around) (elt t₀ i₀ t₁ i₁ : Expr) (ifs : List Expr) (scope : Scope) (pos : Pos) (acc : Value) (env : Env) (I : Nat → Shared → Prop) (R : Result → Shared → Prop) (n : Nat) (r : Option Value) (s₁ : Shared) : Prop :=
  match r with
  | none => R (.ok .next) s₁
  | some v => wpAny (model prog w) A (assign t₀ env v) (fun _ s₂ => wpAny (model prog w) A (eval i₁ env) (fun x s₃ => wpAny (model prog w) A (pyIter x) (fun it' s₄ =>
          codeAny (model prog w) A (.compStart (.ListComp elt [⟨t₀, i₀, [], 0⟩, ⟨t₁, i₁, ifs, 0⟩] scope pos) 1 it' acc env) (InnR I n) s₄) NoV s₃) NoV s₂) NoV s₁
inductive TInv (s : Shared) (len : Nat) (z₁ : Heap) (SC : Heap → Heap → List Value → Nat → Obj → Prop) (RS : Heap → List Value → Nat → Prop) (St : Nat → Heap → Prop) (n : Nat) (s' : Shared) : Prop
  | mk (i : Nat) (zi h' : Heap) (tk : Nat) (ys : List Value) (m : Nat) (oI : Obj) (hi : i ≤ len) (en : n = len + 1 - i) (es : s' = (sh s h' tk)) (lz : Le z₁ zi) (S : SC zi h' ys m oI) (r : RS zi ys i) (st : St i h')
theorem two_loop0 {elt t₀ i₀ t₁ i₁ : Expr} {ifs : List Expr} {scope : Scope} {pos : Pos} {it acc : Value} {env : Env} (I : Nat → Shared → Prop)
    (turn : ∀ n s, I n s → wpAny (model prog w) A (pyNext it) (TW0 prog w A elt t₀ i₀ t₁ i₁ ifs scope pos acc env I R n) NoV s)
    (n : Nat) (h : I n s) (ht : ∀ v, letOwnedTupleGo t₀ it v = pure () := by intro _; rfl) (hs : ∀ x, foldedSetIterable i₁ env x = pure x := by intro _; rfl) :
    codeAny (model prog w) A (.compLoop (.ListComp elt [⟨t₀, i₀, [], 0⟩, ⟨t₁, i₁, ifs, 0⟩] scope pos) 0 it acc env) R s := by
  refine codeAny_loop rfl I (fun n s hI => ?_) n h
  show wpAny _ A ((compTurn (.ListComp elt [⟨t₀, i₀, [], 0⟩, ⟨t₁, i₁, ifs, 0⟩] scope pos) 0 it acc env).onRaise (fun x => do noteFrame x env; theTreesLotGoes x)) _ _ s
  refine wpAny_noted ?_
  rw [compTurn_two0]
  refine wpAny_bind (wpAny_standAt (wpAny_bind (wpAny_mono (turn n s hI) (fun r s₁ h₁ => ?_) fun _ _ q => q.elim)))
  cases r with
  | none => exact wpAny_pure h₁
  | some v =>
    refine wpAny_bind (wpAny_of_eq (ht v) ?_)
    refine wpAny_bind (wpAny_mono h₁ (fun _ s₂ h₂ => ?_) fun _ _ q => q.elim)
    refine wpAny_bind (wpAny_mono h₂ (fun x s₃ h₃ => ?_) fun _ _ q => q.elim)
    refine wpAny_bind (wpAny_standAt (wpAny_bind (wpAny_of_eq (hs x) ?_)))
    refine wpAny_bind (wpAny_holding (wpAny_mono h₃ (fun it' s₄ h₄ => ?_) fun _ _ q => q.elim))
    refine wpAny_bind (wpAny_runOwn (codeAny_mono h₄ fun r s₅ h₅ => ?_))
    cases r with
    | error _ => exact h₅.elim
    | ok f => exact wpAny_pure ⟨rfl, h₅⟩
theorem two_start1 {elt t₀ i₀ t₁ i₁ : Expr} {ifs : List Expr} {scope : Scope} {pos : Pos} {it acc : Value} {env : Env}
    (h0 : codeAny (model prog w) A (.compLoop (.ListComp elt [⟨t₀, i₀, [], 0⟩, ⟨t₁, i₁, ifs, 0⟩] scope pos) 1 it acc env) R s)
    (h : wpAny (model prog w) A (pyIter it) (fun it' s' => codeAny (model prog w) A (.compLoop (.ListComp elt [⟨t₀, i₀, [], 0⟩, ⟨t₁, i₁, ifs, 0⟩] scope pos) 1 it' acc env) R s')
      (notedBy (model prog w) A env fun x s' => R (.error x) s') s) :
    codeAny (model prog w) A (.compStart (.ListComp elt [⟨t₀, i₀, [], 0⟩, ⟨t₁, i₁, ifs, 0⟩] scope pos) 1 it acc env) R s := by
  refine codeAny_of_tree ?_
  show wpAny _ _ ((compStart (.ListComp elt [⟨t₀, i₀, [], 0⟩, ⟨t₁, i₁, ifs, 0⟩] scope pos) 1 it acc env).onRaise (fun x => do noteFrame x env; standAt theWindowsPlace)) _ _ s
  refine wpAny_notedAt ?_
  unfold compStart
  show wpAny _ _ (ask >>= _) _ _ s
  refine wpAny_bind (wpAny_askSetting (wpAny_ite ?_))
  split
  · first
      | exact wpAny_bind (wpAny_pure (wpAny_pure (And.intro rfl h0)))
      | exact wpAny_pure (And.intro rfl h0)
  · first
      | exact wpAny_bind (wpAny_rule (wpAny_bind (wpAny_standAt (wpAny_bind (wpAny_mono h (fun it' s' h' => wpAny_pure (And.intro rfl h')) fun _ _ x => x)))))
      | (refine wpAny_bind (wpAny_rule ?_); show wpAny _ _ (standAt i₁.pos >>= _) _ _ s; exact wpAny_bind (wpAny_standAt (wpAny_bind (wpAny_mono h (fun it' s' h' => wpAny_pure (And.intro rfl h')) fun _ _ x => x))))
theorem two_loop1 {elt t₀ i₀ t₁ i₁ : Expr} {ifs : List Expr} {scope : Scope} {pos : Pos} {it acc : Value} {env : Env} (I : Nat → Shared → Prop)
    (turn : ∀ n s, I n s → wpAny (model prog w) A (pyNext it) (CP1 prog w A t₁ elt ifs env acc (fun s₃ => ∃ m, m < n ∧ I m s₃) NoV R) NoV s)
    (n : Nat) (h : I n s) (ht : ∀ v, letOwnedTupleGo t₁ it v = pure () := by intro _; rfl) :
    codeAny (model prog w) A (.compLoop (.ListComp elt [⟨t₀, i₀, [], 0⟩, ⟨t₁, i₁, ifs, 0⟩] scope pos) 1 it acc env) R s := by
  refine codeAny_loop rfl I (fun n s hI => ?_) n h
  show wpAny _ A ((compTurn (.ListComp elt [⟨t₀, i₀, [], 0⟩, ⟨t₁, i₁, ifs, 0⟩] scope pos) 1 it acc env).onRaise (fun x => do noteFrame x env; theTreesLotGoes x)) _ _ s
  refine wpAny_noted ?_
  rw [compTurn_two1]
  refine wpAny_bind (wpAny_standAt (wpAny_bind (wpAny_mono (turn n s hI) (fun r s₁ h₁ => ?_) fun _ _ q => q.elim)))
  cases r with
  | none => exact wpAny_pure h₁
  | some v =>
    refine wpAny_bind (wpAny_of_eq (ht v) ?_)
    refine wpAny_bind (wpAny_mono h₁ (fun _ s₂ h₂ => wpAny_bind (wpAny_mono h₂ (fun ok s₃ h₃ => ?_) fun _ _ q => q.elim)) fun _ _ q => q.elim)
    cases ok with
    | false => exact wpAny_pure ⟨rfl, h₃⟩
    | true =>
      exact wpAny_bind (wpAny_bind (wpAny_mono h₃ (fun x s₄ h₄ => wpAny_bind (wpAny_mono h₄ (fun _ s₅ h₅ => wpAny_pure (wpAny_pure ⟨rfl, h₅⟩)) fun _ _ q => q.elim)) fun _ _ q => q.elim))
end
end Mine
end
section
open PySem PySem.W PyProof.Rows PySem.Calls PySem.Spec PySem.SeqAt
namespace Mine
noncomputable def comp2Ok (names ns : List (Str × NameKind)) (keys : List Str) (x y : Str) : Bool :=
  names.all (fun y => y.2 != .local || names.lookup y.1 == some .local) && names.lookup x == some .local && names.lookup y == some .local &&
  names.all (fun y => y.2 != .free || (keys.contains y.1 && (ns.lookup y.1 == some .cell || ns.lookup y.1 == some .free))) && names.all (fun y => y.2 != .cell)
theorem cellsFrom_none : ∀ (names : List (Str × NameKind)) (n : Nat) (acc : List (Str × Addr)), (∀ y ∈ names, y.2 ≠ .cell) → cellsFrom n names acc = acc
  | [], _, _, _ => rfl
  | (m, k) :: r, n, acc, h => by
    unfold cellsFrom
    rw [if_neg (by simpa using h (m, k) (.head _))]
    exact cellsFrom_none r n acc fun y hy => h y (.tail _ hy)
section
variable {prog : Program} {w : World} {b : Heap} {k : Nat} {ns : List (Str × NameKind)} {σ : Sig}
theorem comp2 {α β : Type} {elt iter iter2 ct : Expr} {x y : Str} {px py pos pos' : Pos} {scope : Scope} {src : AV} (as : List α) (enc : α → AV) (bs : α → List β) (enc2 : β → AV) (p : β → Bool) (f : β → AV)
    {use : Option (Value → Sem Unit)} {env : Env} {z : Heap} {A : Around} {s : Shared} {Q E : Value → Shared → Prop}
    (X : EnvOK w b ns env z s.heap σ) (R : Room A k) (hit : Ev prog w b k ns σ iter src) (hsrc : ∀ z v, Rep z v src → Src z v (as.map enc))
    (hit2 : ∀ a ∈ as, Ev prog w b k (reNs scope.names ns) ((x, enc a) :: inner scope.names σ) iter2 (.list ((bs a).map enc2)))
    (hT : ∀ a ∈ as, ∀ g ∈ bs a, EvT prog w b k (reNs scope.names ns) ((y, enc2 g) :: (x, enc a) :: inner scope.names σ) ct (p g))
    (hE : ∀ a ∈ as, ∀ g ∈ bs a, p g = true → Ev prog w b k (reNs scope.names ns) ((y, enc2 g) :: (x, enc a) :: inner scope.names σ) elt (f g))
    (hsz : (as.flatMap bs).length ≤ sizeLine) (hxy : x ≠ y) (hk : scope.kind = .function) (hok : comp2Ok scope.names ns (σ.map (·.1)) x y = true)
    (h : ∀ (l C : Addr) vs n z' h' tk ml, Grow z s.heap z' h' → s.heap.get? l = none → z'.get? l = none → h'.get? l = some (lstO vs n) → Reps z' vs ((as.flatMap fun a => (bs a).filter p).map f) →
      s.heap.get? C = none → z'.get? C = none → C ≠ l → h'.Ns C ml → compPost (model prog w) A E use Q (.ref l) C (.ok .next) (sh s h' tk))
    (hs : ∀ x, foldedSetIterable iter env x = pure x) (hs2 : ∀ env x, foldedSetIterable iter2 env x = pure x := by intro _ _; rfl) :
    wpAny (model prog w) A (comprehension (.ListComp elt [⟨.Name x px, iter, [], 0⟩, ⟨.Name y py, iter2, [ct], 0⟩] scope pos) scope env pos' (newList []) false (eval iter env) use) Q E s := by
  unfold comp2Ok at hok
  simp only [Bool.and_eq_true, Bool.or_eq_true, List.all_eq_true, bne_iff_ne, beq_iff_eq] at hok
  obtain ⟨⟨⟨⟨o1, hx⟩, hy⟩, o4⟩, o5⟩ := hok
  have hfree : ∀ n, (n, NameKind.free) ∈ scope.names → (σ.lookup n).isSome = true ∧ (ns.lookup n = some .cell ∨ ns.lookup n = some .free) := fun n hn => by
    have := (o4 _ hn).resolve_left (fun q => q rfl)
    exact ⟨lookup_isSome_of_keys this.1, this.2⟩
  have hkd : ∀ n, env.kindOf n = ns.lookup n := fun n => by unfold Env.kindOf; rw [X.nm]
  have hfc : ∀ n, (n, NameKind.free) ∈ scope.names → ∃ c o, env.cells.lookup n = some c ∧ s.heap.get? c = some o := fun n hn => by
    obtain ⟨h1, h2⟩ := hfree n hn
    obtain ⟨a, ha⟩ := Option.isSome_iff_exists.mp h1
    obtain ⟨c, _, e, ⟨o, e', _⟩, _⟩ := X.cel n a ha h2
    exact ⟨c, o, e, e'⟩
  have hre : (relabel scope env).names = reNs scope.names ns := by
    unfold relabel reNs
    apply List.map_congr_left
    rintro ⟨n, kk⟩ _
    simp only [X.kd, hkd, beq_self_eq_true, Bool.and_true]
  have xre : ∀ y, (reNs scope.names ns).lookup y = (scope.names.lookup y).map fun k => if (k == .free && ns.lookup y == some .cell) then .cell else k := fun y => re_lookup ns y scope.names
  have hx' : (reNs scope.names ns).lookup x = some .local := by rw [xre, hx]; rfl
  have hy' : (reNs scope.names ns).lookup y = some .local := by rw [xre, hy]; rfl
  refine wpAny_comprehension_free (use := use) rfl hs (closure_eq fun n hn => let ⟨c, _, e, _⟩ := hfc n hn; ⟨c, e⟩) hk (fun y hy e => (o1 y hy).resolve_left (fun q => q e)) ?_
  refine hit env z A s _ E X R fun v z₁ h₁ tk₁ g₁ r₁ => ?_
  refine src_iter R.hand (hsrc z₁ v r₁) g₁.zh fun fp P St o W hfp hex hst ho hP => ?_
  refine wpAny_newObj_type ?_
  refine newComp ?_
  dsimp only
  rw [cellsFrom_none scope.names _ _ o5]
  generalize hI : h₁.objs.size = I at *
  generalize hH2 : h₁.push o = H2
  have sz2 : H2.objs.size = I + 1 := by rw [← hH2, Heap.size_push, hI]
  generalize hH3 : H2.push { cls := .type "list", dict := none, data := .seq ([] : List Value).toArray } = H3
  have sz3 : H3.objs.size = I + 2 := by rw [← hH3, Heap.size_push, sz2]
  rw [sz2, sz3]
  generalize hH4 : pushCells (H3.push { cls := .type "dict", data := .dict #[] }) scope.names = H4
  have old2 : Le h₁ H2 := hH2 ▸ Le.rfl.push o
  have old3 : Le H2 H3 := hH3 ▸ Le.rfl.push _
  have oldC : Le (H3.push { cls := .type "dict", data := .dict #[] }) H4 := hH4 ▸ pushCells_keeps scope.names _
  have old4 : Le H3 H4 := fun c o e => oldC c o (Heap.get?_push_of_some _ e)
  have old14 : Le h₁ H4 := (old2.trans old3).trans old4
  have fr : ∀ c, I ≤ c → h₁.get? c = none := fun c hc => get_fresh h₁ (by rw [hI]; exact hc)
  have frs : ∀ c, I ≤ c → s.heap.get? c = none := fun c hc => g₁.hh.none (fr c hc)
  have frz : ∀ c, I ≤ c → z₁.get? c = none := fun c hc => g₁.zh.none (fr c hc)
  have hI4 : H4.get? I = some o := by
    have := Heap.get?_push_size h₁ (o := o) ho
    rw [hI, hH2] at this
    exact old4 _ _ (old3 _ _ this)
  have hD : H4.get? (I + 1) = some (lstO [] 0) := by
    have := Heap.get?_push_size H2 (o := { cls := .type "list", dict := none, data := .seq ([] : List Value).toArray }) rfl
    rw [hH3, sz2] at this
    exact old4 _ _ this
  have hC : H4.Ns (I + 2) (fun _ => none) := by
    have := (Heap.Ns.new H3 (.type "dict"))
    rw [sz3] at this
    exact this.keeps oldC
  have hst4 : St 0 H4 := W.frame 0 _ _ hst fun c _ o' e => by
    have e' : H2.get? c = some o' := by rw [← hH2]; exact e
    exact old4 c o' (old3 c o' e')
  let cenv : Env := { scope := relabel scope env, locals := I + 2, globals := env.globals, cells := clF env scope.names [], qual := env.qual, code := env.code, frame := env.frame, builtins := env.builtins }
  have top : b.objs.size ≤ I + 2 := by
    obtain ⟨ml, hn, _⟩ := (X.le g₁).loc
    have h1 := X.top
    have h2 : env.locals < I := hI ▸ hn.lt
    exact Nat.le_trans h1 (Nat.le_trans (Nat.le_of_lt h2) (Nat.le_add_right _ 2))
  have clook : ∀ n, (n, NameKind.free) ∈ scope.names → (clF env scope.names []).lookup n = env.cells.lookup n := fun n hn => by
    obtain ⟨c, o, e, _⟩ := hfc n hn
    rw [clF_lookup env n scope.names [] (.inl rfl) (.inl hn), e]; rfl
  have X₀ : EnvOK w b (reNs scope.names ns) cenv z₁ H4 (inner scope.names σ) := by
    have Xg := (X.le g₁)
    refine ⟨X.bz.trans g₁.zz, g₁.zh.trans old14, hre, hk, X.gl, X.bi, top, ⟨_, hC, fun y a' e q => ?_⟩, fun y a' e q => ?_, fun y a' e => ?_⟩
    · obtain ⟨e1, e2⟩ := inner_lookup _ _ _ _ e
      rw [xre, e1] at q
      by_cases hq : (NameKind.free == NameKind.free && ns.lookup y == some NameKind.cell) = true
      · have q' : (some NameKind.cell) = some NameKind.local := (congrArg some (if_pos hq)).symm.trans q
        cases q'
      · have q' : (some NameKind.free) = some NameKind.local := (congrArg some (if_neg hq)).symm.trans q
        cases q'
    · obtain ⟨e1, e2⟩ := inner_lookup _ _ _ _ e
      have hm := mem_of_lookup e1
      obtain ⟨c, v', e5, ⟨o', e6, e7⟩, e8⟩ := X.cel y a' e2 (hfree y hm).2
      exact ⟨c, v', (clook y hm).trans e5, ⟨o', old14 _ _ (g₁.hh _ _ e6), e7⟩, e8.le g₁.zz⟩
    · obtain ⟨e1, e2⟩ := inner_lookup _ _ _ _ e
      rw [xre, e1]
      by_cases hq : (NameKind.free == NameKind.free && ns.lookup y == some NameKind.cell) = true
      · exact .inr (.inl (congrArg some (if_pos hq)))
      · exact .inr (.inr (congrArg some (if_neg hq)))
  have S₀ : Sc w b (reNs scope.names ns) s.heap z cenv z₁ H4 (inner scope.names σ) [(I, o), (I + 1, lstO [] 0)] := by
    refine ⟨X₀, g₁.more old14, fun p hp => ?_, ?_, ⟨frs _ (Nat.le_add_right _ 2), frz _ (Nat.le_add_right _ 2)⟩, fun n c e => ?_⟩
    · simp only [List.mem_cons, List.not_mem_nil, or_false] at hp
      rcases hp with rfl | rfl
      · exact ⟨hI4, frz _ (Nat.le_refl _), frs _ (Nat.le_refl _), Nat.ne_of_lt (Nat.lt_add_of_pos_right (by decide))⟩
      · exact ⟨hD, frz _ (Nat.le_succ _), frs _ (Nat.le_succ _), Nat.ne_of_lt (Nat.lt_succ_self _)⟩
    · simp only [List.map_cons, List.map_nil, List.nodup_cons, List.mem_cons, List.not_mem_nil, or_false, not_false_eq_true, List.nodup_nil, and_true]
      exact Nat.ne_of_lt (Nat.lt_succ_self I)
    · rcases clF_mem env n c _ _ (mem_of_lookup e) with q | ⟨q1, q2⟩
      · cases q
      · obtain ⟨c', o', e1, e2⟩ := hfc n q1
        rw [e1] at q2
        exact ⟨o', (show c = c' from q2) ▸ e2⟩
  let res : Nat → List AV := fun i => ((as.take i).flatMap fun a => (bs a).filter p).map f
  let Inv : Nat → Shared → Prop := TInv s as.length z₁ (fun zi h' ys m oI => Sc w b (reNs scope.names ns) s.heap z cenv zi h' (inner scope.names σ) [(I, oI), (I + 1, lstO ys m)]) (fun zi ys i => Reps zi ys (res i)) St
  have loop : codeAny (model prog w) A (.compLoop (.ListComp elt [⟨.Name x px, iter, [], 0⟩, ⟨.Name y py, iter2, [ct], 0⟩] scope pos) 0 (.ref I) (.ref (I + 1)) cenv) (compPost (model prog w) A E use Q (.ref (I + 1)) (I + 2)) (sh s H4 tk₁) := by
    refine two_loop0 Inv ?_ (as.length + 1) ⟨0, z₁, H4, tk₁, [], 0, o, Nat.zero_le _, rfl, rfl, Le.rfl, S₀, .nil, hst4⟩ (hs := hs2 cenv)
    rintro n s' ⟨i, zi, h', tk, ys, m, oI, hi, rfl, rfl, lz, Si, hri, sti⟩
    rw [List.length_map] at W
    by_cases hlt : i < as.length
    · refine W.item i _ _ _ hlt sti fun u h₅ tk₅ hPu st₅ hk₅ => ?_
      obtain ⟨av, hxa, hua⟩ := hP i u hPu
      rw [List.getElem?_map] at hxa
      obtain ⟨a, qa⟩ : ∃ a, as[i]? = some a := ⟨as[i], List.getElem?_eq_getElem hlt⟩
      rw [qa] at hxa
      cases hxa
      have ham := List.mem_of_getElem? qa
      obtain ⟨o₅, e₅⟩ := hex _ _ st₅
      have S₅ := Si.upd [] (o' := o₅) (fun c o hc e => hk₅ c o (fun q => hc (List.mem_singleton.mp q)) e) e₅
      refine wpAny_assign_Name (sc_store (s := (sh s h₅ tk₅)) S₅ (hua zi lz) hx' fun h₆ tk₆ S₆ _ => ?_)
      refine hit2 a ham cenv zi A _ _ _ S₆.X R fun v₂ z₇ h₇ tk₇ g₇ r₇ => ?_
      have S₇ := S₆.grow g₇
      refine src_iter (prog := prog) (w := w) R.hand (.list r₇) g₇.zh fun fp₂ P₂ St₂ o₂ W₂ hfp₂ hex₂ hst₂ ho₂ hP₂ => ?_
      have S₈ := S₇.push (h' := h₇.push o₂) (Grow.step g₇.zh (Le.rfl.push o₂)) (get_fresh h₇ (Nat.le_refl _)) (g₇.zh.none (get_fresh h₇ (Nat.le_refl _))) (Heap.get?_push_size h₇ ho₂)
      generalize hI₂ : h₇.objs.size = I₂ at *
      rw [List.length_map] at W₂
      let Inv₂ : Nat → Shared → Prop := TInv s (bs a).length z₇ (fun zj h' ys m oI₂ => Sc w b (reNs scope.names ns) s.heap z cenv zj h' ((x, enc a) :: inner scope.names σ) [(I₂, oI₂), (I, o₅), (I + 1, lstO ys m)])
        (fun zj ys j => Reps zj ys (res i ++ (((bs a).take j).filter p).map f) ∧ ys.length ≤ ((as.take i).flatMap bs).length + j) St₂
      have keep₂ : ∀ x' a' (v : AV), ((x, enc a) :: inner scope.names σ).lookup x' = some a' → ((y, v) :: (x, enc a) :: inner scope.names σ).lookup x' = some a' := fun x' a' v e => by
        have hne : x' ≠ y := fun q => by
          subst q
          rw [List.lookup_cons, beq_eq_false_iff_ne.mpr (Ne.symm hxy)] at e
          have := (inner_lookup _ _ _ _ e).1
          rw [hy] at this; cases this
        rw [List.lookup_cons, beq_eq_false_iff_ne.mpr hne]; exact e
      have hlen0 : ys.length ≤ ((as.take i).flatMap bs).length := by
        have e1 := hri.length
        rw [e1, List.length_map]
        generalize as.take i = l
        induction l with
        | nil => exact Nat.le_refl _
        | cons c l ih =>
          rw [List.flatMap_cons, List.flatMap_cons, List.length_append, List.length_append]
          have := List.length_filter_le p (bs c)
          lia
      have hbound : ((as.take i).flatMap bs).length + (bs a).length ≤ (as.flatMap bs).length := by
        have e : as = as.take i ++ a :: as.drop (i + 1) := by
          rw [← List.getElem?_eq_some_iff.mp qa |>.2, List.getElem_cons_drop, List.take_append_drop]
        have := congrArg (fun l => (List.flatMap bs l).length) e
        simp only [List.flatMap_append, List.flatMap_cons, List.length_append] at this
        lia
      have loop₂ : codeAny (model prog w) A (.compLoop (.ListComp elt [⟨.Name x px, iter, [], 0⟩, ⟨.Name y py, iter2, [ct], 0⟩] scope pos) 1 (.ref I₂) (.ref (I + 1)) cenv) (InnR Inv (as.length + 1 - i)) (sh s (h₇.push o₂) tk₇) := by
        refine two_loop1 Inv₂ ?_ ((bs a).length + 1) ⟨0, z₇, h₇.push o₂, tk₇, ys, m, o₂, Nat.zero_le _, rfl, rfl, Le.rfl, S₈, ⟨?_, hlen0⟩, hst₂⟩
        · rintro n s' ⟨j, zj, h', tk, ys', m', oI₂, hj, rfl, rfl, lzj, Sj, ⟨hrj, hlj⟩, stj⟩
          by_cases hlt₂ : j < (bs a).length
          · refine W₂.item j _ _ _ hlt₂ stj fun u h₉ tk₉ hPu₂ st₉ hk₉ => ?_
            obtain ⟨av₂, hxa₂, hua₂⟩ := hP₂ j u hPu₂
            rw [List.getElem?_map] at hxa₂
            obtain ⟨g, qg⟩ : ∃ g, (bs a)[j]? = some g := ⟨(bs a)[j], List.getElem?_eq_getElem hlt₂⟩
            rw [qg] at hxa₂
            cases hxa₂
            have hgm := List.mem_of_getElem? qg
            obtain ⟨o₉, e₉⟩ := hex₂ _ _ st₉
            have S₉ := Sj.upd [] (o' := o₉) (fun c o hc e => hk₉ c o (fun q => hc (List.mem_singleton.mp q)) e) e₉
            -- the end of a turn
            have ends : ∀ (z₁₀ h₁₀ : Heap) (tk₁₀ : Nat) (ys₁ : List Value) (m₁ : Nat), Le zj z₁₀ → Sc w b (reNs scope.names ns) s.heap z cenv z₁₀ h₁₀ ((y, enc2 g) :: (x, enc a) :: inner scope.names σ) [(I₂, o₉), (I, o₅), (I + 1, lstO ys₁ m₁)] →
                Reps z₁₀ ys₁ (res i ++ (((bs a).take (j + 1)).filter p).map f) → ys₁.length ≤ ((as.take i).flatMap bs).length + (j + 1) → ∃ m, m < (bs a).length + 1 - j ∧ Inv₂ m (sh s h₁₀ tk₁₀) := fun z₁₀ h₁₀ tk₁₀ ys₁ m₁ l₁₀ S₁₀ r₁₀ b₁₀ =>
              ⟨(bs a).length + 1 - (j + 1), by lia, j + 1, z₁₀, h₁₀, tk₁₀, ys₁, m₁, o₉, hlt₂, rfl, rfl, lzj.trans l₁₀, S₁₀.weak fun x' a' e => keep₂ x' a' _ e, ⟨r₁₀, b₁₀⟩, W₂.frame (j + 1) h₉ h₁₀ st₉ (frame_turn hfp₂ e₉ (S₁₀.at (d := I₂) (.head _)) lzj (Sj.ld (I₂, oI₂) (.head _)).2.1 Sj.X.zh hk₉ (l₁₀.trans S₁₀.X.zh))⟩
            have tk1 : (bs a).take (j + 1) = (bs a).take j ++ [g] := by rw [List.take_add_one, qg]; rfl
            refine wpAny_assign_Name (sc_store (s := (sh s h₉ tk₉)) S₉ (hua₂ zj lzj) hy' fun h₁₀ tk₁₀ S₁₀ _ => ?_)
            refine wpAny_tests_one (hT a ham g hgm cenv zj A _ _ _ S₁₀.X R fun z₁₁ h₁₁ tk₁₁ g₁₁ => ?_)
            have S₁₁ := S₁₀.grow g₁₁
            cases hpg : p g with
            | false =>
              refine CP3.no ?_
              refine ends z₁₁ h₁₁ tk₁₁ ys' m' g₁₁.zz S₁₁ ?_ (by lia)
              rw [tk1, List.filter_append]
              simpa [hpg] using hrj.le g₁₁.zz
            | true =>
              refine CP3.yes ?_
              refine hE a ham g hgm hpg cenv z₁₁ A _ _ _ S₁₁.X R fun v₁₂ z₁₂ h₁₂ tk₁₂ g₁₂ r₁₂ => ?_
              have S₁₂ := S₁₁.grow g₁₂
              have D₁₂ := S₁₂.at (d := I + 1) (.tail _ (.tail _ (.head _)))
              refine wpAny_list_append_plain (hsz := by rw [List.size_toArray]; lia) ⟨m', D₁₂⟩ fun h₁₃ hl₁₃ hs₁₃ => ?_
              obtain ⟨m₁₃, e₁₃⟩ := hl₁₃
              have S₁₃ := S₁₂.upd [(I₂, o₉), (I, o₅)] (o' := lstO (ys' ++ [v₁₂]) m₁₃) (fun c o hc e => (hs₁₃.2 c hc).trans e) (by rw [e₁₃]; simp)
              refine ends z₁₂ h₁₃ tk₁₂ (ys' ++ [v₁₂]) m₁₃ (g₁₁.zz.trans g₁₂.zz) S₁₃ ?_ (by rw [List.length_append, List.length_singleton]; lia)
              rw [tk1, List.filter_append]
              have := ((hrj.le g₁₁.zz).le g₁₂.zz).append (.cons r₁₂ .nil)
              simpa [hpg] using this
          · have hjn : j = (bs a).length := by lia
            subst hjn
            refine W₂.done _ _ _ stj fun h₉ tk₉ hk₉ => ?_
            obtain ⟨d1, d2, d3, d4⟩ := Sj.ld (I₂, oI₂) (.head _)
            have S₉ := Sj.tail.other (h' := h₉) (d := I₂) (fun c o hc e => hk₉ c o (fun q => hc (List.mem_singleton.mp q)) e) d2 d3 d4 (fun p hp q => (List.nodup_cons.mp Sj.nd).1 (List.mem_map.mpr ⟨p, hp, q⟩))
            refine ⟨as.length + 1 - (i + 1), by lia, i + 1, zj, h₉, tk₉, ys', m', o₅, hlt, rfl, rfl, (lz.trans g₇.zz).trans lzj, S₉.weak ?_, ?_, ?_⟩
            · intro x' a' e
              have hne : x' ≠ x := fun q => by
                subst q
                have := (inner_lookup _ _ _ _ e).1
                rw [hx] at this; cases this
              rw [List.lookup_cons, beq_eq_false_iff_ne.mpr hne]; exact e
            · have e : res (i + 1) = res i ++ ((bs a).filter p).map f := by
                show ((as.take (i + 1)).flatMap fun a => (bs a).filter p).map f = _
                rw [List.take_add_one, qa]
                simp [List.flatMap_append, res]
              rw [List.take_length] at hrj
              rw [e]; exact hrj
            · exact W.frame (i + 1) h₅ h₉ st₅ (frame_turn hfp e₅ (S₉.at (d := I) (.head _)) lz (Si.ld (I, oI) (.head _)).2.1 Si.X.zh hk₅ ((g₇.zz.trans lzj).trans S₉.X.zh))
        · rw [List.take_zero, List.filter_nil, List.map_nil, List.append_nil]
          exact hri.le g₇.zz
      exact two_start1 loop₂ (wpAny_mono (W₂.self 0 _ _ _ hst₂ loop₂) (fun _ _ q => q) fun _ _ q => q)
    · have hin : i = as.length := by lia
      subst hin
      refine W.done _ _ _ sti fun h₅ tk₅ hk₅ => ?_
      obtain ⟨d1, d2, d3, d4⟩ := Si.ld (I, oI) (.head _)
      have S₅ := Si.tail.other (h' := h₅) (d := I) (fun c o hc e => hk₅ c o (fun q => hc (List.mem_singleton.mp q)) e) d2 d3 d4 (fun p hp q => (List.nodup_cons.mp Si.nd).1 (List.mem_map.mpr ⟨p, hp, q⟩))
      obtain ⟨e1, e2, e3, e4⟩ := S₅.ld (I + 1, lstO ys m) (.head _)
      obtain ⟨ml, hn, _⟩ := S₅.X.loc
      have hr : Reps zi ys ((as.flatMap fun a => (bs a).filter p).map f) := by
        have : res as.length = (as.flatMap fun a => (bs a).filter p).map f := by show ((as.take as.length).flatMap _).map f = _; rw [List.take_length]
        rw [← this]; exact hri
      exact h (I + 1) (I + 2) ys m zi h₅ tk₅ ml S₅.G e3 e2 e1 hr S₅.fl.1 S₅.fl.2 (Nat.ne_of_gt (Nat.lt_succ_self _)) hn
  exact codeAny_compStart_list loop (W.self 0 _ _ _ hst4 loop)
end
end Mine
end
section
set_option maxRecDepth 100000
open PySem PySem.W PyProof.Rows PySem.Calls PySem.Spec PySem.SeqAt
namespace Mine
noncomputable def backS (p : Int) (bk : List (List Int)) (g : Int) : List (List Int) := bk.set g.toNat (bk.getD g.toNat [] ++ [p])
noncomputable def backP (L : List (List Int)) (bk : List (List Int)) (p : Nat) : List (List Int) := (L.getD p []).foldl (backS p) bk
noncomputable def turnedF (L : List (List Int)) : List (List Int) := (List.range L.length).foldl (backP L) (List.replicate L.length [])
theorem backS_len (p : Int) (bk : List (List Int)) (g : Int) : (backS p bk g).length = bk.length := by simp [backS]
theorem backS_wd {p : Int} {bk : List (List Int)} {g : Int} {M : Nat} (h : ∀ r ∈ bk, r.length ≤ M) : ∀ r ∈ backS p bk g, r.length ≤ M + 1 := fun r hr => by
  unfold backS at hr
  rcases List.mem_or_eq_of_mem_set hr with hr | rfl
  · exact Nat.le_succ_of_le (h r hr)
  · rw [List.length_append]
    rw [List.getD_eq_getElem?_getD]
    cases e : bk[g.toNat]? with
    | none => simp
    | some r => have := h r (List.mem_of_getElem? e); simpa using this
theorem backs_wd {p : Int} (gs : List Int) : ∀ {bk : List (List Int)} {M : Nat}, (∀ r ∈ bk, r.length ≤ M) → ∀ r ∈ gs.foldl (backS p) bk, r.length ≤ M + gs.length := by
  induction gs with
  | nil => intro bk M h; exact h
  | cons g gs ih => intro bk M h r hr; have := ih (backS_wd h) r hr; rw [List.length_cons]; lia
theorem backs_len {p : Int} (gs : List Int) : ∀ {bk : List (List Int)}, (gs.foldl (backS p) bk).length = bk.length := by
  induction gs with
  | nil => intro bk; rfl
  | cons g gs ih => intro bk; rw [List.foldl_cons, ih, backS_len]
theorem backPs_wd {L : List (List Int)} {c : Nat} (hL : ∀ r ∈ L, r.length ≤ c) (ps : List Nat) : ∀ {bk : List (List Int)} {M : Nat}, (∀ r ∈ bk, r.length ≤ M) → ∀ r ∈ ps.foldl (backP L) bk, r.length ≤ M + c * ps.length := by
  induction ps with
  | nil => intro bk M h; exact h
  | cons p ps ih =>
    intro bk M h r hr
    have h5 : (L.getD p []).length ≤ c := by
      rw [List.getD_eq_getElem?_getD]
      cases e : L[p]? with
      | none => simp
      | some q => exact hL q (List.mem_of_getElem? e)
    have := ih (backs_wd (p := (p : Int)) (L.getD p []) h) r hr; rw [List.length_cons, Nat.mul_succ]; lia
theorem backPs_len {L : List (List Int)} (ps : List Nat) : ∀ {bk : List (List Int)}, (ps.foldl (backP L) bk).length = bk.length := by
  induction ps with
  | nil => intro bk; rfl
  | cons p ps ih => intro bk; rw [List.foldl_cons, ih, backP, backs_len]
section
variable {prog : Program} {w : World} {b : Heap} {k n m : Nat} {R T : List (List Int)}

inductive TRep (n : Nat) (σ₀ : Sig) (rl : List Value) (f : List (Addr × Obj) → List (Addr × Obj)) (st : List (List Int)) (z' : Heap) (σ' : Sig) (led' : List (Addr × Obj)) : Prop
  | mk (es : σ' = σ₀) (hl : st.length = n) (led : List (Addr × Obj)) (er : refs led = rl) (ra : RowsAre z' led (st.map avI)) (e : led' = f led)
theorem f_turned (B : Base w b) {L : List (List Int)} (H : Ways n L) : FnLL prog w b (k + 1) (.ref 33) [.list (L.map rowA)] ((turnedF L).map avI) := by
  have n5 := H.n5
  have hl := H.len
  refine fn_bodyLL B rfl rfl (by kernel_rfl) rfl rfl rfl rfl rfl rfl (ps := [Str.ofString "links"]) rfl (bind1 fun _ => rfl) (by kernel_rfl) fun base z₀ env A s Q' Rm S h => ?_
  refine ex_assignCLL L rowA (fun _ => []) S Rm (ev_name (by rfl)) src_list (sz_ok (by lia)) (fun r hr => ev_list evs_nil) rfl (by kernel_rfl) (by rfl) fun dB mB led₀ z₁ h₁ tk₁ S₁ r₁ l₁ => ?_
  have e₁ : L.map (fun _ => ([] : List AV)) = (List.replicate n ([] : List Int)).map avI := by
    rw [List.map_const', hl]; simp [avI]
  rw [e₁] at r₁
  rw [List.append_nil] at S₁
  generalize hrl : refs led₀ = rl at S₁
  let σ₀ : Sig := [(Str.ofString "back", .val (.ref dB)), (Str.ofString "links", .list (L.map rowA))]
  refine ex_forS (s := (sh s h₁ tk₁)) (List.range n) (fun i : Nat => AV.int i) (backP L) (List.replicate n []) (TRep n σ₀ rl fun led => (dB, lstO rl mB) :: (led ++ [])) σ₀ S₁ Rm
    (ev_range1 B (by rfl) (ev_len1 B (by rfl) (ev_name (by rfl)) (n := n) (by simp [hl]) (by lia))) (src_rng (by lia)) (by decide) (fun z' lz => ⟨rfl, by simp, led₀, hrl, r₁.le lz, by rw [List.append_nil]⟩) ?_ ?_
  · rintro i p st z₂ h₂ tk₂ σ₂ led₂ I oI hp hst ⟨rfl, hsl, led, hrf, hrw, rfl⟩ lz₂ S₂
    have hpi : p = i := by
      have := hp
      rw [List.getElem?_range (by have := (List.getElem?_eq_some_iff.mp hp).1; simpa using this)] at this
      exact (Option.some.inj this).symm
    subst hpi
    have hpn : p < n := List.mem_range.mp (List.mem_of_getElem? hp)
    have hpl : p < L.length := by lia
    have hrow : L.getD p [] = L[p] := by rw [List.getD_eq_getElem?_getD, List.getElem?_eq_getElem hpl]; rfl
    have hmem : L[p] ∈ L := List.getElem_mem hpl
    have hb0 : ∀ r ∈ st, r.length ≤ 0 + 25 * ((List.range n).take p).length := by
      rw [hst]; exact backPs_wd H.wd _ (fun r hr => by rw [(List.mem_replicate.mp hr).2]; simp)
    let σ₁ : Sig := [(Str.ofString "place", .int p), (Str.ofString "back", .val (.ref dB)), (Str.ofString "links", .list (L.map rowA))]
    unfold backP
    rw [hrow]
    have S₂' := S₂.perm (led' := (dB, lstO rl mB) :: (led ++ [(I, oI)])) (by
      rw [List.append_nil]
      refine (List.Perm.swap _ _ _).trans (.cons _ ?_)
      exact (List.perm_append_comm (l₁ := [(I, oI)]) (l₂ := led)))
    refine ex_forS (s := (sh s h₂ tk₂)) L[p] AV.int (backS p) st (TRep n σ₁ rl fun led => (dB, lstO rl mB) :: (led ++ [(I, oI)])) σ₁ S₂' Rm
      (ev_item (xs := L.map rowA) (ev_name (by rfl)) (ev_name (by rfl)) (by lia) (by lia) (mapgetL hpl)) src_list (by decide) (fun z' lz => ⟨rfl, hsl, led, hrf, hrw.le lz, rfl⟩) ?_ ?_
    · rintro j g st' z₃ h₃ tk₃ σ₃ led₃ I₂ oI₂ hg hst' ⟨rfl, hsl', led', hrf', hrw', rfl⟩ lz₃ S₃
      have hgr := H.rng _ hmem g (List.mem_of_getElem? hg)
      have hgn : g.toNat < st'.length := by lia
      obtain ⟨pre, d, us, nn, post, e1, e2, e3, e4⟩ := hrw'.split (i := g.toNat) (xs := avI st'[g.toNat]) (by simp [hgn])
      subst e1
      have S₃' := S₃.re (led' := ((I₂, oI₂) :: (dB, lstO rl mB) :: pre) ++ (d, lstO us nn) :: (post ++ [(I, oI)]))
      have eB : h₃.get? dB = some (lstO rl mB) := S₃'.at (by simp)
      have hrd : rl[g.toNat]? = some (.ref d) := by rw [← hrf', refs]; simp [← e2]
      have hul : us.length = st'[g.toNat].length := by have := e3.length; simpa using this
      have hbd : st'[g.toNat].length ≤ 200 := by
        have := backs_wd (p := (p : Int)) (L[p].take j) hb0 st'[g.toNat] (by rw [← hst']; exact List.getElem_mem hgn)
        have h5 := H.wd _ hmem
        simp only [List.length_take, List.length_range] at this
        lia
      refine ex_appendG (s := (sh s h₃ tk₃)) ((I₂, oI₂) :: (dB, lstO rl mB) :: pre) S₃' (sees_list (x := Str.ofString "back") (xs := rl.map AV.val) (by rfl) eB (reps_vals rl) sees_refl) Rm
        (ev_item (xs := rl.map AV.val) (ev_name (by rfl)) (ev_name (a := .int g) (by rfl)) hgr.1 (by lia) (mapget hrd)) (ev_name (a := .int p) (by rfl)) (sz_ok (by lia)) fun v mm z₄ h₄ tk₄ S₄ l₄ r₄ => ?_
      refine ex_nil ⟨rfl, z₄, h₄, tk₄, σ₁, (dB, lstO rl mB) :: ((pre ++ (d, lstO (us ++ [v]) mm) :: post) ++ [(I, oI)]), rfl, l₄, ?_, rfl, by rw [backS_len]; exact hsl', pre ++ (d, lstO (us ++ [v]) mm) :: post, ?_, ?_, rfl⟩
      · exact (S₄.cut σ₁).re
      · rw [← hrf']; simp [refs]
      · have := e4 (us ++ [v]) mm (avI (st'[g.toNat] ++ [(p : Int)])) z₄ l₄ (by
          rw [avI, List.map_append]
          exact (e3.le l₄).append (.cons r₄ .nil))
        have e5 : (backS p st' g).map avI = (st'.map avI).set g.toNat (avI (st'[g.toNat] ++ [(p : Int)])) := by
          unfold backS
          rw [List.getD_eq_getElem?_getD, List.getElem?_eq_getElem hgn, List.map_set]; rfl
        rw [e5]; exact this
    · rintro z₃ h₃ tk₃ σ₃ led₃ ⟨rfl, hsl', led', hrf', hrw', rfl⟩ lz₃ S₃
      refine ex_nil ⟨rfl, z₃, h₃, tk₃, σ₀, (dB, lstO rl mB) :: (led' ++ []), rfl, lz₃, (S₃.cut σ₀).perm ?_, rfl, hsl', led', hrf', hrw', rfl⟩
      rw [List.append_nil]
      exact ((List.perm_append_comm (l₁ := led') (l₂ := [(I, oI)])).cons _).trans (List.Perm.swap _ _ _)
  · rintro z₂ h₂ tk₂ σ₂ led₂ ⟨rfl, hsl, led, hrf, hrw, rfl⟩ lz₂ S₂
    rw [List.append_nil] at S₂
    subst hrf
    refine ex_cons (wpAny_Return_some (name_ S₂.X (by rfl) (fun v r => ?_)))
    rw [r.val_inv]
    have e : (List.range n).foldl (backP L) (List.replicate n []) = turnedF L := by rw [turnedF, hl]
    rw [e] at hrw
    exact h dB mB led z₂ h₂ tk₂ (S₂.weak sub_nil) hrw
end
end Mine
end
section
set_option maxRecDepth 100000
open PySem PySem.W PyProof.Rows PySem.Calls PySem.Spec PySem.SeqAt
namespace Mine
theorem Grow.adds {z h z' h' : Heap} : ∀ {led : List (Addr × Obj)}, Grow z h z' h' → (∀ p ∈ led, h'.get? p.1 = some p.2 ∧ h.get? p.1 = none) → ∃ z'', Grow z h z'' h' ∧ Le z' z'' ∧ ∀ p ∈ led, z''.get? p.1 = some p.2
  | [], g, _ => ⟨z', g, Le.rfl, fun _ hp => nomatch hp⟩
  | q :: led, g, hl => by
    obtain ⟨z₁, g₁, l₁, h₁⟩ := Grow.adds g (led := led) fun p hp => hl p (.tail _ hp)
    obtain ⟨z₂, g₂, l₂, h₂⟩ := g₁.add (hl q (.head _)).2 (hl q (.head _)).1
    refine ⟨z₂, g₂, l₁.trans l₂, fun p hp => ?_⟩
    rcases List.mem_cons.mp hp with rfl | hp
    · exact h₂
    · exact l₂ _ _ (h₁ p hp)
section
variable {prog : Program} {w : World} {b : Heap} {k : Nat} {ns : List (Str × NameKind)} {σ : Sig}
theorem froze {z h z' h' : Heap} {l : Addr} {vs : List Value} {n : Nat} {led : List (Addr × Obj)} {xss : List (List AV)} (g : Grow z h z' h') (n1 : h.get? l = none) (e1 : h'.get? l = some (lstO vs n)) (r : Rows2 h z' h' vs led xss) :
    ∃ z'', Grow z h z'' h' ∧ Rep z'' (.ref l) (.list (xss.map AV.list)) := by
  obtain ⟨z₁, g₁, l₁, h₁⟩ := g.adds fun p hp => ⟨(r.at' p hp).1, (r.at' p hp).2.2⟩
  obtain ⟨z₂, g₂, l₂, h₂⟩ := g₁.add n1 e1
  refine ⟨z₂, g₂, .list h₂ ?_⟩
  rw [r.vs]
  exact r.rows.reps (l₁.trans l₂) fun p hp => l₂ _ _ (h₁ p hp)
theorem Ev.of_LL {e : Expr} {xss : List (List AV)} (H : EvLL prog w b k ns σ e xss) : Ev prog w b k ns σ e (.list (xss.map AV.list)) := fun env z A s Q E X R h =>
  H env z A s Q E X R fun l vs n led z' h' tk g n1 n2 e1 r q => by
    obtain ⟨z'', g', r'⟩ := froze g n1 e1 r
    exact h _ z'' h' tk g' r'
end
section
variable {prog : Program} {w : World} {b : Heap} {k n m : Nat} {R T : List (List Int)}
theorem Aut.ways (H : Aut n m R T) : Ways n (linksF R) := by
  have n5 := H.n5
  have m3 := H.m3
  refine ⟨H.n5, by rw [linksF, List.length_map, H.hR], fun r hr => ?_, fun r hr g hg => ?_⟩
  · obtain ⟨q, hq, rfl⟩ := List.mem_map.mp hr
    have := List.length_filter_le (· != (-1 : Int)) q
    have := H.row q hq
    lia
  · obtain ⟨q, hq, rfl⟩ := List.mem_map.mp hr
    obtain ⟨h1, h2⟩ := List.mem_filter.mp hg
    have := H.ent q hq g h1
    have h2 : g ≠ -1 := by simpa using h2
    rw [linksF, List.length_map, H.hR]
    lia
theorem gv_spread (w : World) : GV w (Str.ofString "spread") (.ref 28) := gv w (by kernel_rfl)
theorem gv_turned (w : World) : GV w (Str.ofString "turned") (.ref 33) := gv w (by kernel_rfl)
theorem gv_reachable (w : World) : GV w (Str.ofString "reachable") (.ref 94) := gv w (by kernel_rfl)
theorem gv_alive (w : World) : GV w (Str.ofString "alive") (.ref 99) := gv w (by kernel_rfl)
theorem keep_ (w : World) {f : Addr} (h : keepIn (KK w) (.ref f) = true) : Callable w (.ref f) := .inr (.inr h)
theorem ev_links (B : Base w b) (H : Aut n m R T) {ns : List (Str × NameKind)} {σ : Sig} {v : Expr} {ap pos : Pos} (hv : Ev prog w b (k + 1) ns σ v (dfaA R T))
    (hm : ∀ env, ∃ pl, eval (.Call (.Attribute v (Str.ofString "links") ap) [] [] pos) env = (do
      let ov ← eval v env
      standAt ap.atName
      let (f, first) ← holding [ov] (getMethod ov (Str.ofString "links") pl)
      callWith pos f first (backTo pos (starEach [] env)) []) := by intro _; exact ⟨_, rfl⟩) :
    Ev prog w b (k + 1) ns σ (.Call (.Attribute v (Str.ofString "links") ap) [] [] pos) (.list ((linksF R).map rowA)) :=
  ev_meth0 B hv (f := 73) (by kernel_rfl) (by kernel_rfl) (by kernel_rfl) (by kernel_rfl) (by intros; kernel_rfl) (.of_L (f_links B H)) hm
theorem f_reachable (B : Base w b) (H : Aut n m R T) : FnL prog w b (k + 2) (.ref 94) [dfaA R T] (avB (spreadF (linksF R) [0])) := by
  refine fn_retL B rfl rfl (by kernel_rfl) rfl rfl rfl rfl rfl rfl (ps := [Str.ofString "dfa"]) rfl (bind1 fun _ => rfl) (by kernel_rfl) ?_
  have W := H.ways
  have hl := W.len
  have n1 := H.n1
  exact ev_callL B (ev_glob B (by rfl) (gv_spread w) (fun z => .val _)) (keep_ w (by kernel_rfl)) (evs_cons (ev_links B H (ev_name (by rfl))) (evs_cons (Ev.of_L (ev_list (evs_cons (ev_int (i := 0)) evs_nil))) evs_nil))
    (f_spread B W (seeds := [0]) (fun g hg => by rw [List.mem_singleton.mp hg]; lia) (by decide))

theorem turned_ways {L : List (List Int)} (H : Ways n L) (h5 : ∀ r ∈ L, r.length ≤ 5) : (turnedF L).length = n ∧ (∀ r ∈ turnedF L, r.length ≤ 25) ∧ ∀ r ∈ turnedF L, ∀ g ∈ r, 0 ≤ g ∧ g < n := by
  have n5 := H.n5
  refine ⟨by rw [turnedF, backPs_len, List.length_replicate, H.len], fun r hr => ?_, ?_⟩
  · have := backPs_wd h5 _ (M := 0) (fun r hr => by rw [(List.mem_replicate.mp hr).2]; simp) r hr
    rw [List.length_range, H.len] at this
    lia
  · have key : ∀ (p : Int), 0 ≤ p ∧ p < n → ∀ (gs : List Int) (bk : List (List Int)), (∀ r ∈ bk, ∀ g ∈ r, 0 ≤ g ∧ g < n) → ∀ r ∈ gs.foldl (backS p) bk, ∀ g ∈ r, 0 ≤ g ∧ g < n := by
      intro p hp gs
      induction gs with
      | nil => intro bk h; exact h
      | cons g gs ih =>
        intro bk h
        refine ih _ fun r hr => ?_
        unfold backS at hr
        rcases List.mem_or_eq_of_mem_set hr with hr | rfl
        · exact h r hr
        · intro x hx
          rcases List.mem_append.mp hx with hx | hx
          · rw [List.getD_eq_getElem?_getD] at hx
            cases e : bk[g.toNat]? with
            | none => rw [e] at hx; simp at hx
            | some q => rw [e] at hx; exact h q (List.mem_of_getElem? e) x hx
          · rw [List.mem_singleton.mp hx]; exact hp
    have key2 : ∀ (ps : List Nat) (bk : List (List Int)), (∀ p ∈ ps, p < n) → (∀ r ∈ bk, ∀ g ∈ r, 0 ≤ g ∧ g < n) → ∀ r ∈ ps.foldl (backP L) bk, ∀ g ∈ r, 0 ≤ g ∧ g < n := by
      intro ps
      induction ps with
      | nil => intro bk _ h; exact h
      | cons p ps ih =>
        intro bk hp h
        have := hp p (.head _)
        exact ih _ (fun q hq => hp q (.tail _ hq)) (key p ⟨by lia, by lia⟩ _ _ h)
    exact key2 _ _ (fun p hp => by have := List.mem_range.mp hp; rw [H.len] at this; exact this) fun r hr => by rw [(List.mem_replicate.mp hr).2]; intro x hx; cases hx

noncomputable def aliveF (n : Nat) (R T : List (List Int)) : List Bool := spreadF (turnedF (linksF R)) ((tagged n T).map fun i : Nat => (i : Int))
theorem Aut.links5 (H : Aut n m R T) : ∀ r ∈ linksF R, r.length ≤ 5 := fun r hr => by
  have m3 := H.m3
  obtain ⟨q, hq, rfl⟩ := List.mem_map.mp hr
  have := List.length_filter_le (· != (-1 : Int)) q
  have := H.row q hq
  lia
theorem Aut.back (H : Aut n m R T) : Ways n (turnedF (linksF R)) := by
  obtain ⟨h1, h2, h3⟩ := turned_ways H.ways H.links5
  exact ⟨H.n5, h1, h2, fun r hr g hg => by rw [h1]; exact h3 r hr g hg⟩
theorem f_alive (B : Base w b) (H : Aut n m R T) : FnL prog w b (k + 2) (.ref 99) [dfaA R T] (avB (aliveF n R T)) := by
  have n5 := H.n5
  have W := H.back
  have hl := W.len
  have rg : ∀ j : Nat, j ≤ 100 → ∀ z v, Rep z v (.rng 0 j) → Src z v ((List.range j).map fun i : Nat => AV.int i) := fun j hj => src_rng (by lia)
  refine fn_bodyL B rfl rfl (by kernel_rfl) rfl rfl rfl rfl rfl rfl (ps := [Str.ofString "dfa"]) rfl (bind1 fun _ => rfl) (by kernel_rfl) fun base z₀ env A s Q' Rm S h => ?_
  refine ex_assignCI (List.range n) (fun i : Nat => AV.int i) (fun i => !(T.getD i []).isEmpty) (fun i : Nat => AV.int i) S Rm (ev_range1 B (by rfl) (ev_states B H (ev_name (by rfl)))) (rg n (by lia)) (sz_ok (by simp; lia)) (fun i hi => ?_) (fun i hi _ => ev_name (by rfl)) rfl (by kernel_rfl) (by rfl) fun dt vs nn z₁ h₁ tk₁ S₁ r₁ => ?_
  · exact evt_tag B H (List.mem_range.mp hi) (ev_name (by rfl)) (ev_name (by rfl))
  have e₁ : ((List.range n).filter fun i => !(T.getD i []).isEmpty).map (fun i : Nat => AV.int i) = avI ((tagged n T).map fun i : Nat => (i : Int)) := by simp [avI, tagged]
  rw [e₁] at r₁
  obtain ⟨z₂, l₂, S₂⟩ := St.frz [(Str.ofString "tagged", rowA ((tagged n T).map fun i : Nat => (i : Int))), (Str.ofString "dfa", dfaA R T)] S₁ r₁
  have ht : (tagged n T).length ≤ n := by have := List.length_filter_le (fun i => !(T.getD i []).isEmpty) (List.range n); rw [List.length_range] at this; exact this
  have et : (.list ((turnedF (linksF R)).map rowA) : AV) = .list (((turnedF (linksF R)).map avI).map AV.list) := by rw [List.map_map]; rfl
  refine ex_retL (s := (sh s h₁ tk₁)) S₂ Rm (xs := avB (aliveF n R T)) (ev_callL B (ev_glob B (by rfl) (gv_spread w) (fun z => .val _)) (keep_ w (by kernel_rfl))
    (evs_cons (a := .list ((turnedF (linksF R)).map rowA)) ?_ (evs_cons (ev_name (by rfl)) evs_nil)) (f_spread B W (fun g hg => ?_) (by rw [List.length_map]; lia))) fun l vs m z' h' tk S' r => ?_
  · rw [et]
    exact Ev.of_LL (ev_callLL B (ev_glob B (by rfl) (gv_turned w) (fun z => .val _)) (keep_ w (by kernel_rfl)) (evs_cons (ev_links B H (ev_name (by rfl))) evs_nil) (f_turned B H.ways))
  · obtain ⟨i, hi, rfl⟩ := List.mem_map.mp hg
    have := List.mem_range.mp (List.mem_filter.mp hi).1
    lia
  · obtain ⟨e1, e2, e3, _⟩ := S'.ld (l, lstO vs m) (.head _)
    exact h l vs m z' h' tk S'.G e3 e2 e1 r
theorem aliveF_len (H : Aut n m R T) : (aliveF n R T).length = n := by rw [aliveF, spreadF, List.length_map, List.length_range]; exact H.back.len
theorem avB_get {l : List Bool} {i : Nat} (h : i < l.length) : (avB l)[i]? = some (.bool (l.getD i false)) := by simp [h]
theorem f_is_nothing (B : Base w b) (H : Aut n m R T) : FnR prog w b (k + 3) (.ref 111) [dfaA R T] (.bool (!(aliveF n R T).getD 0 false)) := by
  refine fn_ret B rfl rfl (by kernel_rfl) rfl rfl rfl rfl rfl rfl (ps := [Str.ofString "dfa"]) rfl (bind1 fun _ => rfl) (by kernel_rfl) ?_
  have n1 := H.n1
  exact ev_not (ev_item (xs := avB (aliveF n R T)) (Ev.of_L (ev_callL B (ev_glob B (by rfl) (gv_alive w) (fun z => .val _)) (keep_ w (by kernel_rfl)) (evs_cons (ev_name (by rfl)) evs_nil) (f_alive B H))) (ev_int (i := 0)) (by decide) (by decide) (avB_get (by rw [aliveF_len H]; exact n1)))
end
end Mine
end
section
set_option maxRecDepth 100000
open PySem PySem.W PyProof.Rows PySem.Calls PySem.Spec PySem.SeqAt
namespace Mine
section
variable {prog : Program} {w : World} {b : Heap} {k : Nat} {ns : List (Str × NameKind)} {σ : Sig}

theorem bools_are : ∀ l : List Bool, LSm.BoolsAre (l.map Value.bool) l
  | [] => .nil
  | c :: l => .cons c (bools_are l)
/-- Dfa(rows, tags) -/
theorem f_dfa (B : Base w b) {rs ts : List AV} : FnR prog w b (k + 2) (.ref 83) [.list rs, .list ts] (.dfa (.list rs) (.list ts)) := by
  intro z A s Q E vs F bz lz R rv h
  replace rv := rv.cns; obtain ⟨vr, _, rfl, hr, rv⟩ := rv
  replace rv := rv.cns; obtain ⟨vt, _, rfl, ht, rv⟩ := rv
  cases rv
  obtain ⟨hh, gg, dd, tt, os⟩ := s
  have bh : Le b hh := bz.trans lz
  have X : (KK w).In hh := B.K.keeps bh
  have k1 : Le hh ((hh.push emptyDict).push (instObj cDfa hh.objs.size)) := (Le.rfl.push _).push _
  have hx : ((hh.push emptyDict).push (instObj cDfa hh.objs.size)).get? (hh.objs.size + 1) = some (instObj cDfa hh.objs.size) := by
    have := Heap.get?_push_size (hh.push emptyDict) (o := instObj cDfa hh.objs.size) rfl
    rwa [Heap.size_push] at this
  have hd : ((hh.push emptyDict).push (instObj cDfa hh.objs.size)).get? hh.objs.size = some emptyDict := Heap.get?_push_of_some _ (Heap.get?_push_size hh rfl)
  have sz : ((hh.push emptyDict).push (instObj cDfa hh.objs.size)).objs.size = hh.objs.size + 2 := by rw [Heap.size_push, Heap.size_push]
  refine wpAny_call (make_core (C := cDfa) (init := .ref 47) (makes_of X (by kernel_rfl)) (looks_findIn X (by kernel_rfl)) (fun self => bind_fn X self (by kernel_rfl)) (.inl rfl) ?_)
  generalize hH : (hh.push emptyDict).push (instObj cDfa hh.objs.size) = H at *
  have bH := bh.trans k1
  have hdep : (A.under (.builtin "type.__call__" ⟨[.ref cDfa, vr, vt], []⟩)).depth < recursionLimit := by
    have := R.dep
    have hw : Code.weight (.builtin "type.__call__" ⟨[.ref cDfa, vr, vt], []⟩) = 1 := by kernel_rfl
    show A.depth + Code.weight (.builtin "type.__call__" ⟨[.ref cDfa, vr, vt], []⟩) < recursionLimit
    rw [hw]; lia
  refine codeAny_call_cells (fd := _) (o := _) (body := _) (binds := [(Str.ofString "self", .ref (hh.objs.size + 1)), (Str.ofString "rows", vr), (Str.ofString "tags", vt)]) hdep
    (bH _ _ (B.K 47 _ rfl)) rfl (B.nolimit.keeps bH) (codeRec_of (B.K.keeps bH) (by kernel_rfl)) rfl rfl rfl (fun x hx => ?_) (fun s₁ x => ?_) rfl rfl rfl
  · simp only [List.mem_cons, List.not_mem_nil, or_false] at hx
    rcases hx with rfl | rfl | rfl <;> exact .inl rfl
  · obtain ⟨h₁, tk₁, rfl, keep⟩ := x.done
    have hN := x.toInCall.ns
    generalize henv : callEnvC _ _ 47 = env at *
    have hloc : env.locals = hh.objs.size + 2 := by rw [← henv]; exact sz
    have keep : Le H h₁ := keep
    have keyd : env.scope.kind = .function := by rw [← henv]; rfl
    have names : ∀ y, env.kindOf y = ([(Str.ofString "self", NameKind.local), (Str.ofString "rows", NameKind.local), (Str.ofString "tags", NameKind.local)] : List (Str × NameKind)).lookup y := fun y => by rw [← henv]; rfl
    let h₀ : Heap := mask H fun c => c != hh.objs.size
    have K₀ : (KK w).In h₀ := fun c o e => by
      have := bH _ _ (B.K c o e)
      rw [mask_get]
      have hc : c < hh.objs.size := Heap.lt_size (X c o e)
      rw [if_pos (by simpa using Nat.ne_of_lt hc)]; exact this
    have hk₀ : Le h₀ h₁ := fun c o e => by
      rw [mask_get] at e
      split at e
      · exact keep _ _ e
      · cases e
    have hs₀ : h₀.objs.size ≤ env.locals := by
      rw [hloc]
      show (mask H _).objs.size ≤ _
      unfold mask
      simp only [Array.size_mapIdx]
      exact Nat.le_of_eq sz
    have F₁ := Fr.mk hN hk₀ hs₀
    have N₁ : News h₀ env.locals h₁ [(hh.objs.size, dictOf [] 0)] := fun p hp => by
      rw [List.mem_singleton.mp hp]
      refine ⟨keep _ _ hd, ?_, ?_⟩
      · rw [hloc]; show (hh.objs.size : Nat) ≠ hh.objs.size + 2; lia
      · rw [mask_get]; simp
    have x₀ : ∀ h', Fr h₀ env.locals h' (bindL env.kindOf [(Str.ofString "self", Value.ref (hh.objs.size + 1)), (Str.ofString "rows", vr), (Str.ofString "tags", vt)] fun _ => none) → h'.get? (hh.objs.size + 1) = some (instObj cDfa hh.objs.size) := fun h' F' => F'.keep _ _ (by
      rw [mask_get, if_pos (by simp)]; exact hx)
    have n_self : env.kindOf (Str.ofString "self") = some .local := names _
    have n_rows : env.kindOf (Str.ofString "rows") = some .local := names _
    have n_tags : env.kindOf (Str.ofString "tags") = some .local := names _
    have v_self : (bindL env.kindOf [(Str.ofString "self", Value.ref (hh.objs.size + 1)), (Str.ofString "rows", vr), (Str.ofString "tags", vt)] fun _ => none) (Str.ofString "self") = some (.ref (hh.objs.size + 1)) := bindL_get _ _ n_self _ _ _ (show List.Nodup [Str.ofString "self", Str.ofString "rows", Str.ofString "tags"] by decide) rfl
    have v_rows : (bindL env.kindOf [(Str.ofString "self", Value.ref (hh.objs.size + 1)), (Str.ofString "rows", vr), (Str.ofString "tags", vt)] fun _ => none) (Str.ofString "rows") = some vr := bindL_get _ _ n_rows _ _ _ (show List.Nodup [Str.ofString "self", Str.ofString "rows", Str.ofString "tags"] by decide) rfl
    have v_tags : (bindL env.kindOf [(Str.ofString "self", Value.ref (hh.objs.size + 1)), (Str.ofString "rows", vr), (Str.ofString "tags", vt)] fun _ => none) (Str.ofString "tags") = some vt := bindL_get _ _ n_tags _ _ _ (show List.Nodup [Str.ofString "self", Str.ofString "rows", Str.ofString "tags"] by decide) rfl
    refine ex_cons (plainObj_wpAny_Assign_Attribute (wpAny_Name (wpAny_loadName_local keyd n_rows F₁.ns v_rows (wpAny_Name (wpAny_loadName_local keyd n_self F₁.ns v_self ?_) (by decide))) (by decide)))
    refine set_dict (dx := hh.objs.size) F₁ K₀ N₁ (ox := instObj cDfa hh.objs.size) (C := cDfa) (es := []) (n := 0) ⟨x₀ _ F₁, rfl, rfl, (N₁ _ (.head _)).1⟩ rfl (by kernel_rfl) (by kernel_rfl) (by kernel_rfl) (by kernel_rfl) (by kernel_rfl) rfl (.head (fun _ hp => nomatch hp)) (by show 1 ≤ 1000; decide) fun h₂ F₂ N₂ => ?_
    refine ex_cons (plainObj_wpAny_Assign_Attribute (wpAny_Name (wpAny_loadName_local keyd n_tags F₂.ns v_tags (wpAny_Name (wpAny_loadName_local keyd n_self F₂.ns v_self ?_) (by decide))) (by decide)))
    refine set_dict (dx := hh.objs.size) F₂ K₀ N₂ (ox := instObj cDfa hh.objs.size) (C := cDfa) ⟨x₀ _ F₂, rfl, rfl, (N₂ _ (.head _)).1⟩ rfl (by kernel_rfl) (by kernel_rfl) (by kernel_rfl) (by kernel_rfl) (by kernel_rfl) rfl (.head (fun _ hp => nomatch hp)) (by show 2 ≤ 1000; decide) fun h₃ F₃ N₃ => ?_
    refine wpAny_execs_nil ⟨rfl, ?_⟩
    have l₃ : Le hh h₃ := fun c o e => F₃.keep c o (by
      rw [mask_get, if_pos (by simpa using Nat.ne_of_lt (Heap.lt_size e))]; exact k1 _ _ e)
    obtain ⟨h1, h2, t1, t2, n, e₃⟩ : ∃ h1 h2 t1 t2 n, h₃.get? hh.objs.size = some (dfaDict h1 h2 t1 t2 vr vt n) := ⟨_, _, _, _, _, (N₃ _ (.head _)).1⟩
    have ex := x₀ _ F₃
    obtain ⟨z₄, g₄, l₄, he₄⟩ := (Grow.step lz l₃).adds (led := [(hh.objs.size + 1, instObj cDfa hh.objs.size), (hh.objs.size, dfaDict h1 h2 t1 t2 vr vt n)]) (fun p hp => by
      simp only [List.mem_cons, List.not_mem_nil, or_false] at hp
      rcases hp with rfl | rfl
      · exact ⟨ex, get_fresh _ (Nat.le_succ _)⟩
      · exact ⟨e₃, get_fresh _ (Nat.le_refl _)⟩)
    refine h _ z₄ h₃ _ g₄ (.dfa (he₄ _ (.head _)) (he₄ _ (.tail _ (.head _))) (hr.le g₄.zz) (ht.le g₄.zz))

theorem fn_any {l : List Bool} : FnR prog w b k (.builtin "any") [.list (avB l)] (.bool (l.any id)) := fun z A s Q E vs F bz lz R r h => by
  replace r := r.cns; obtain ⟨_, _, rfl, r, t⟩ := r
  cases t.nl
  replace r := r.lst; obtain ⟨a, vs, n, rfl, e, r⟩ := r
  have hb : LSm.BoolsAre vs l := r.boolsAre ▸ bools_are l
  have hl := isList_of (lz _ _ e)
  have hlt : a < s.heap.objs.size := Heap.lt_size (lz _ _ e)
  refine call_any_walk (wpAny_pyIter_list hl ?_)
  refine ⟨s.heap.objs.size, [s.heap.objs.size, a], [s.heap.objs.size], vs.toArray.size, _, _, fun i => (l[i]?).getD false, rfl, Walks.list (A := A.in1) R.hand _ a (Nat.ne_of_lt hlt) vs.toArray,
    ⟨⟨_, Heap.get?_push_size _ rfl, rfl, rfl⟩, hl.push _⟩, fun i v s' Q' E' hP hQ => ?_, fun h' tk hk => ?_⟩
  · obtain ⟨c, e, rfl⟩ := hb.get i v (by simpa using hP)
    simp only [e, Option.getD_some] at hQ
    exact wpAny_truthy_bool hQ
  · have e : ((List.range vs.toArray.size).any fun i => (l[i]?).getD false) = l.any id := by
      rw [List.size_toArray, hb.length]; exact LSm.range_any l
    rw [e]
    exact h _ z h' tk (Grow.step lz (LSm.kept_iter hk)) (.bool _)
theorem ev_not_tup {e : Expr} {pos : Pos} {xs : List AV} (H : Ev prog w b k ns σ e (.tup xs)) (hsz : (xs.length : Int) < 2 ^ 63) : Ev prog w b k ns σ (.UnaryOp .Not e pos) (.bool xs.isEmpty) :=
  fun env z A s Q E X R h => UnaryOp_ (H env z A s _ E X R fun v z' h' tk g r => by
    cases r with
    | @tup a vs xs' e r =>
      refine not_of (truthy_tuple (e.keeps g.zh) (by have := r.length; simp; lia) ?_)
      have : (!(!vs.toArray.isEmpty)) = xs.isEmpty := by cases r <;> simp
      rw [this]; exact h _ z' h' _ g (.bool _))
end
end Mine
end
section
set_option maxRecDepth 100000
open PySem PySem.W PyProof.Rows PySem.Calls PySem.Spec PySem.SeqAt
namespace Mine
noncomputable def fillG (n : Nat) (g : Int) : Int := if g = -1 then n else g
noncomputable def fillR (n : Nat) (R : List (List Int)) : List (List Int) := R.map fun r => r.map (fillG n)
noncomputable def hasDead (n : Nat) (R : List (List Int)) : Bool := ((fillR n R).map fun r => r.any (· == (n : Int))).any id
noncomputable def compR (n m : Nat) (R : List (List Int)) : List (List Int) := if hasDead n R then fillR n R ++ [List.replicate m (n : Int)] else fillR n R
noncomputable def compT (n : Nat) (R T : List (List Int)) : List (List Int) := if hasDead n R then T ++ [[]] else T
noncomputable def flipT (T : List (List Int)) : List (List Int) := T.map fun t => if t.isEmpty then [0] else []
section
variable {prog : Program} {w : World} {b : Heap} {k n m : Nat} {R T : List (List Int)}
theorem gv_Dfa (w : World) : GV w (Str.ofString "Dfa") (.ref 83) := gv w (by kernel_rfl)
theorem gv_completed (w : World) : GV w (Str.ofString "completed") (.ref 104) := gv w (by kernel_rfl)
theorem gv_sign_of (w : World) : GV w (Str.ofString "sign_of") (.ref 135) := gv w (by kernel_rfl)
theorem ev_classes (B : Base w b) (H : Aut n m R T) {ns : List (Str × NameKind)} {σ : Sig} {v : Expr} {ap pos : Pos} (hv : Ev prog w b (k + 1) ns σ v (dfaA R T))
    (hm : ∀ env, ∃ pl, eval (.Call (.Attribute v (Str.ofString "class_count") ap) [] [] pos) env = (do
      let ov ← eval v env
      standAt ap.atName
      let (f, first) ← holding [ov] (getMethod ov (Str.ofString "class_count") pl)
      callWith pos f first (backTo pos (starEach [] env)) []) := by intro _; exact ⟨_, rfl⟩) :
    Ev prog w b (k + 1) ns σ (.Call (.Attribute v (Str.ofString "class_count") ap) [] [] pos) (.int m) :=
  ev_meth0 B hv (f := 54) (by kernel_rfl) (by kernel_rfl) (by kernel_rfl) (by kernel_rfl) (by intros; kernel_rfl) (f_class_count B H) hm

theorem ret_dfa (B : Base w b) {ns : List (Str × NameKind)} {base z₀ : Heap} {env : Env} {A : Around} {s : Shared} {σ₁ : Sig} {dt dr : Addr} {R' T' : List (List Int)} {vr' vt' : List Value} {m₁ m₂ : Nat} {z' h' : Heap} {tk' : Nat} {rest : List Stmt} {Q : Flow → Shared → Prop} {E : Value → Shared → Prop} {p₁ p₂ p₃ p₄ p₅ : Pos} (Rm : Room A (k + 2))
    (hk : ns.lookup (Str.ofString "Dfa") = some .globalImplicit) (e1 : σ₁.lookup (Str.ofString "tags") = some (.val (.ref dt))) (e2 : σ₁.lookup (Str.ofString "rows") = some (.val (.ref dr)))
    (S' : St w b ns base z₀ env z' h' σ₁ [(dt, lstO vt' m₁), (dr, lstO vr' m₂)]) (rr : Reps z' vr' (R'.map rowA)) (rt : Reps z' vt' (T'.map tagA))
    (hq : ∀ v z' h' tk, Grow z₀ base z' h' → Rep z' v (dfaA R' T') → Q (.ret v) (sh s h' tk)) :
    wpAny (model prog w) A (execs (.Return (some (.Call (.Name (Str.ofString "Dfa") p₁) [.Name (Str.ofString "rows") p₂, .Name (Str.ofString "tags") p₃] [] p₄)) p₅ :: rest) env) Q E (sh s h' tk') := by
  obtain ⟨z₄, l₄, S₄⟩ := St.frz [(Str.ofString "tags", .list (T'.map tagA)), (Str.ofString "rows", .val (.ref dr))] S' rt (.new e1 (.same e2 .nil))
  obtain ⟨z₅, l₅, S₅⟩ := St.frz [(Str.ofString "tags", .list (T'.map tagA)), (Str.ofString "rows", .list (R'.map rowA))] S₄ (rr.le l₄)
  exact ex_ret (s := (sh s h' tk')) S₅ Rm (ev_call B (ev_glob B hk (gv_Dfa w) (fun z => .val _)) (keep_ w (by kernel_rfl)) (evs_cons (ev_name (by rfl)) (evs_cons (ev_name (by rfl)) evs_nil)) (f_dfa B)) fun v z' h' tk S' r => hq v z' h' tk S'.G r

theorem f_completed (B : Base w b) (H : Aut n m R T) (n4 : n ≤ 4) : FnR prog w b (k + 3) (.ref 104) [dfaA R T] (dfaA (compR n m R) (compT n R T)) := by
  have n5 := H.n5
  have m3 := H.m3
  have hR := H.hR
  have hT := H.hT
  refine fn_body B rfl rfl (by kernel_rfl) rfl rfl rfl rfl rfl rfl (ps := [Str.ofString "dfa"]) rfl (bind1 fun _ => rfl) (by kernel_rfl) fun base z₀ env A s Q' Rm S h => ?_
  refine ex_assign S Rm (ev_states B H (ev_name (by rfl))) (by decide) fun z₁ h₁ tk₁ S₁ l₁ => ?_
  refine ex_assignCp (s := (sh s h₁ tk₁)) R rowA (fun r => rowA (r.map (fillG n))) S₁ Rm (ev_rows B (ev_name (by rfl))) src_list (sz_ok (by lia)) (fun r hr => ?_) rfl (by kernel_rfl) (by rfl) fun dr vr mr z₂ h₂ tk₂ S₂ r₂ => ?_
  · have h3 := H.row r hr
    refine Ev.of_L ?_
    rw [show avI (r.map (fillG n)) = r.map fun g => AV.int (fillG n g) by simp [avI]]
    refine ev_comp r AV.int _ (ev_name (by rfl)) src_list (sz_ok (by lia)) (fun g hg => ?_) rfl (by kernel_rfl)
    have e : AV.int (fillG n g) = if (g == -1) = true then AV.int n else AV.int g := by
      unfold fillG
      by_cases hc : g = -1 <;> simp [hc]
    rw [e]
    exact ev_ifexp (evt_cmp (ev_name (by rfl)) (ev_glob B (by rfl) (gv_DEAD w) (fun z => .int _ _)) cmp_eq) (fun _ => ev_name (by rfl)) fun _ => ev_name (by rfl)
  have e₂ : R.map (fun r => rowA (r.map (fillG n))) = (fillR n R).map rowA := by rw [fillR, List.map_map]; rfl
  rw [e₂] at r₂
  have hfl : (fillR n R).length = n := by rw [fillR, List.length_map, hR]
  refine ex_assignL (s := (sh s h₂ tk₂)) S₂ Rm (ev_callL B (ev_glob B (by rfl) (gv_list w) (fun z => .val _)) (.inr (.inl ⟨_, rfl⟩)) (evs_cons (ev_tags B (R := R.map rowA) (T := T.map tagA) (ev_name (by rfl))) evs_nil) (fn_list (sz_ok (by simp; lia)))) (by decide) fun dt vt mt z₃ h₃ tk₃ S₃ r₃ l₃ => ?_
  let σ₁ : Sig := [(Str.ofString "tags", .val (.ref dt)), (Str.ofString "rows", .val (.ref dr)), (Str.ofString "dead", .int n), (Str.ofString "dfa", dfaA R T)]
  have S₃ := S₃.cut σ₁
  have er := S₃.at (d := dr) (.tail _ (.head _))
  refine ex_if (s := (sh s h₃ tk₃)) S₃ (sees_list (x := Str.ofString "rows") (xs := (fillR n R).map rowA) (by rfl) er ((r₂.le l₃).le S₃.X.zh) sees_refl) Rm
    (evt_bool (c := hasDead n R) (ev_call B (ev_glob B (by rfl) (gv_any w) (fun z => .val _)) (.inl ⟨_, rfl⟩) (evs_cons (a := .list (avB ((fillR n R).map fun r => r.any (· == (n : Int))))) (Ev.of_L ?_) evs_nil) fn_any)) fun h₄ tk₄ S₄ l₄ => ?_
  · rw [avB, List.map_map]
    refine ev_comp (fillR n R) rowA _ (ev_name (by rfl)) src_list (sz_ok (by lia)) (fun r hr => ?_) rfl (by kernel_rfl)
    exact ev_cmp (ev_name (by rfl)) (ev_name (by rfl)) cmp_in
  · have hvr := r₂.length
    have hvt := r₃.length
    simp only [List.length_map] at hvr hvt
    cases hd : hasDead n R with
    | false =>
      refine ex_nil (ret_dfa B (R' := compR n m R) (T' := compT n R T) Rm (by rfl) (by rfl) (by rfl) S₄ ?_ ?_ fun v z' h' tk g r => h _ z' h' tk g r)
      · simpa [compR, hd] using r₂.le l₃
      · simpa [compT, hd] using r₃
    | true =>
      refine ex_append (s := (sh s h₄ tk₄)) [(dt, lstO vt mt)] S₄ Rm (by rfl) (a := rowA (List.replicate m (n : Int))) (Ev.of_L ?_) (sz_ok (by lia)) fun v₅ m₅ z₅ h₅ tk₅ S₅ l₅ r₅ => ?_
      · have e : avI (List.replicate m (n : Int)) = List.replicate (m : Int).toNat (AV.int n) := by simp [avI]
        rw [e]
        exact ev_lmul (ev_name (by rfl)) (ev_classes B H (ev_name (by rfl))) (by lia) (by lia)
      · refine ex_append (s := (sh s h₅ tk₅)) [] S₅ Rm (by rfl) (a := tagA []) (ev_tuple evs_nil) (sz_ok (by lia)) fun v₆ m₆ z₆ h₆ tk₆ S₆ l₆ r₆ => ?_
        refine ex_nil (ret_dfa B (R' := compR n m R) (T' := compT n R T) Rm (by rfl) (by rfl) (by rfl) S₆ ?_ ?_ fun v z' h' tk g r => h _ z' h' tk g r)
        · have := (((r₂.le l₃).le l₅).append (.cons r₅ .nil)).le l₆
          simpa [compR, hd] using this
        · have := ((r₃.le l₅).le l₆).append (.cons r₆ .nil)
          simpa [compT, hd] using this
theorem fillR_len (n : Nat) (R : List (List Int)) : (fillR n R).length = R.length := by simp [fillR]
theorem comp_aut (H : Aut n m R T) (n4 : n ≤ 4) : Aut (compR n m R).length m (compR n m R) (flipT (compT n R T)) ∧ (compR n m R).length ≤ n + 1 := by
  have n1 := H.n1
  have hR := H.hR
  have hT := H.hT
  have hF := fillR_len n R
  have fr : ∀ r ∈ fillR n R, r.length = m ∧ ∀ g ∈ r, 0 ≤ g ∧ g ≤ n ∧ (g = n → hasDead n R = true) := fun r hr => by
    have hr0 := hr
    obtain ⟨q, hq, rfl⟩ := List.mem_map.mp hr
    refine ⟨by rw [List.length_map]; exact H.row q hq, fun g hg => ?_⟩
    have hg0 := hg
    obtain ⟨x, hx, rfl⟩ := List.mem_map.mp hg
    have := H.ent q hq x hx
    refine ⟨?_, ?_, fun e => ?_⟩
    · unfold fillG; split <;> lia
    · unfold fillG; split <;> lia
    · unfold hasDead
      rw [List.any_eq_true]
      refine ⟨true, List.mem_map.mpr ⟨_, hr0, ?_⟩, rfl⟩
      rw [List.any_eq_true]
      exact ⟨_, hg0, by simp [e]⟩
  have tg : ∀ t ∈ flipT (compT n R T), t.length ≤ 2 := fun t ht => by
    obtain ⟨q, hq, rfl⟩ := List.mem_map.mp ht
    split <;> simp
  cases hd : hasDead n R with
  | false =>
    have e1 : compR n m R = fillR n R := by simp [compR, hd]
    have e2 : compT n R T = T := by simp [compT, hd]
    rw [e2] at tg; rw [e1, e2]
    refine ⟨⟨by lia, by lia, H.m1, H.m3, rfl, by rw [flipT, List.length_map]; lia, fun r hr => (fr r hr).1, fun r hr g hg => ?_, tg⟩, by lia⟩
    obtain ⟨g1, g2, g3⟩ := (fr r hr).2 g hg
    have : g ≠ n := fun e => by have := g3 e; rw [hd] at this; cases this
    lia
  | true =>
    have e1 : compR n m R = fillR n R ++ [List.replicate m (n : Int)] := by simp [compR, hd]
    have e2 : compT n R T = T ++ [[]] := by simp [compT, hd]
    have e3 : (compR n m R).length = n + 1 := by rw [e1, List.length_append, List.length_singleton]; lia
    rw [e3]
    refine ⟨⟨by lia, by lia, H.m1, H.m3, e3, by rw [flipT, List.length_map, e2, List.length_append, List.length_singleton]; lia, fun r hr => ?_, fun r hr g hg => ?_, tg⟩, by lia⟩
    · rw [e1] at hr
      rcases List.mem_append.mp hr with hr | hr
      · exact (fr r hr).1
      · rw [List.mem_singleton.mp hr]; simp
    · rw [e1] at hr
      rcases List.mem_append.mp hr with hr | hr
      · obtain ⟨g1, g2, g3⟩ := (fr r hr).2 g hg; lia
      · rw [List.mem_singleton.mp hr] at hg
        have := (List.mem_replicate.mp hg).2; lia
theorem f_complement (B : Base w b) (H : Aut n m R T) (n4 : n ≤ 4) : FnR prog w b (k + 4) (.ref 140) [dfaA R T] (dfaA (compR n m R) (flipT (compT n R T))) := by
  have hl : (compT n R T).length ≤ 10 := by
    have := H.hT
    unfold compT; split <;> simp <;> lia
  have ht : ∀ t ∈ compT n R T, t.length ≤ 2 := fun t ht => by
    unfold compT at ht
    split at ht
    · rcases List.mem_append.mp ht with ht | ht
      · exact H.tag t ht
      · rw [List.mem_singleton.mp ht]; simp
    · exact H.tag t ht
  refine fn_body B rfl rfl (by kernel_rfl) rfl rfl rfl rfl rfl rfl (ps := [Str.ofString "dfa"]) rfl (bind1 fun _ => rfl) (by kernel_rfl) fun base z₀ env A s Q' Rm S h => ?_
  refine ex_assign S Rm (ev_call B (ev_glob B (by rfl) (gv_completed w) (fun z => .val _)) (keep_ w (by kernel_rfl)) (evs_cons (ev_name (by rfl)) evs_nil) (f_completed B H n4)) (by decide) fun z₁ h₁ tk₁ S₁ l₁ => ?_
  refine ex_ret (s := (sh s h₁ tk₁)) (a := dfaA (compR n m R) (flipT (compT n R T))) S₁ Rm (ev_call B (ev_glob B (by rfl) (gv_Dfa w) (fun z => .val _)) (keep_ w (by kernel_rfl)) (evs_cons (ev_rows B (R := (compR n m R).map rowA) (T := (compT n R T).map tagA) (ev_name (by rfl))) (evs_cons (a := .list ((flipT (compT n R T)).map tagA)) (Ev.of_L ?_) evs_nil)) (f_dfa B)) fun v z' h' tk S' r => h _ z' h' tk S'.G r
  rw [flipT, List.map_map]
  refine ev_comp (compT n R T) tagA _ (ev_tags B (R := (compR n m R).map rowA) (T := (compT n R T).map tagA) (ev_name (by rfl))) src_list (sz_ok (by lia)) (fun t htm => ?_) rfl (by kernel_rfl)
  have h2 := ht t htm
  have e : (tagA ∘ fun t : List Int => if t.isEmpty = true then [0] else []) t = tagA (if (avI t).isEmpty = true then [0] else []) := by
    show tagA _ = tagA _
    congr 1
    cases t <;> rfl
  rw [e]
  exact ev_call B (ev_glob B (by rfl) (gv_sign_of w) (fun z => .val _)) (keep_ w (by kernel_rfl)) (evs_cons (ev_not_tup (ev_name (by rfl)) (by simp; lia)) evs_nil) (f_sign_of B _)
end
end Mine
end
section
namespace Mine
/-- breadth first: the states met, each with its word -/
noncomputable abbrev Met := List (Int × List Int)
noncomputable def visit (row : List Int) (wd : List Int) (W : Met) (c : Nat) : Met :=
  if row.getD c 0 != -1 && !(W.map (·.1)).contains (row.getD c 0) then W ++ [(row.getD c 0, wd ++ [(c : Int)])] else W
noncomputable def bfsF (m : Nat) (R T : List (List Int)) : Nat → Met → Nat → Option (List Int)
  | 0, _, _ => none
  | f + 1, W, i => match W[i]? with
    | none => none
    | some (s, wd) => if (T.getD s.toNat []).isEmpty then bfsF m R T f ((List.range m).foldl (visit (R.getD s.toNat []) wd) W) (i + 1) else some wd
noncomputable def shortF (m : Nat) (R T : List (List Int)) : Option (List Int) := bfsF m R T 10 [(0, [])] 0
structure MetOK (n : Nat) (W : Met) : Prop where
  nd : (W.map (·.1)).Nodup
  rng : ∀ x : Int, x ∈ W.map (·.1) → 0 ≤ x ∧ x < n
  wl : ∀ p ∈ W, p.2.length + 1 ≤ W.length
theorem nodup_le : ∀ (n : Nat) (l : List Int), l.Nodup → (∀ x ∈ l, 0 ≤ x ∧ x < n) → l.length ≤ n
  | 0, [], _, _ => Nat.le_refl _
  | 0, x :: _, _, h => absurd (h x (.head _)) (by lia)
  | n + 1, l, nd, h => by
    have h1 := nodup_le n (l.filter (· != (n : Int))) (nd.filter _) fun x hx => by
      have := h x (List.mem_filter.mp hx).1
      have h2 : x ≠ n := by simpa using (List.mem_filter.mp hx).2
      lia
    have h2 : l.count (n : Int) ≤ 1 := List.nodup_iff_count.mp nd _
    have h3 : l.length = (l.filter (· != (n : Int))).length + l.count (n : Int) := by
      clear h1 h2 nd h
      induction l with
      | nil => rfl
      | cons a l ih =>
        rw [List.filter_cons, List.count_cons]
        by_cases e : a = n
        · simp [e]; lia
        · simp [e]; lia
    lia
theorem MetOK.len {n : Nat} {W : Met} (H : MetOK n W) : W.length ≤ n := by
  have := nodup_le n _ H.nd H.rng
  simpa using this
theorem visit_ok {n : Nat} {row wd : List Int} {W : Met} {c : Nat} (H : MetOK n W) (hr : -1 ≤ row.getD c 0 ∧ row.getD c 0 < n) (hw : wd.length + 1 ≤ W.length) : MetOK n (visit row wd W c) := by
  unfold visit
  split
  · rename_i h
    simp only [Bool.and_eq_true, bne_iff_ne, ne_eq, Bool.not_eq_true', List.contains_eq_mem, decide_eq_false_iff_not] at h
    refine ⟨?_, fun x hx => ?_, fun p hp => ?_⟩
    · rw [List.map_append, List.nodup_append]
      refine ⟨H.nd, by simp, fun a ha b hb e => ?_⟩
      simp at hb
      rw [e, hb] at ha
      exact h.2 ha
    · rw [List.map_append] at hx
      rcases List.mem_append.mp hx with hx | hx
      · exact H.rng x hx
      · have hx : x = row.getD c 0 := by simpa using hx
        rw [hx]; have := h.1; lia
    · rw [List.length_append, List.length_singleton]
      rcases List.mem_append.mp hp with hp | hp
      · have := H.wl p hp; lia
      · rw [List.mem_singleton.mp hp]
        simp only [List.length_append, List.length_singleton]; lia
  · exact H
end Mine
end
section
set_option maxRecDepth 100000
open PySem PySem.W PyProof.Rows PySem.Calls PySem.Spec PySem.SeqAt
namespace Mine
section
variable {prog : Program} {w : World} {b : Heap} {k : Nat} {ns : List (Str × NameKind)} {base z₀ : Heap} {env : Env} {z : Heap} {σ : Sig} {led : List (Addr × Obj)} {A : Around} {s : Shared} {E : Value → Shared → Prop}

noncomputable abbrev WhileRQ (w : World) (b : Heap) (ns : List (Str × NameKind)) (base z₀ : Heap) (env : Env) (s : Shared) (z₁ : Heap) (n : Nat) (J : Nat → Heap → Sig → List (Addr × Obj) → Prop) (Q : Flow → Shared → Prop) (f : Flow) (s' : Shared) : Prop :=
  WhileQ w b ns base z₀ env s z₁ n J f s' ∨ ∃ v, f = .ret v ∧ Q (.ret v) s'
/-- while test, where a turn may come back -/
theorem ex_whileR {test : Expr} {body rest : List Stmt} {pos : Pos} {Q : Flow → Shared → Prop} (J : Nat → Heap → Sig → List (Addr × Obj) → Prop) (n : Nat)
    (S : St w b ns base z₀ env z s.heap σ led) (R : Room A k) (h0 : J n z σ led)
    (turn : ∀ n z₁ h₁ (tk : Nat) σ₁ led₁, J n z₁ σ₁ led₁ → Le z z₁ → St w b ns base z₀ env z₁ h₁ σ₁ led₁ → ∃ c τ, Sees h₁ σ₁ τ ∧ EvT prog w b k ns τ test c ∧
      (c = true → ∀ h' tk, St w b ns base z₀ env z₁ h' σ₁ led₁ → wpAny (model prog w) A (execs body env) (WhileRQ w b ns base z₀ env s z₁ n J Q) NoE (sh s h' tk)) ∧
      (c = false → ∀ h' tk, St w b ns base z₀ env z₁ h' σ₁ led₁ → wpAny (model prog w) A (execs rest env) Q E (sh s h' tk))) :
    wpAny (model prog w) A (execs (.While test body [] pos :: rest) env) Q E s := by
  refine ex_cons (ex_While ?_)
  refine while_loop (WInv w b ns base z₀ env s z J) ?_ n ⟨z, s.heap, s.toks, σ, led, rfl, Le.rfl, h0, S⟩
  rintro n s' ⟨z₁, h₁, tk, σ₁, led₁, rfl, lz, hJ, S₁⟩
  obtain ⟨c, τ, hs, hT, h1, h2⟩ := turn n z₁ h₁ tk σ₁ led₁ hJ lz S₁
  refine S₁.test (s := (sh s h₁ tk)) hs R hT fun h' tk' S' l => ?_
  cases c with
  | true =>
    refine WP1.yes (wpAny_mono (h1 rfl h' tk' S') (fun f s₃ h₃ => ?_) (fun _ _ q => q.elim))
    rcases h₃ with ⟨rfl, z₂, h₂, tk₂, σ₂, led₂, m, hm, rfl, l₂, S₂, hJ₂⟩ | ⟨v, rfl, hq⟩
    · exact ⟨m, hm, z₂, h₂, tk₂, σ₂, led₂, rfl, lz.trans l₂, hJ₂, S₂⟩
    · exact hq
  | false =>
    exact WP1.no (wpAny_execs_nil (h2 rfl h' tk' S'))

/-- a dict of int keys, and what it holds -/
structure KV (z : Heap) (kvs : List (Int × Value)) (W : Met) : Prop where
  ks : kvs.map (·.1) = W.map (·.1)
  vs : Reps z (kvs.map (·.2)) (W.map fun p => rowA p.2)
theorem KV.le {z z' : Heap} {kvs : List (Int × Value)} {W : Met} (l : Le z z') (H : KV z kvs W) : KV z' kvs W := ⟨H.ks, H.vs.le l⟩
theorem KV.at {z : Heap} {kvs : List (Int × Value)} {W : Met} {n : Nat} (H : KV z kvs W) (ok : MetOK n W) {i : Nat} {x : Int} {wd : List Int} (hi : W[i]? = some (x, wd)) : ∃ v, valueAt kvs x = some v ∧ Rep z v (rowA wd) := by
  obtain ⟨v, e1, e2⟩ := H.vs.get (i := i) (a := rowA wd) (by rw [List.getElem?_map, hi]; rfl)
  refine ⟨v, valueAt_of_get (by rw [H.ks]; exact ok.nd) (i := i) ?_, e2⟩
  have k1 : (kvs.map (·.1))[i]? = some x := by rw [H.ks, List.getElem?_map, hi]; rfl
  rw [List.getElem?_map] at e1 k1
  cases q : kvs[i]? with
  | none => rw [q] at k1; cases k1
  | some p => rw [q] at k1 e1; cases k1; cases e1; rfl
theorem KV.has {z : Heap} {kvs : List (Int × Value)} {W : Met} (H : KV z kvs W) (x : Int) : (valueAt kvs x).isSome = (W.map (·.1)).contains x := by
  rw [valueAt_isSome_eq_any, ← H.ks]
  rw [Bool.eq_iff_iff]
  simp
theorem KV.put {z : Heap} {kvs : List (Int × Value)} {W : Met} (H : KV z kvs W) {x : Int} {v : Value} {wd : List Int} (hx : (W.map (·.1)).contains x = false) (r : Rep z v (rowA wd)) : KV z (stored kvs x v) (W ++ [(x, wd)]) := by
  have e : stored kvs x v = kvs ++ [(x, v)] := by
    unfold stored
    rw [← valueAt_isSome_eq_any, H.has, hx]; rfl
  rw [e]
  refine ⟨by simp [H.ks], ?_⟩
  rw [List.map_append, List.map_append]
  exact H.vs.append (.cons r .nil)

noncomputable abbrev IsD (prog : Program) (w : World) (o : Obj) (kvs : List (Int × Value)) : Prop := o.IsDictOf (intKind prog w) kvs
/-- x = {e: v} -/
theorem ex_assignD {x : Str} {px dp pos : Pos} {ke ve : Expr} {rest : List Stmt} {i : Int} {a : AV} {Q : Flow → Shared → Prop} {tree : Sem Flow} (ht : execs (.Assign [.Name x px] (.Dict [some ke] [ve] dp) pos :: rest) env = tree) (S : St w b ns base z₀ env z s.heap σ led) (R : Room A k) (Hk : Ev prog w b k ns σ ke (.int i)) (Hv : Ev prog w b k ns σ ve a) (hx : KindOk ns x)
    (h : ∀ d o v z' h' tk, St w b ns base z₀ env z' h' ((x, .val (.ref d)) :: σ) ((d, o) :: led) → (s.heap.objs.size ≤ d) → IsD prog w o [(i, v)] → Rep z' v a → wpAny (model prog w) A (execs rest env) Q E (sh s h' tk))
    (hs : swapsWith (.Dict [some ke] [ve] dp) (some (.Name x px)) pos.line env = pure false := by rfl) :
    wpAny (model prog w) A tree Q E s := by
  subst ht
  have hsh : (evalEachOpt [some ke] env).zip ((evalEach [ve] env).map fun v => do let x ← v; standAt dp; pure x) = [(eval ke env, do let x ← eval ve env; standAt dp; pure x)].map fun p => (some p.1, p.2) := by rfl
  refine ex_cons (wpAny_Assign_Name ?_ hs)
  refine wpAny_Dict_pairs (knd := intKind prog w) hsh (by simp) (by simp) ?_
  have S₁ := S.push (h' := s.heap.push emptyDict) (Grow.step S.X.zh (Le.rfl.push _)) (get_fresh _ (Nat.le_refl _)) (S.X.zh.none (get_fresh _ (Nat.le_refl _))) (Heap.get?_push_size _ rfl)
  refine evalPairs_cons (Hk env z A _ _ E S₁.X R fun v₁ z₁ h₁ tk₁ g₁ r₁ => wpAny_bind (wpAny_mono (Hv env z₁ A _ _ E (S₁.X.le g₁) R fun v₂ z₂ h₂ tk₂ g₂ r₂ => ?_) (fun _ _ q => wpAny_bind (wpAny_standAt (wpAny_pure q))) fun _ _ q => q))
  · refine evalPairs_nil ?_
    obtain ⟨t, rfl⟩ := r₁.int_inv
    have S₂ := (S₁.grow g₁).grow g₂
    refine ⟨[(i, v₂)], ⟨intKind_is prog w i t, rfl, trivial⟩, (Heap.DictOf.new (knd := intKind prog w) s.heap).keep fun c o e => g₂.hh _ _ (g₁.hh _ _ e), fun h' hd hs => ?_⟩
    obtain ⟨o', ho', hd'⟩ := Heap.dictOf_iff.mp hd
    have S₃ := S₂.upd [] (o' := o') (fun c o hc e => (hs.2 c hc).trans e) ho'
    exact st_store (s := (sh s h' _)) S₃ (.val _) hx fun h'' tk' S' _ => h _ _ v₂ z₂ h'' tk' S' (Nat.le_refl _) hd' r₂

theorem isd_at {d : Addr} {o : Obj} {kvs : List (Int × Value)} (S : St w b ns base z₀ env z s.heap σ led) (hm : (d, o) ∈ led) (ho : IsD prog w o kvs) : s.heap.DictOf (intKind prog w) d kvs := Heap.dictOf_iff.mpr ⟨o, S.at hm, ho⟩
/-- x not in y, y a dict of one's own, as a test -/
theorem st_notin {x y : Str} {p q pos : Pos} {g : Int} {d : Addr} {o : Obj} {kvs : List (Int × Value)} {Q : Bool → Shared → Prop} (S : St w b ns base z₀ env z s.heap σ led) (hx : σ.lookup x = some (.int g)) (hy : σ.lookup y = some (.val (.ref d))) (hm : (d, o) ∈ led) (ho : IsD prog w o kvs)
    (hd : (d == sysModules) = false) (h : ∀ tk, Q (!(valueAt kvs g).isSome) { s with toks := tk })
    (h1 : (x == ("__debug__" : Str)) = false := by decide) (h2 : (x == ("__classdict__" : Str)) = false := by decide) (h3 : (y == ("__debug__" : Str)) = false := by decide) (h4 : (y == ("__classdict__" : Str)) = false := by decide)
    (hb : behindInMarks .NotIn (.Name y q) = false := by with_unfolding_all rfl) :
    wpAny (model prog w) A (PySem.isTrue (.Compare (.Name x p) [.NotIn] [.Name y q] pos) env (PySem.eval (.Compare (.Name x p) [.NotIn] [.Name y q] pos) env)) Q E s := by
  refine wpAny_isTrue_Compare1 (name_ S.X hx (fun v r => name_ S.X hy (fun u r' => ?_) h3 h4) h1 h2) hb
  obtain ⟨t, rfl⟩ := r.int_inv
  rw [r'.val_inv]
  exact wpAny_notIn_of (intKind_is prog w g t) hd (isd_at S hm ho).mapOf (wpAny_truthy_bool (h _))
/-- y[x], y a dict of one's own -/
theorem st_dictget {x y : Str} {p q pos : Pos} {g : Int} {d : Addr} {o : Obj} {v : Value} {kvs : List (Int × Value)} {Q : Value → Shared → Prop} (S : St w b ns base z₀ env z s.heap σ led) (hx : σ.lookup x = some (.int g)) (hy : σ.lookup y = some (.val (.ref d))) (hm : (d, o) ∈ led) (ho : IsD prog w o kvs)
    (hv : valueAt kvs g = some v) (h : ∀ tk, Q v { s with toks := tk })
    (h1 : (x == ("__debug__" : Str)) = false := by decide) (h2 : (x == ("__classdict__" : Str)) = false := by decide) (h3 : (y == ("__debug__" : Str)) = false := by decide) (h4 : (y == ("__classdict__" : Str)) = false := by decide)
    (hs : ∀ o t, subscripted (.Name x p) false o t = operate [o, t] (getItem o t) := by intro _ _; with_unfolding_all rfl) :
    wpAny (model prog w) A (PySem.eval (.Subscript (.Name y q) (.Name x p) pos) env) Q E s := by
  refine Subscript_ (name_ S.X hy (fun u r' => name_ S.X hx (fun v' r => ?_) h1 h2) h3 h4)
  obtain ⟨t, rfl⟩ := r.int_inv
  rw [r'.val_inv]
  have D := isd_at S hm ho
  exact tail_any D.typeIs slot_dict_getitem.lookup (wpAny_getItem_of (intKind_is prog w g t) D.mapOf hv (h _)) (hs _ _)
end
section
variable {prog : Program} {w : World} {b : Heap} {k n m : Nat} {R T : List (List Int)}
theorem Base.big (B : Base w b) {h : Heap} (l : Le b h) : 40 < h.objs.size := by
  obtain ⟨o, ho⟩ : ∃ o, (KK w).lookup 47 = some o := ⟨_, rfl⟩
  have := Heap.lt_size (l _ _ (B.K 47 o ho))
  exact Nat.lt_trans (by decide) this
noncomputable abbrev optA : Option (List Int) → AV
  | none => .none
  | some wd => rowA wd
inductive SRep (prog : Program) (w : World) (n : Nat) (dq dw : Addr) (W : Met) (z' : Heap) (led' : List (Addr × Obj)) : Prop
  | mk (ok : MetOK n W) (kvs : List (Int × Value)) (o : Obj) (vs : List Value) (m' : Nat) (hD : IsD prog w o kvs) (hKV : KV z' kvs W) (rv : Reps z' vs (avI (W.map (·.1)))) (e : led' = [(dq, lstO vs m'), (dw, o)])
inductive SWh (prog : Program) (w : World) (n m : Nat) (R T : List (List Int)) (dq dw : Addr) (σ₁ : Nat → Sig) (j : Nat) (z' : Heap) (σ' : Sig) (led' : List (Addr × Obj)) : Prop
  | mk (W : Met) (i : Nat) (a : j + i = 10) (b : i ≤ W.length) (c : bfsF m R T j W i = shortF m R T) (es : σ' = σ₁ i) (r : SRep prog w n dq dw W z' led')
inductive SFor (prog : Program) (w : World) (n : Nat) (dq dw : Addr) (σ₂ : Sig) (i : Nat) (p : Int × List Int) (W : Met) (z' : Heap) (σ' : Sig) (led' : List (Addr × Obj)) : Prop
  | mk (es : σ' = σ₂) (hW : W[i]? = some p) (r : SRep prog w n dq dw W z' led')
theorem f_shortest (B : Base w b) (H : Aut n m R T) : FnR prog w b (k + 2) (.ref 123) [dfaA R T] (optA (shortF m R T)) := by
  have n5 := H.n5
  have n1 := H.n1
  have m3 := H.m3
  refine fn_body B rfl rfl (by kernel_rfl) rfl rfl rfl rfl rfl rfl (ps := [Str.ofString "dfa"]) rfl (bind1 fun _ => rfl) (by kernel_rfl) fun base z₀ env A s Q' Rm S h => ?_
  have big := B.big (S.X.bz.trans S.X.zh)
  generalize htree : execs _ env = tree
  refine ex_assignD htree S Rm (ev_int (i := 0)) (Ev.of_L (ev_list evs_nil)) (by decide) fun dw ow v₁ z₁ h₁ tk₁ S₁ hge hD r₁ => ?_
  have hdw : (dw == sysModules) = false := by
    rw [beq_eq_false_iff_ne]
    exact fun e => absurd (Nat.lt_of_lt_of_le big hge) (by rw [e]; decide)
  refine ex_assignL (s := (sh s h₁ tk₁)) S₁ Rm (ev_list (evs_cons (ev_int (i := 0)) evs_nil)) (by decide) fun dq vs mq z₂ h₂ tk₂ S₂ r₂ l₂ => ?_
  refine ex_assign (s := (sh s h₂ tk₂)) S₂ Rm (ev_int (i := 0)) (by decide) fun z₃ h₃ tk₃ S₃ l₃ => ?_
  let σ₁ : Nat → Sig := fun i => [(Str.ofString "at", .int i), (Str.ofString "order", .val (.ref dq)), (Str.ofString "words", .val (.ref dw)), (Str.ofString "dfa", dfaA R T)]
  let rep : Met → Heap → List (Addr × Obj) → Prop := SRep prog w n dq dw
  have rep0 : rep [(0, [])] z₃ [(dq, lstO vs mq), (dw, ow)] := ⟨⟨by simp, fun x hx => by simp at hx; lia, by simp⟩, _, ow, vs, mq, hD, ⟨rfl, .cons ((r₁.le l₂).le l₃) .nil⟩, r₂.le l₃, rfl⟩
  refine ex_whileR (s := (sh s h₃ tk₃)) (SWh prog w n m R T dq dw σ₁) 10 (S₃.cut (σ₁ 0)) Rm ⟨[(0, [])], 0, rfl, by simp, by rw [shortF], rfl, rep0⟩ ?_
  rintro j z₄ h₄ tk₄ σ₄ led₄ ⟨W, i, hji, hiW, hbf, rfl, ok, kvs, o, vs, m', hD, hKV, rv, rfl⟩ lz₄ S₄
  have hWn := ok.len
  have eq₄ := S₄.at (d := dq) (.head _)
  refine ⟨decide ((i : Int) < W.length), _, sees_list (x := Str.ofString "order") (by rfl) eq₄ (rv.le S₄.X.zh) sees_refl, evt_cmp (ev_name (by rfl)) (ev_len1 B (by rfl) (ev_name (by rfl)) (n := W.length) (by simp) (by lia)) cmp_lt, fun hc h₅ tk₅ S₅ => ?_, fun hc h₅ tk₅ S₅ => ?_⟩
  · have hiW' : i < W.length := by have := of_decide_eq_true hc; lia
    obtain ⟨⟨st, wd⟩, hW⟩ : ∃ p, W[i]? = some p := ⟨W[i], List.getElem?_eq_getElem hiW'⟩
    have hst : 0 ≤ st ∧ st < n := ok.rng st (List.mem_map.mpr ⟨_, List.mem_of_getElem? hW, rfl⟩)
    obtain ⟨j, rfl⟩ : ∃ j', j = j' + 1 := ⟨j - 1, by lia⟩
    unfold bfsF at hbf
    rw [hW] at hbf
    dsimp only at hbf
    have hsn : st.toNat < n := tn hst
    obtain ⟨row, q1, q2, q3, q4⟩ := H.rowAt hsn
    have eq₅ := S₅.at (d := dq) (.head _)
    refine ex_assignV (s := (sh s h₅ tk₅)) S₅ (sees_list (x := Str.ofString "order") (xs := avI (W.map (·.1))) (by rfl) eq₅ (rv.le S₅.X.zh) sees_refl) Rm (a := .int st) (ev_item (xs := avI (W.map (·.1))) (j := i) (ev_name (by rfl)) (ev_name (by rfl)) (inn i) (lt63 (Nat.le_trans hiW (Nat.le_trans hWn (Nat.le_trans n5 (by decide))))) (mapget (mapget hW))) (.int _) (by decide) fun h₆ tk₆ S₆ => ?_
    refine ex_aug (s := (sh s h₆ tk₆)) (p := (i : Int)) (r := ((i + 1 : Nat) : Int)) S₆ Rm (by rfl) (by decide) sees_refl (ev_int (i := 1)) (.inl ⟨rfl, by lia⟩) fun h₇ tk₇ S₇ => ?_
    let σ₂ : Sig := [(Str.ofString "at", .int ((i + 1 : Nat) : Int)), (Str.ofString "state", .int st), (Str.ofString "order", .val (.ref dq)), (Str.ofString "words", .val (.ref dw)), (Str.ofString "dfa", dfaA R T)]
    have S₇ := S₇.cut σ₂
    have e_st : (AV.int st) = .int (st.toNat : Int) := by rw [Int.toNat_of_nonneg hst.1]
    refine ex_if (s := (sh s h₇ tk₇)) S₇ sees_refl Rm (evt_tag B H hsn (ev_name (by rfl)) (ev_name (by rw [← e_st]; rfl))) fun h₈ tk₈ S₈ l₈ => ?_
    cases ht : (T.getD st.toNat []).isEmpty with
    | false =>
      rw [ht] at hbf
      simp only [Bool.false_eq_true, if_false] at hbf
      obtain ⟨v, hv, rv'⟩ := hKV.at ok hW
      refine ex_cons (wpAny_Return_some (st_dictget (s := (sh s h₈ tk₈)) (prog := prog) S₈ (by rfl) (by rfl) (.tail _ (.head _)) hD hv fun tk => .inr ⟨v, rfl, h _ z₄ h₈ tk S₈.G (by rw [← hbf]; exact rv')⟩))
    | true =>
      rw [ht] at hbf
      simp only [if_true] at hbf
      refine ex_nil ?_
      rw [q2] at hbf
      let rep₂ : Met → Heap → Sig → List (Addr × Obj) → Prop := SFor prog w n dq dw σ₂ i (st, wd)
      refine ex_forS (s := (sh s h₈ tk₈)) (List.range m) (fun c : Nat => AV.int c) (visit row wd) W rep₂ σ₂ S₈ Rm (ev_range1 B (by rfl) (ev_classes B H (ev_name (by rfl)))) (src_rng (by lia)) (by decide) (fun z' lz => ⟨rfl, hW, ok, kvs, o, vs, m', hD, hKV.le lz, rv.le lz, rfl⟩) ?_ ?_
      · rintro c' c W' z₉ h₉ tk₉ σ₉ led₉ I oI hc' - ⟨rfl, hW', ok', kvs', o', vs', m'', hD', hKV', rv', rfl⟩ lz₉ S₉
        have hcm : c < m := List.mem_range.mp (List.mem_of_getElem? hc')
        have hcr : c < row.length := by lia
        have hg := q4 _ (List.getElem_mem hcr)
        have eg : row.getD c 0 = row[c] := by rw [List.getD_eq_getElem?_getD, List.getElem?_eq_getElem hcr]; rfl
        refine ex_assign (s := (sh s h₉ tk₉)) (a := .int row[c]) S₉ Rm (ev_item (xs := avI row) (j := c) (ev_item (xs := R.map rowA) (j := st) (ev_rows B (ev_name (by rfl))) (ev_name (by rfl)) hst.1 (lt63i hst.2 n5) (mapget q1)) (ev_name (by rfl)) (inn c) (lt63 (Nat.le_trans (Nat.le_of_lt hcm) (Nat.le_trans m3 (by decide)))) (mapgetL hcr)) (by decide) fun z₁₀ h₁₀ tk₁₀ S₁₀ l₁₀ => ?_
        generalize hgv : row[c] = g at *
        have hwd : wd.length + 1 ≤ W'.length := ok'.wl (st, wd) (List.mem_of_getElem? hW')
        refine ex_cons (wpAny_If (isTrue_and (S₁₀.test (s := (sh s h₁₀ tk₁₀)) sees_refl Rm (evt_cmp (ev_name (by rfl)) (ev_glob B (by rfl) (gv_DEAD w) (fun z => .int _ _)) cmp_ne) fun h₁₁ tk₁₁ S₁₁ l₁₁ => ?_)))
        by_cases hd : g = -1
        · have hb : (g != -1) = false := by simp [hd]
          have ev : visit row wd W' c = W' := by unfold visit; rw [eg, hb]; rfl
          rw [hb, ev]
          simp only [Bool.false_eq_true, if_false]
          exact ex_nil (ex_nil ⟨rfl, z₁₀, h₁₁, tk₁₁, σ₂, _, rfl, l₁₀, S₁₁.cut σ₂, rfl, hW', ok', kvs', o', vs', m'', hD', hKV'.le l₁₀, rv'.le l₁₀, rfl⟩)
        · have hb : (g != -1) = true := by simp [hd]
          rw [hb]
          simp only [if_true]
          refine isTrue_and (st_notin (s := (sh s h₁₁ tk₁₁)) (prog := prog) S₁₁ (by rfl) (by rfl) (.tail _ (.tail _ (.head _))) hD' hdw fun tk₁₂ => ?_)
          rw [hKV'.has]
          cases hin : (W'.map (·.1)).contains g with
          | true =>
            have ev : visit row wd W' c = W' := by unfold visit; rw [eg, hin, hb]; rfl
            rw [ev]
            simp only [Bool.not_true, Bool.false_eq_true, if_false]
            exact ex_nil (ex_nil ⟨rfl, z₁₀, h₁₁, tk₁₂, σ₂, _, rfl, l₁₀, S₁₁.cut σ₂, rfl, hW', ok', kvs', o', vs', m'', hD', hKV'.le l₁₀, rv'.le l₁₀, rfl⟩)
          | false =>
            have ev : visit row wd W' c = W' ++ [(g, wd ++ [(c : Int)])] := by unfold visit; rw [eg, hin, hb]; rfl
            have okn : MetOK n (visit row wd W' c) := visit_ok ok' (by rw [eg]; lia) hwd
            rw [ev] at okn ⊢
            simp only [Bool.not_false, if_true]
            refine isTrue_and_nil ?_
            simp only [if_true]
            obtain ⟨v, hv, rv₂⟩ := hKV'.at ok' hW'
            have hlw := ok'.len
            obtain ⟨a, us, n₀, rfl, e, r⟩ := rv₂.lst
            have hul : us.length = wd.length := by have := r.length; simpa using this
            refine ex_cons (wpAny_Assign_Subscript (wpAny_BinOp (st_dictget (s := (sh s h₁₁ tk₁₂)) (prog := prog) S₁₁ (by rfl) (by rfl) (.tail _ (.tail _ (.head _))) hD' hv fun tk₁₃ => ?_)))
            refine ev_list (evs_cons (ev_name (a := .int c) (by rfl)) evs_nil) (by show 1 ≤ sizeLine; decide) env z₁₀ A (sh s h₁₁ tk₁₃) _ _ S₁₁.X Rm fun l₂ us₂ n₂ z₁₃ h₁₃ tk₁₄ g₁₃ n1 n2 e₂ r₂ => ?_
            have hul₂ : us₂.length = 1 := r₂.length
            refine raw_ladd (g₁₃.hh _ _ (S₁₁.X.zh _ _ (l₁₀ _ _ e))) e₂ (sz_ok (by lia)) ?_
            obtain ⟨z₁₄, g₁₄, l₁₄, e₁₄⟩ := (g₁₃.more (Le.rfl.push (lstO (us ++ us₂) 0))).add (l := h₁₃.objs.size) (g₁₃.hh.none (get_fresh _ (Nat.le_refl _))) (Heap.get?_push_size _ rfl)
            have S₁₄ := S₁₁.grow g₁₄
            have r₁₄ : Rep z₁₄ (.ref h₁₃.objs.size) (rowA (wd ++ [(c : Int)])) := .list e₁₄ (by
              rw [avI, List.map_append]
              exact ((r.le l₁₀).le g₁₄.zz).append (r₂.le l₁₄))
            refine name_ S₁₄.X (a := .val (.ref dw)) (by rfl) (fun u ru => name_ S₁₄.X (a := .int g) (by rfl) (fun x rx => ?_))
            rw [ru.val_inv]
            obtain ⟨tg, rfl⟩ := rx.int_inv
            have hkl : kvs'.length = W'.length := by have := congrArg List.length hKV'.ks; simpa using this
            refine wpAny_setItem_pairs (hsz := sz_ok (by lia)) (intKind_is prog w g tg) (isd_at (s := (sh s _ tk₁₄)) S₁₄ (.tail _ (.tail _ (.head _))) hD') fun h₁₅ hm hs => ?_
            obtain ⟨o'', ho'', hd''⟩ := Heap.dictOf_iff.mp hm
            have S₁₅ := S₁₄.upd [(I, oI), (dq, lstO vs' m'')] (o' := o'') (fun c o hc e => (hs.2 c hc).trans e) ho''
            have hvl : vs'.length = W'.length := by have := rv'.length; simpa using this
            refine ex_append (s := (sh s h₁₅ _)) [(I, oI)] S₁₅ Rm (by rfl) (ev_name (a := .int g) (by rfl)) (sz_ok (by lia)) fun v m₂ z' h' tk' S' l' r' => ?_
            refine ex_nil (ex_nil ⟨rfl, z', h', tk', σ₂, _, rfl, ((l₁₀.trans g₁₄.zz).trans l'), S'.cut σ₂, rfl, ?_, okn, stored kvs' g (.ref h₁₃.objs.size), o'', vs' ++ [v], m₂, hd'', KV.put (hKV'.le ((l₁₀.trans g₁₄.zz).trans l')) hin (r₁₄.le l'), ?_, rfl⟩)
            · rw [List.getElem?_append_left (List.getElem?_eq_some_iff.mp hW').1]; exact hW'
            · rw [List.map_append, avI, List.map_append]
              exact (rv'.le ((l₁₀.trans g₁₄.zz).trans l')).append (.cons r' .nil)
      · rintro z₉ h₉ tk₉ σ₉ led₉ ⟨rfl, hW', hr'⟩ lz₉ S₉
        exact ex_nil (.inl ⟨rfl, z₉, h₉, tk₉, σ₁ (i + 1), led₉, j, Nat.lt_succ_self _, rfl, lz₉, S₉.cut (σ₁ (i + 1)), _, i + 1, by lia, (List.getElem?_eq_some_iff.mp hW').1, hbf, rfl, hr'⟩)
  · have hiW' : i = W.length := by have := of_decide_eq_false hc; lia
    obtain ⟨j, rfl⟩ : ∃ j', j = j' + 1 := ⟨j - 1, by lia⟩
    have : shortF m R T = none := by
      rw [← hbf]; unfold bfsF
      rw [List.getElem?_eq_none (by lia)]
    refine ex_ret (s := (sh s h₅ tk₅)) S₅ Rm ev_none fun v z' h' tk S' r => h _ z' h' tk S'.G (by rw [this]; exact r)
end
end Mine
end
section
namespace Mine
noncomputable def linksP (R : List (List Int)) : List (List Int) := R.map fun r => r.filter (· != -1)
noncomputable def incW (a : List Int) (g : Int) : List Int := a.set g.toNat (a.getD g.toNat 0 + 1)
noncomputable def arrP (L : List (List Int)) (us : List Bool) (a : List Int) (s : Nat) : List Int := if us.getD s false then (L.getD s []).foldl incW a else a
noncomputable def arrF (n : Nat) (L : List (List Int)) (us : List Bool) : List Int := (List.range n).foldl (arrP L us) (List.replicate n 0)
noncomputable def decW (us : List Bool) (st : List Int × List Int) (g : Int) : List Int × List Int :=
  (st.1.set g.toNat (st.1.getD g.toNat 0 - 1), if (st.1.set g.toNat (st.1.getD g.toNat 0 - 1)).getD g.toNat 0 == 0 && us.getD g.toNat false then st.2 ++ [g] else st.2)
noncomputable def posSum (a : List Int) : Nat := (a.map Int.toNat).sum
noncomputable def kM (st : List Int × List Int) : Nat := 2 * posSum st.1 + st.2.length
noncomputable def kahnF (L : List (List Int)) (us : List Bool) : Nat → List Int × List Int → Int → Int
  | 0, _, t => t
  | f + 1, st, t => match st.2.getLast? with
    | none => t
    | some p => kahnF L us f ((L.getD p.toNat []).foldl (decW us) (st.1, st.2.dropLast)) (t + 1)
noncomputable def waitF (n : Nat) (us : List Bool) (a : List Int) : List Int := ((List.range n).filter fun s => us.getD s false && a.getD s 0 == 0).map fun s : Nat => (s : Int)
noncomputable def takenF (n : Nat) (L : List (List Int)) (us : List Bool) : Int := kahnF L us (kM (arrF n L us, waitF n us (arrF n L us)) + 1) (arrF n L us, waitF n us (arrF n L us)) 0

theorem posSum_set : ∀ (a : List Int) (i : Nat) (v : Int), i < a.length → posSum (a.set i v) + (a.getD i 0).toNat = posSum a + v.toNat
  | [], _, _, h => absurd h (Nat.not_lt_zero _)
  | x :: a, 0, v, _ => by simp [posSum]; lia
  | x :: a, i + 1, v, h => by
    have := posSum_set a i v (by simpa using h)
    simp only [posSum, List.set_cons_succ, List.map_cons, List.sum_cons, List.getD_cons_succ] at this ⊢
    lia
theorem getD_set_self (a : List Int) (i : Nat) (v : Int) (h : i < a.length) : (a.set i v).getD i 0 = v := by
  rw [List.getD_eq_getElem?_getD, List.getElem?_set]; simp [h]
theorem getD_set_ne (a : List Int) (i j : Nat) (v : Int) (h : i ≠ j) : (a.set i v).getD j 0 = a.getD j 0 := by
  rw [List.getD_eq_getElem?_getD, List.getD_eq_getElem?_getD, List.getElem?_set]; simp [h]
theorem incW_len (a : List Int) (g : Int) : (incW a g).length = a.length := by simp [incW]
theorem incWs_len (gs : List Int) : ∀ a : List Int, (gs.foldl incW a).length = a.length := by
  induction gs with
  | nil => intro a; rfl
  | cons g gs ih => intro a; rw [List.foldl_cons, ih, incW_len]
theorem arrP_len (L : List (List Int)) (us : List Bool) (a : List Int) (s : Nat) : (arrP L us a s).length = a.length := by unfold arrP; split <;> simp [incWs_len]
theorem arrPs_len (L : List (List Int)) (us : List Bool) (ss : List Nat) : ∀ a : List Int, (ss.foldl (arrP L us) a).length = a.length := by
  induction ss with
  | nil => intro a; rfl
  | cons g gs ih => intro a; rw [List.foldl_cons, ih, arrP_len]
theorem incW_pos (a : List Int) (g : Int) : posSum (incW a g) ≤ posSum a + 1 := by
  unfold incW
  by_cases h : g.toNat < a.length
  · have := posSum_set a g.toNat (a.getD g.toNat 0 + 1) h
    lia
  · rw [List.set_eq_of_length_le (by lia)]; lia
theorem incWs_pos (gs : List Int) : ∀ a : List Int, posSum (gs.foldl incW a) ≤ posSum a + gs.length := by
  induction gs with
  | nil => intro a; exact Nat.le_refl _
  | cons g gs ih => intro a; have := ih (incW a g); have := incW_pos a g; rw [List.foldl_cons, List.length_cons]; lia
theorem arrPs_pos {L : List (List Int)} {us : List Bool} {c : Nat} (h : ∀ r ∈ L, r.length ≤ c) (ss : List Nat) : ∀ a : List Int, posSum (ss.foldl (arrP L us) a) ≤ posSum a + c * ss.length := by
  induction ss with
  | nil => intro a; exact Nat.le_refl _
  | cons s ss ih =>
    intro a
    have h1 := ih (arrP L us a s)
    have h2 : posSum (arrP L us a s) ≤ posSum a + c := by
      unfold arrP
      split
      · have := incWs_pos (L.getD s []) a
        have h5 : (L.getD s []).length ≤ c := by
          rw [List.getD_eq_getElem?_getD]
          cases e : L[s]? with
          | none => simp
          | some q => exact h q (List.mem_of_getElem? e)
        lia
      · lia
    rw [List.foldl_cons, List.length_cons, Nat.mul_succ]; lia
theorem posSum_rep (n : Nat) : posSum (List.replicate n 0) = 0 := by
  unfold posSum
  induction n with
  | zero => rfl
  | succ n ih => rw [List.replicate_succ, List.map_cons, List.sum_cons, ih]; rfl
theorem decW_len (us : List Bool) (st : List Int × List Int) (g : Int) : (decW us st g).1.length = st.1.length := by simp [decW]
theorem decW_kM (us : List Bool) (st : List Int × List Int) (g : Int) (h : g.toNat < st.1.length) : kM (decW us st g) ≤ kM st := by
  have h1 := posSum_set st.1 g.toNat (st.1.getD g.toNat 0 - 1) h
  have h2 := getD_set_self st.1 g.toNat (st.1.getD g.toNat 0 - 1) h
  unfold decW kM
  dsimp only
  rw [h2]
  split
  · rename_i q
    simp only [Bool.and_eq_true, beq_iff_eq] at q
    rw [List.length_append, List.length_singleton]
    lia
  · lia
theorem decWs_len (us : List Bool) (gs : List Int) : ∀ st : List Int × List Int, (gs.foldl (decW us) st).1.length = st.1.length := by
  induction gs with
  | nil => intro st; rfl
  | cons g gs ih => intro st; rw [List.foldl_cons, ih, decW_len]
theorem decWs_kM (us : List Bool) (gs : List Int) : ∀ st : List Int × List Int, (∀ g ∈ gs, g.toNat < st.1.length) → kM (gs.foldl (decW us) st) ≤ kM st := by
  induction gs with
  | nil => intro st _; exact Nat.le_refl _
  | cons g gs ih =>
    intro st h
    have h1 := ih (decW us st g) fun x hx => by rw [decW_len]; exact h x (.tail _ hx)
    have h2 := decW_kM us st g (h g (.head _))
    rw [List.foldl_cons]; lia
end Mine
end
section
set_option maxRecDepth 100000
open PySem PySem.W PyProof.Rows PySem.Calls PySem.Spec PySem.SeqAt
namespace Mine
noncomputable def usefulF (n : Nat) (R T : List (List Int)) : List Bool := (List.range n).map fun i => (spreadF (linksF R) [0]).getD i false && (aliveF n R T).getD i false
noncomputable def finiteF (n : Nat) (R T : List (List Int)) : Bool := takenF n (linksF R) (usefulF n R T) == ((usefulF n R T).count true : Nat)
section
variable {prog : Program} {w : World} {b : Heap} {k n m : Nat} {R T : List (List Int)}
inductive Rep2 (n : Nat) (dw da : Addr) (st : List Int × List Int) (z' : Heap) (led' : List (Addr × Obj)) : Prop
  | mk (hl : st.1.length = n) (hr : ∀ g ∈ st.2, 0 ≤ g ∧ g < n) (vw : List Value) (mw : Nat) (va : List Value) (ma : Nat) (r₁ : Reps z' vw (avI st.2)) (r₂ : Reps z' va (avI st.1)) (e : led' = [(dw, lstO vw mw), (da, lstO va ma)])
inductive KWh (n : Nat) (dw da : Addr) (L : List (List Int)) (us : List Bool) (K : Int) (σ₃ : Int → Sig) (j : Nat) (z' : Heap) (σ' : Sig) (led' : List (Addr × Obj)) : Prop
  | mk (st : List Int × List Int) (t : Int) (a : kM st < j) (b : kM st ≤ 1000) (c : kahnF L us j st t = K) (es : σ' = σ₃ t) (r : Rep2 n dw da st z' led')
theorem f_is_finite (B : Base w b) (H : Aut n m R T) : FnR prog w b (k + 3) (.ref 116) [dfaA R T] (.bool (finiteF n R T)) := by
  have n5 := H.n5
  have n1 := H.n1
  have W := H.ways
  have hLn := W.len
  have h5' := H.links5
  have rg : ∀ j : Nat, j ≤ 100 → ∀ z v, Rep z v (.rng 0 j) → Src z v ((List.range j).map fun i : Nat => AV.int i) := fun j hj => src_rng (by lia)
  refine fn_body B rfl rfl (by kernel_rfl) rfl rfl rfl rfl rfl rfl (ps := [Str.ofString "dfa"]) rfl (bind1 fun _ => rfl) (by kernel_rfl) fun base z₀ env A s Q' Rm S h => ?_
  refine ex_assign S Rm (a := .list (avB (spreadF (linksF R) [0]))) (Ev.of_L (ev_callL B (ev_glob B (by rfl) (gv_reachable w) (fun z => .val _)) (keep_ w (by kernel_rfl)) (evs_cons (ev_name (by rfl)) evs_nil) (f_reachable B H))) (by decide) fun z₁ h₁ tk₁ S₁ l₁ => ?_
  refine ex_assign (s := (sh s h₁ tk₁)) (a := .list (avB (aliveF n R T))) S₁ Rm (Ev.of_L (ev_callL B (ev_glob B (by rfl) (gv_alive w) (fun z => .val _)) (keep_ w (by kernel_rfl)) (evs_cons (ev_name (by rfl)) evs_nil) (f_alive B H))) (by decide) fun z₂ h₂ tk₂ S₂ l₂ => ?_
  have hrl : (spreadF (linksF R) [0]).length = n := by simp [spreadF, hLn]
  have hal := aliveF_len H
  generalize hrch : spreadF (linksF R) [0] = rch at *
  refine ex_assign (s := (sh s h₂ tk₂)) (a := .list (avB (usefulF n R T))) S₂ Rm (Ev.of_L ?_) (by decide) (fun z₃ h₃ tk₃ S₃ l₃ => ?_) (noSwap S₂ (by rfl))
  · rw [show avB (usefulF n R T) = (List.range n).map fun i => AV.bool (rch.getD i false && (aliveF n R T).getD i false) by simp [avB, usefulF, hrch]]
    refine ev_comp (List.range n) (fun i : Nat => AV.int i) _ (ev_range1 B (by rfl) (ev_states B H (ev_name (by rfl)))) (rg n (k100 n5)) (sz_range (k1000 n5)) (fun i hi => ?_) rfl (by kernel_rfl)
    have hi := List.mem_range.mp hi
    exact ev_and (ev_item (xs := avB rch) (j := i) (ev_name (by rfl)) (ev_name (by rfl)) (inn i) (lt63 (le_k hi n5)) (avB_get (i := i) (Nat.lt_of_lt_of_eq hi hrl.symm))) fun _ => ev_item (xs := avB (aliveF n R T)) (j := i) (ev_name (by rfl)) (ev_name (by rfl)) (inn i) (lt63 (le_k hi n5)) (avB_get (i := i) (Nat.lt_of_lt_of_eq hi hal.symm))
  refine ex_assign (s := (sh s h₃ tk₃)) (a := .list ((linksF R).map rowA)) S₃ Rm (ev_links B H (ev_name (by rfl))) (by decide) fun z₄ h₄ tk₄ S₄ l₄ => ?_
  have hul : (usefulF n R T).length = n := by simp [usefulF]
  have hfin : finiteF n R T = (takenF n (linksF R) (usefulF n R T) == ((usefulF n R T).count true : Nat)) := rfl
  rw [hfin] at h
  clear hfin
  generalize usefulF n R T = us at *
  generalize linksF R = L at *
  refine ex_assignL (s := (sh s h₄ tk₄)) S₄ Rm (ev_lmul ev_int (ev_states B H (ev_name (by rfl))) (by lia) (by lia)) (by decide) fun da vs₀ m₀ z₅ h₅ tk₅ S₅ r₅ l₅ => ?_
  have r₅' : Reps z₅ vs₀ (avI (List.replicate n 0)) := by simpa [avI] using r₅
  let σ₁ : Sig := [(Str.ofString "arrivals", .val (.ref da)), (Str.ofString "links", .list (L.map rowA)), (Str.ofString "useful", .list (avB us)), (Str.ofString "dfa", dfaA R T)]
  have lk : ∀ i : Nat, i < n → ∃ r, L[i]? = some r ∧ L.getD i [] = r ∧ (∀ g ∈ r, 0 ≤ g ∧ g < n) ∧ r.length ≤ 5 := fun i hi => by
    have hi' : i < L.length := by lia
    refine ⟨L[i], List.getElem?_eq_getElem hi', by rw [List.getD_eq_getElem?_getD, List.getElem?_eq_getElem hi']; rfl, fun g hg => ?_, h5' _ (List.getElem_mem hi')⟩
    have := W.rng _ (List.getElem_mem hi') g hg
    lia
  refine ex_forS (s := (sh s h₅ tk₅)) (List.range n) (fun i : Nat => AV.int i) (arrP L us) (List.replicate n 0) (fun a => Rep1 σ₁ (fun o => [(da, o)]) (a.length = n) (avI a)) σ₁ S₅ Rm (ev_range1 B (by rfl) (ev_states B H (ev_name (by rfl)))) (rg n (k100 n5)) (by decide) (fun z' lz => ⟨rfl, by simp, vs₀, m₀, r₅'.le lz, rfl⟩) ?_ ?_
  · rintro _ st a z₆ h₆ tk₆ σ₆ led₆ I oI hst - ⟨rfl, hal, vs, mm, rv, rfl⟩ l₆ S₆
    have hst := List.mem_range.mp (List.mem_of_getElem? hst)
    obtain ⟨r, e1, e2, e3, e4⟩ := lk st hst
    refine ex_if (s := (sh s h₆ tk₆)) S₆ sees_refl Rm (evt_bool (ev_item (xs := avB us) (j := st) (ev_name (by rfl)) (ev_name (by rfl)) (inn st) (lt63 (le_k hst n5)) (avB_get (i := st) (Nat.lt_of_lt_of_eq hst hul.symm)))) fun h₇ tk₇ S₇ l₇ => ?_
    unfold arrP
    cases hu : us.getD st false with
    | false => exact ex_nil (ex_nil ⟨rfl, z₆, h₇, tk₇, σ₁, _, rfl, Le.rfl, S₇.cut σ₁, rfl, hal, vs, mm, rv, rfl⟩)
    | true =>
      simp only [if_true]
      rw [e2]
      let σ₂ : Sig := [(Str.ofString "state", .int st), (Str.ofString "arrivals", .val (.ref da)), (Str.ofString "links", .list (L.map rowA)), (Str.ofString "useful", .list (avB us)), (Str.ofString "dfa", dfaA R T)]
      refine ex_forS (s := (sh s h₇ tk₇)) r AV.int incW a (fun a => Rep1 σ₂ (fun o => [(I, oI), (da, o)]) (a.length = n) (avI a)) σ₂ S₇ Rm (ev_item (xs := L.map rowA) (j := st) (ev_name (by rfl)) (ev_name (by rfl)) (inn st) (lt63 (le_k hst n5)) (mapget e1)) src_list (by decide) (fun z' lz => ⟨rfl, hal, vs, mm, rv.le lz, rfl⟩) ?_ ?_
      · rintro _ g a z₈ h₈ tk₈ σ₈ led₈ I₂ oI₂ hg - ⟨rfl, hal, vs, mm, rv, rfl⟩ l₈ S₈
        have hg := e3 g (List.mem_of_getElem? hg)
        obtain ⟨v, hv, rv'⟩ := rv.get (i := g.toNat) (a := .int (a.getD g.toNat 0)) (by
          have : g.toNat < a.length := Nat.lt_of_lt_of_eq (tn hg) hal.symm
          simp [this])
        obtain ⟨u, rfl⟩ := rv'.int_inv
        refine ex_augitem (s := (sh s h₈ tk₈)) [(I₂, oI₂), (I, oI)] S₈ Rm (by rfl) (ev_name (a := .int g) (by rfl)) hg.1 (lt63i hg.2 n5) hv (fun _ _ => sees_refl) (ev_int (i := 1)) (.inl ⟨rfl, rfl⟩) fun t z' h' tk' S' l' => ?_
        refine ex_nil ⟨rfl, z', h', tk', σ₂, _, rfl, l', S'.cut σ₂, rfl, by rw [incW_len]; exact hal, _, mm, ?_, rfl⟩
        have := (rv.le l').set g.toNat (.int (a.getD g.toNat 0 + 1) t)
        simpa [avI, List.map_set, incW] using this
      · rintro z₈ h₈ tk₈ σ₈ led₈ ⟨rfl, hal, vs, mm, rv, rfl⟩ l₈ S₈
        exact ex_nil (ex_nil ⟨rfl, z₈, h₈, tk₈, σ₁, _, rfl, l₈, S₈.cut σ₁, rfl, hal, vs, mm, rv, rfl⟩)
  · rintro z₆ h₆ tk₆ σ₆ led₆ ⟨rfl, hal, vs, mm, rv, rfl⟩ l₆ S₆
    have hta : (List.range n).foldl (arrP L us) (List.replicate n 0) = arrF n L us := rfl
    rw [hta] at hal rv
    have hpa : posSum (arrF n L us) ≤ 25 := by
      have := arrPs_pos (us := us) h5' (List.range n) (List.replicate n 0)
      rw [posSum_rep, List.length_range] at this
      have : posSum (arrF n L us) ≤ 0 + 5 * n := this
      lia
    have htk : takenF n L us = kahnF L us (kM (arrF n L us, waitF n us (arrF n L us)) + 1) (arrF n L us, waitF n us (arrF n L us)) 0 := rfl
    generalize arrF n L us = a₀ at *
    have ea := S₆.at (d := da) (.head _)
    refine ex_assignCV (s := (sh s h₆ tk₆)) (List.range n) (fun i : Nat => AV.int i) (fun i => us.getD i false && a₀.getD i 0 == 0) (fun i : Nat => AV.int i) S₆ (sees_list (x := Str.ofString "arrivals") (xs := avI a₀) (by rfl) ea (rv.le S₆.X.zh) sees_refl) Rm (ev_range1 B (by rfl) (ev_states B H (ev_name (by rfl)))) (rg n (k100 n5)) (sz_range (k1000 n5))
      (fun i hi => ?_) (fun i hi _ => ev_name (by rfl)) rfl (by kernel_rfl) (by rfl) fun dw vw mw z₇' h₇ tk₇ S₇ r₇ => ?_
    · have hi := List.mem_range.mp hi
      exact evt_and (evt_bool (ev_item (xs := avB us) (j := i) (ev_name (by rfl)) (ev_name (by rfl)) (inn i) (lt63 (le_k hi n5)) (avB_get (i := i) (Nat.lt_of_lt_of_eq hi hul.symm)))) fun _ => evt_cmp (ev_item (xs := avI a₀) (j := i) (ev_name (by rfl)) (ev_name (by rfl)) (inn i) (lt63 (le_k hi n5)) (avI_get (i := i) (Nat.lt_of_lt_of_eq hi hal.symm))) (ev_int (i := 0)) cmp_eq
    · have r₇' : Reps z₆ vw (avI (waitF n us a₀)) := by
        have e : ((List.range n).filter fun i => us.getD i false && a₀.getD i 0 == 0).map (fun i : Nat => AV.int i) = avI (waitF n us a₀) := by simp [avI, waitF]
        rw [e] at r₇
        exact Reps.of_ints r₇.intsAre
      have hw₀ : ∀ g ∈ waitF n us a₀, 0 ≤ g ∧ g < n := fun g hg => by
        obtain ⟨i, hi, rfl⟩ := List.mem_map.mp hg
        have := List.mem_range.mp (List.mem_filter.mp hi).1
        lia
      have hwl : (waitF n us a₀).length ≤ n := by
        rw [waitF, List.length_map]
        have := List.length_filter_le (fun s => us.getD s false && a₀.getD s 0 == 0) (List.range n)
        rw [List.length_range] at this; exact this
      rw [htk] at h
      clear htk
      generalize waitF n us a₀ = w₀ at *
      refine ex_assign (s := (sh s h₇ tk₇)) S₇ Rm (ev_int (i := 0)) (by decide) fun z₈ h₈ tk₈ S₈ l₈ => ?_
      let σ₃ : Int → Sig := fun t => [(Str.ofString "taken", .int t), (Str.ofString "waiting", .val (.ref dw)), (Str.ofString "arrivals", .val (.ref da)), (Str.ofString "links", .list (L.map rowA)), (Str.ofString "useful", .list (avB us))]
      let rep : List Int × List Int → Heap → List (Addr × Obj) → Prop := Rep2 n dw da
      generalize hK : kahnF L us (kM (a₀, w₀) + 1) (a₀, w₀) 0 = K at *
      refine ex_while (s := (sh s h₈ tk₈)) (KWh n dw da L us K σ₃) (kM (a₀, w₀) + 1) (S₈.cut (σ₃ 0)) Rm
        ⟨(a₀, w₀), 0, Nat.lt_succ_self _, by simp only [kM]; lia, hK, rfl, hal, hw₀, vw, mw, vs, mm, r₇'.le l₈, rv.le l₈, rfl⟩ ?_
      rintro j z₉ h₉ tk₉ σ₉ led₉ ⟨⟨a, wt⟩, t, hj, hk1, hkf, rfl, hla, hwr, vw, mw, va, ma, rw', ra, rfl⟩ lz₉ S₉
      dsimp only at hla hwr rw' ra
      have hkw : wt.length ≤ 1000 := by simp only [kM] at hk1; lia
      have ew := S₉.at (d := dw) (.head _)
      refine ⟨!(avI wt).isEmpty, _, sees_list (x := Str.ofString "waiting") (by rfl) ew (rw'.le S₉.X.zh) sees_refl, evt_list (ev_name (by rfl)) (by simp; lia), fun hc h₁₀ tk₁₀ S₁₀ => ?_, fun hc h₁₀ tk₁₀ S₁₀ => ?_⟩
      · rcases List.eq_nil_or_concat wt with e | ⟨us', p, e⟩
        · subst e; simp at hc
        · rw [List.concat_eq_append] at e
          subst e
          simp only [avI, List.map_append, List.map_cons, List.map_nil] at rw'
          obtain ⟨vw', v, rfl, r₁, r₂⟩ := rw'.snoc_inv
          have hp := hwr p (by simp)
          obtain ⟨j, rfl⟩ : ∃ j', j = j' + 1 := ⟨j - 1, by lia⟩
          unfold kahnF at hkf
          rw [List.getLast?_concat] at hkf
          dsimp only at hkf
          rw [List.dropLast_concat] at hkf
          have hvl := r₁.length
          simp only [List.length_map, List.length_append, List.length_singleton] at hvl hkw
          refine ex_pop (s := (sh s h₁₀ tk₁₀)) [] S₁₀ Rm (by rfl) (by decide) r₂ (sz_ok (by lia)) fun mw' h₁₁ tk₁₁ S₁₁ => ?_
          refine ex_aug (s := (sh s h₁₁ tk₁₁)) (p := t) (r := t + 1) S₁₁ Rm (by rfl) (by decide) sees_refl (ev_int (i := 1)) (.inl ⟨rfl, rfl⟩) fun h₁₂ tk₁₂ S₁₂ => ?_
          obtain ⟨r, e1, e2, e3, e4⟩ := lk p.toNat (tn hp)
          rw [e2] at hkf
          have hkM : kM (a, us') + 1 = kM (a, us' ++ [p]) := by simp only [kM, List.length_append, List.length_singleton]; lia
          let σ₄ : Sig := [(Str.ofString "taken", .int (t + 1)), (Str.ofString "state", .int p), (Str.ofString "waiting", .val (.ref dw)), (Str.ofString "arrivals", .val (.ref da)), (Str.ofString "links", .list (L.map rowA)), (Str.ofString "useful", .list (avB us))]
          refine ex_forS (s := (sh s h₁₂ tk₁₂)) r AV.int (decW us) (a, us') (fun st z' σ' led' => σ' = σ₄ ∧ rep st z' led') σ₄ S₁₂ Rm (ev_item (xs := L.map rowA) (j := p) (ev_name (by rfl)) (ev_name (by rfl)) hp.1 (lt63i hp.2 n5) (mapget e1)) src_list (by decide)
            (fun z' lz => ⟨rfl, hla, fun g hg => hwr g (by simp [hg]), vw', mw', va, ma, r₁.le lz, ra.le lz, rfl⟩) ?_ ?_
          · rintro i g ⟨a₁, w₁⟩ z₁₃ h₁₃ tk₁₃ σ₁₃ led₁₃ I oI hg hst ⟨rfl, hla, hwr, vw₁, mw₁, va₁, ma₁, rw₁, ra₁, rfl⟩ l₁₃ S₁₃
            dsimp only at hla hwr rw₁ ra₁
            have hgr := e3 g (List.mem_of_getElem? hg)
            have hkb : kM (a₁, w₁) ≤ 1000 := by
              rw [hst]
              have := decWs_kM us (r.take i) (a, us') (fun x hx => by
                have := e3 x (List.mem_of_mem_take hx)
                show x.toNat < a.length
                lia)
              lia
            have hw1 : w₁.length ≤ 1000 := by simp only [kM] at hkb; lia
            have hga : g.toNat < a₁.length := Nat.lt_of_lt_of_eq (tn hgr) hla.symm
            obtain ⟨v', hv', rv'⟩ := ra₁.get (i := g.toNat) (a := .int (a₁.getD g.toNat 0)) (by simp [hga])
            obtain ⟨u, rfl⟩ := rv'.int_inv
            refine ex_augitem (s := (sh s h₁₃ tk₁₃)) [(I, oI), (dw, lstO vw₁ mw₁)] S₁₃ Rm (by rfl) (ev_name (a := .int g) (by rfl)) hgr.1 (lt63i hgr.2 n5) hv' (fun _ _ => sees_refl) (ev_int (i := 1)) (.inr ⟨rfl, rfl⟩) fun t₂ z₁₄ h₁₄ tk₁₄ S₁₄ l₁₄ => ?_
            have ra₂ : Reps z₁₄ (va₁.set g.toNat (.int (a₁.getD g.toNat 0 - 1) t₂)) (avI (a₁.set g.toNat (a₁.getD g.toNat 0 - 1))) := by
              have := (ra₁.le l₁₄).set g.toNat (.int (a₁.getD g.toNat 0 - 1) t₂)
              simpa [avI, List.map_set] using this
            have ea₂ := S₁₄.at (d := da) (.tail _ (.tail _ (.head _)))
            refine ex_if (s := (sh s h₁₄ tk₁₄)) S₁₄ (sees_list (x := Str.ofString "arrivals") (xs := avI (a₁.set g.toNat (a₁.getD g.toNat 0 - 1))) (by rfl) ea₂ (ra₂.le S₁₄.X.zh) sees_refl) Rm
              (evt_and (evt_cmp (ev_item (xs := avI (a₁.set g.toNat (a₁.getD g.toNat 0 - 1))) (j := g) (ev_name (by rfl)) (ev_name (by rfl)) hgr.1 (lt63i hgr.2 n5) (avI_get (by rw [List.length_set]; exact hga))) (ev_int (i := 0)) cmp_eq)
                fun _ => evt_bool (ev_item (xs := avB us) (j := g) (ev_name (by rfl)) (ev_name (by rfl)) hgr.1 (lt63i hgr.2 n5) (avB_get (Nat.lt_of_lt_of_eq (tn hgr) hul.symm)))) fun h₁₅ tk₁₅ S₁₅ l₁₅ => ?_
            have hla₂ : (a₁.set g.toNat (a₁.getD g.toNat 0 - 1)).length = n := by rw [List.length_set]; exact hla
            cases hcc : ((a₁.set g.toNat (a₁.getD g.toNat 0 - 1)).getD g.toNat 0 == 0 && us.getD g.toNat false) with
            | false =>
              have ed : decW us (a₁, w₁) g = (a₁.set g.toNat (a₁.getD g.toNat 0 - 1), w₁) := by unfold decW; dsimp only; rw [hcc]; rfl
              rw [ed]
              exact ex_nil (ex_nil ⟨rfl, z₁₄, h₁₅, tk₁₅, σ₄, _, rfl, l₁₄, S₁₅.cut σ₄, rfl, hla₂, hwr, vw₁, mw₁, _, ma₁, rw₁.le l₁₄, ra₂, rfl⟩)
            | true =>
              have ed : decW us (a₁, w₁) g = (a₁.set g.toNat (a₁.getD g.toNat 0 - 1), w₁ ++ [g]) := by unfold decW; dsimp only; rw [hcc]; rfl
              rw [ed]
              have hvl₁ := rw₁.length
              simp only [List.length_map] at hvl₁
              refine ex_append (s := (sh s h₁₅ tk₁₅)) [(I, oI)] S₁₅ Rm (by rfl) (ev_name (a := .int g) (by rfl)) (sz_ok (by lia)) fun v m₂ z' h' tk' S' l' r' => ?_
              refine ex_nil (ex_nil ⟨rfl, z', h', tk', σ₄, _, rfl, l₁₄.trans l', S'.cut σ₄, rfl, hla₂, fun x hx => ?_, vw₁ ++ [v], m₂, _, ma₁, ?_, ra₂.le l', rfl⟩)
              · rcases List.mem_append.mp hx with hx | hx
                · exact hwr x hx
                · rw [List.mem_singleton.mp hx]; exact hgr
              · rw [avI, List.map_append]
                exact (rw₁.le (l₁₄.trans l')).append (.cons r' .nil)
          · rintro z₁₃ h₁₃ tk₁₃ σ₁₃ led₁₃ ⟨rfl, hr⟩ l₁₃ S₁₃
            have hkd : kM (r.foldl (decW us) (a, us')) ≤ kM (a, us') := decWs_kM us r (a, us') (fun x hx => by
              have := e3 x hx
              show x.toNat < a.length
              lia)
            exact ex_nil ⟨rfl, z₁₃, h₁₃, tk₁₃, σ₃ (t + 1), led₁₃, j, Nat.lt_succ_self _, rfl, l₁₃, S₁₃.cut (σ₃ (t + 1)), _, t + 1, by lia, by lia, hkf, rfl, hr⟩
      · have e : wt = [] := by cases wt with | nil => rfl | cons _ _ => simp at hc
        subst e
        obtain ⟨j, rfl⟩ : ∃ j', j = j' + 1 := ⟨j - 1, by lia⟩
        have ek : t = K := by rw [← hkf]; rfl
        subst ek
        refine ex_ret (s := (sh s h₁₀ tk₁₀)) S₁₀ Rm (ev_cmp (ev_name (by rfl)) (ev_countB (ev_name (by rfl)) ev_bool) cmp_eq) fun v z' h' tk S' r => h _ z' h' tk S'.G r
end
end Mine
end
section
namespace Mine
noncomputable abbrev absI (c : Int) : Int := if c < 0 then -c else c
noncomputable def penS (n c : Int) : Int := n * 1000003 + 2 * absI c + (if c < 0 then 1 else 0)
noncomputable def penF (l : List Int) : Int := l.foldl penS 1
theorem penS_nonneg {n c : Int} (h : 0 ≤ n) : 0 ≤ penS n c := by unfold penS absI; split <;> lia
theorem penF_nonneg (l : List Int) : 0 ≤ penF l := by
  have : ∀ (l : List Int) (n : Int), 0 ≤ n → 0 ≤ l.foldl penS n := by
    intro l
    induction l with
    | nil => intro n h; exact h
    | cons c l ih => intro n h; exact ih _ (penS_nonneg h)
  exact this l 1 (by lia)
noncomputable def inkF (t : Int × Int) (many : Int) : Int × Int := if t.1 < many then (t.1 + 104729 + 7919 * (t.2 + 1) ^ 5, t.2 + 1) else t
noncomputable def drawF (t : Int × Int) (many : Int) : Int × (Int × Int) := (Int.fmod (inkF t many).1 many, (Int.fdiv (inkF t many).1 many, (inkF t many).2))
/-- a pen that has drawn j times at most -/
structure PenOK (j : Nat) (t : Int × Int) : Prop where
  h1 : 0 ≤ t.2
  h2 : t.2 ≤ j
theorem PenOK.ink {j : Nat} {t : Int × Int} (H : PenOK j t) (m : Int) : PenOK (j + 1) (inkF t m) := by
  have := H.h1; have := H.h2
  unfold inkF
  split
  · exact ⟨by show 0 ≤ t.2 + 1; lia, by show t.2 + 1 ≤ _; lia⟩
  · exact ⟨H.h1, by lia⟩
theorem PenOK.draw {j : Nat} {t : Int × Int} (H : PenOK j t) (m : Int) : PenOK (j + 1) (drawF t m).2 := ⟨(H.ink m).h1, (H.ink m).h2⟩
theorem drawF_rng (t : Int × Int) {m : Int} (hm : 0 < m) : 0 ≤ (drawF t m).1 ∧ (drawF t m).1 < m := ⟨Int.fmod_nonneg_of_pos _ hm, Int.fmod_lt_of_pos _ hm⟩
end Mine
end
section
set_option maxRecDepth 100000
open PySem PySem.W PyProof.Rows PySem.Calls PySem.Spec PySem.SeqAt
open PySem.Builtin.Int (intBits)
namespace Mine
theorem slicePick_over (items : Array Value) (b : Nat) (hb : items.size ≤ b) : slicePick items none (some (b : Int)) none = items := by
  have e : sliceBounds none (some (b : Int)) none items.size = (((0 : Nat) : Int), (items.size : Int), 1) := by
    simp only [sliceBounds, Option.getD_none]
    have h2 : ¬ ((b : Int) < 0) := by lia
    simp only [h2, if_false, show (1 : Int) > 0 by decide, if_true]
    congr 1
    congr 1; lia
  unfold slicePick
  rw [e]
  simp only [sliceRange_one, pick_run]
  rw [List.drop_zero, Nat.sub_zero, List.take_of_length_le (by simp)]
section
variable {prog : Program} {w : World} {b : Heap} {k n m : Nat} {ns : List (Str × NameKind)} {σ : Sig}
theorem ev_uptoV {x : Str} {xp sp pos : Pos} {u : Expr} {l : Addr} {vs : List Value} {is : List Int} {j : Nat} (hv : Ev prog w b k ns σ (.Name x xp) (.val (.ref l))) (hl : b.IsList l vs.toArray) (hi : IntsAre vs is) (hu : Ev prog w b k ns σ u (.int j)) (hj : vs.length ≤ j) (hsz : vs.length ≤ sizeLine) :
    EvL prog w b k ns σ (.Subscript (.Name x xp) (.Slice none (some u) none sp) pos) (avI is) := by
  intro env z A s Q E X R h
  refine wpAny_Subscript_list_slice (hv env z A s _ E X R fun v₁ z₁ h₁ tk₁ g₁ r₁ => ?_)
  rw [evalPart_none]
  refine wpAny_pure ?_
  rw [evalPart_some]
  refine hu env z₁ A _ _ E (X.le g₁) R fun v₂ z₂ h₂ tk₂ g₂ r₂ => ?_
  obtain ⟨t, rfl⟩ := r₂.int_inv
  rw [r₁.val_inv]
  have g := g₁.trans g₂
  refine ⟨l, vs.toArray, none, some (j : Int), rfl, isList_le ((X.bz.trans g.zz).trans g.zh) hl, by simpa using hsz, .none, .int _ _, ?_⟩
  rw [slicePick_over vs.toArray j (by simpa using hj)]
  have hk : Le h₂ ((h₂.push { cls := .type "slice", data := .fields #[.none, .int j t, .none] }).push (lstO vs 0)) := (Le.rfl.push _).push _
  have hs : (h₂.push { cls := .type "slice", data := .fields #[.none, .int j t, .none] }).objs.size = h₂.objs.size + 1 := Heap.size_push ..
  refine h (h₂.objs.size + 1) vs 0 z₂ _ tk₂ (g.more hk) (g.hh.none (get_fresh _ (Nat.le_succ _))) (g.zh.none (get_fresh _ (Nat.le_succ _))) ?_ (Reps.of_ints hi)
  rw [← hs]; exact Heap.get?_push_size _ rfl
theorem ev_ifint {t e₁ e₂ : Expr} {pos : Pos} {c : Bool} {i j : Int} (H : EvT prog w b k ns σ t c) (H₁ : Ev prog w b k ns σ e₁ (.int i)) (H₂ : Ev prog w b k ns σ e₂ (.int j)) :
    Ev prog w b k ns σ (.IfExp t e₁ e₂ pos) (.int (if c = true then i else j)) := by
  have e : AV.int (if c = true then i else j) = if c = true then AV.int i else AV.int j := by cases c <;> rfl
  rw [e]
  exact ev_ifexp H (fun _ => H₁) fun _ => H₂
theorem bits_absI {c : Int} {B : Nat} (h : intBits c ≤ B) : intBits (absI c) ≤ B := intBits_le_of_natAbs (by unfold absI; split <;> lia) h
theorem penS_bits {n c : Int} {B : Nat} (hn : intBits n ≤ B) (hc : intBits c ≤ 2 ^ 20) (hB : 2 ^ 20 + 2 ≤ B) : intBits (penS n c) ≤ B + 22 := by
  have h1 : intBits (n * 1000003) ≤ B + 20 := intBits_mul_le hn (by decide)
  have h2 : intBits (2 * absI c) ≤ 2 + 2 ^ 20 := intBits_mul_le (m := 2) (by decide) (bits_absI hc)
  have h3 := intBits_add_le h1 h2
  have h4 : intBits (if c < 0 then 1 else 0) ≤ 1 := by split <;> decide
  have h5 := intBits_add_le h3 h4
  refine Nat.le_trans h5 ?_
  have : max (B + 20) (2 + 2 ^ 20) = B + 20 := Nat.max_eq_left (by lia)
  rw [this]
  have : max (B + 20 + 1) 1 = B + 21 := Nat.max_eq_left (by lia)
  lia
theorem penFs_bits : ∀ (l : List Int) {n : Int} {B : Nat}, intBits n ≤ B → (∀ c ∈ l, intBits c ≤ 2 ^ 20) → 2 ^ 20 + 2 ≤ B → intBits (l.foldl penS n) ≤ B + 22 * l.length
  | [], n, B, h, _, _ => h
  | c :: l, n, B, h, hl, hB => by
    have := penFs_bits l (penS_bits h (hl c (.head _)) hB) (fun x hx => hl x (.tail _ hx)) (by lia)
    rw [List.foldl_cons, List.length_cons]
    lia
theorem gv_law_pen (w : World) : GV w (Str.ofString "_law_pen") (.ref 147) := gv w (by kernel_rfl)
theorem gv_law_draw (w : World) : GV w (Str.ofString "_law_draw") (.ref 154) := gv w (by kernel_rfl)
theorem f_law_pen (B : Base w b) {l : Addr} {vs : List Value} {is : List Int} (hl : b.IsList l vs.toArray) (hi : IntsAre vs is) (h63 : is.length ≤ 63) (hb : ∀ c ∈ is, intBits c ≤ 2 ^ 20) :
    FnL prog w b (k + 1) (.ref 147) [.val (.ref l)] [.int (penF is), .int 0] := by
  have hlen : vs.length = is.length := hi.length
  refine fn_bodyL B rfl rfl (by kernel_rfl) rfl rfl rfl rfl rfl rfl (ps := [Str.ofString "script"]) rfl (bind1 fun _ => rfl) (by kernel_rfl) fun base z₀ env A s Q' Rm S h => ?_
  refine ex_assign S Rm (ev_int (i := 1)) (by decide) fun z₁ h₁ tk₁ S₁ l₁ => ?_
  let σ₁ : Int → Sig := fun n => [(Str.ofString "number", .int n), (Str.ofString "script", .val (.ref l))]
  refine ex_forS (s := (sh s h₁ tk₁)) is AV.int penS 1 (fun n _ σ' led' => σ' = σ₁ n ∧ led' = []) (σ₁ 1) S₁ Rm (Ev.of_L (ev_uptoV (j := 63) (ev_name (by rfl)) hl hi (ev_int (i := 63)) (by lia) (sz_ok (by lia)))) src_list (by decide) (fun _ _ => ⟨rfl, rfl⟩) ?_ ?_
  · rintro i c st z₂ h₂ tk₂ σ₂ led₂ I oI hc hst ⟨rfl, rfl⟩ lz₂ S₂
    have hcm := List.mem_of_getElem? hc
    have hbs : intBits st ≤ 2 ^ 20 + 2 + 22 * 63 := by
      rw [hst]
      have := penFs_bits (is.take i) (n := 1) (B := 2 ^ 20 + 2) (by decide) (fun x hx => hb x (List.mem_of_mem_take hx)) (Nat.le_refl _)
      have hle : (is.take i).length ≤ 63 := by rw [List.length_take]; lia
      lia
    have hba := bits_absI (hb c hcm)
    refine ex_assign (s := (sh s h₂ tk₂)) (a := .int (penS st c)) S₂ Rm ?_ (by decide) fun z₃ h₃ tk₃ S₃ l₃ => ?_
    · have e : penS st c = st * 1000003 + 2 * absI c + (if decide (c < 0) = true then 1 else 0) := by unfold penS; simp
      rw [e]
      exact ev_bin (ev_bin (ev_bin (ev_name (by rfl)) (ev_int (i := 1000003)) (bin_mul (IntMulOk.of_le hbs (n := 20) (by decide) (by lia))))
        (ev_bin (ev_int (i := 2)) (ev_call B (ev_glob B (by rfl) (gv_abs w) (fun z => .val _)) (.inl ⟨_, rfl⟩) (evs_cons (ev_call B (ev_glob B (by rfl) (gv_int w) (fun z => .val _)) (.inr (.inl ⟨_, rfl⟩)) (evs_cons (ev_name (by rfl)) evs_nil) fn_int) evs_nil) fn_abs)
          (bin_mul (IntMulOk.of_le (m := 2) (by decide) hba (by lia)))) bin_add) (ev_ifint (evt_cmp (ev_name (by rfl)) (ev_int (i := 0)) cmp_lt) (ev_int (i := 1)) (ev_int (i := 0))) bin_add
    · exact ex_nil ⟨rfl, z₃, h₃, tk₃, σ₁ (penS st c), _, rfl, l₃, S₃.cut (σ₁ (penS st c)), rfl, rfl⟩
  · rintro z₂ h₂ tk₂ σ₂ led₂ ⟨rfl, rfl⟩ lz₂ S₂
    refine ex_retL (s := (sh s h₂ tk₂)) S₂ Rm (ev_list (evs_cons (ev_name (by rfl)) (evs_cons (ev_int (i := 0)) evs_nil)) (by show 2 ≤ sizeLine; decide)) fun l vs m z' h' tk S' r => ?_
    obtain ⟨e1, e2, e3, _⟩ := S'.ld (l, lstO vs m) (.head _)
    exact h l vs m z' h' tk S'.G e3 e2 e1 r

theorem pen_reps (h : Heap) (x y : Int) (u v : Tok) : Reps h [.int x u, .int y v] (avI [x, y]) := .cons (.int _ _) (.cons (.int _ _) .nil)
theorem draw_tail {base z₀ : Heap} {env : Env} {A : Around} {s : Shared} {d : Addr} {x y many : Int} {u v : Tok} {nn : Nat} {z' h' : Heap} {tk' : Nat} {Q : Flow → Shared → Prop} {E : Value → Shared → Prop} {p₁ p₂ p₃ p₄ p₅ p₆ p₇ p₈ p₉ q₁ q₂ q₃ q₄ q₅ q₆ q₇ q₈ q₉ : Pos} {k₁ k₂ k₃ : Nat} (Rm : Room A k)
    (hd : KindOk ns (Str.ofString "digit")) (hp : σ.lookup (Str.ofString "pen") = some (.val (.ref d))) (hm : σ.lookup (Str.ofString "many") = some (.int many)) (h0 : 0 < many) (h1 : many ≤ 100)
    (S : St w b ns base z₀ env z' h' σ [(d, lstO [.int x u, .int y v] nn)])
    (hq : ∀ u v nn vv z' h' tk σ', St w b ns base z₀ env z' h' σ' [(d, lstO [.int (x.fdiv many) u, .int y v] nn)] → Rep z' vv (.int (x.fmod many)) → Q (.ret vv) (sh s h' tk)) :
    wpAny (model prog w) A (execs [.Assign [.Name (Str.ofString "digit") p₁] (.BinOp (.Subscript (.Name (Str.ofString "pen") p₂) (.Constant (.int 0) k₁ p₃) p₄) .Mod (.Name (Str.ofString "many") p₅) p₆) p₇,
      .Assign [.Subscript (.Name (Str.ofString "pen") p₈) (.Constant (.int 0) k₂ p₉) q₁] (.BinOp (.Subscript (.Name (Str.ofString "pen") q₂) (.Constant (.int 0) k₃ q₃) q₄) .FloorDiv (.Name (Str.ofString "many") q₅) q₆) q₇,
      .Return (some (.Name (Str.ofString "digit") q₈)) q₉] env) Q E (sh s h' tk') := by
  have ed := S.at (d := d) (.head _)
  refine ex_assignV (s := (sh s h' tk')) S (sees_list (x := Str.ofString "pen") (xs := avI [x, y]) hp ed (pen_reps _ _ _ _ _) sees_refl) Rm (a := .int (x.fmod many))
    (ev_bin (ev_item (xs := avI [x, y]) (a := .int x) (ev_name (by rfl)) (ev_int (i := 0)) (by decide) (by decide) rfl) (ev_name (a := .int many) (by exact hm)) (bin_mod (by lia))) (.int _) hd fun h₁ tk₁ S₁ => ?_
  have ed₁ := S₁.at (d := d) (.head _)
  have hp₁ : List.lookup (Str.ofString "pen") ((Str.ofString "digit", AV.int (x.fmod many)) :: σ) = some (.val (.ref d)) := hp
  have hm₁ : List.lookup (Str.ofString "many") ((Str.ofString "pen", AV.list (avI [x, y])) :: (Str.ofString "digit", AV.int (x.fmod many)) :: σ) = some (.int many) := hm
  refine ex_setitem (s := (sh s h₁ tk₁)) [] S₁ (sees_list (x := Str.ofString "pen") (xs := avI [x, y]) hp₁ ed₁ (pen_reps _ _ _ _ _) sees_refl) Rm (a := .int (x.fdiv many))
    (ev_bin (ev_item (xs := avI [x, y]) (a := .int x) (ev_name (by rfl)) (ev_int (i := 0)) (by decide) (by decide) rfl) (ev_name (a := .int many) hm₁) (bin_fdiv (by lia) (by lia))) (.int _) hp₁ (ev_int (i := 0)) (by decide) (by show (0 : Int) < 2; decide) (by decide) fun vv z₂ h₂ tk₂ S₂ l₂ r₂ => ?_
  obtain ⟨t₂, rfl⟩ := (r₂ z₂).int_inv
  exact ex_ret (s := (sh s h₂ tk₂)) (a := .int (x.fmod many)) S₂ Rm (ev_name (by rfl)) fun vv z' h' tk S' r => hq t₂ v nn vv z' h' tk _ S' r

theorem f_law_draw (B : Base w b) {d : Addr} {t : Int × Int} {many : Int} {j : Nat} (hm : 0 < many) (hm' : many ≤ 100) (hp : PenOK j t) (hj : j ≤ 1000) :
    FnM prog w b (k + 1) (penU d) t (.ref 154) [.val (.ref d), .int many] (.int (drawF t many).1) (drawF t many).2 := by
  intro z A s Q E vs F bz lz R zo p rs h
  obtain ⟨u, v, nn, ep⟩ := p
  have dz : z.get? d = none := zo d rfl
  refine enter B (ps := [Str.ofString "pen", Str.ofString "many"]) rfl (by kernel_rfl) rfl rfl rfl rfl rfl rfl rfl rfl rfl (bind2 (fun _ _ => rfl) vs (rs.length.trans rfl)) (by kernel_rfl) F bz lz R rs fun env h₁ tk₁ S Rm => ?_
  have S := S.open ep dz
  have h1 := hp.h1
  have h2 := hp.h2
  have ed := S.at (d := d) (.head _)
  refine ex_if (s := (sh s h₁ tk₁)) S (sees_list (x := Str.ofString "pen") (xs := avI [t.1, t.2]) (by rfl) ed (pen_reps _ _ _ _ _) sees_refl) Rm
    (evt_cmp (ev_item (xs := avI [t.1, t.2]) (a := .int t.1) (ev_name (by rfl)) (ev_int (i := 0)) (by decide) (by decide) rfl) (ev_name (a := .int many) (by rfl)) cmp_lt) fun h₂ tk₂ S₂ l₂ => ?_
  by_cases hc : t.1 < many
  · have hink : inkF t many = (t.1 + 104729 + 7919 * (t.2 + 1) ^ 5, t.2 + 1) := by unfold inkF; rw [if_pos hc]
    rw [decide_eq_true hc]
    simp only [if_true]
    have ed₂ := S₂.at (d := d) (.head _)
    refine ex_setitem (s := (sh s h₂ tk₂)) [] S₂ (sees_list (x := Str.ofString "pen") (xs := avI [t.1, t.2]) (by rfl) ed₂ (pen_reps _ _ _ _ _) sees_refl) Rm (a := .int (t.2 + 1))
      (ev_bin (ev_item (xs := avI [t.1, t.2]) (a := .int t.2) (ev_name (by rfl)) (ev_int (i := 1)) (by decide) (by decide) rfl) (ev_int (i := 1)) bin_add) (.int _) (by rfl) (ev_int (i := 1)) (by decide) (by show (1 : Int) < 2; decide) (by decide) fun vv z₃ h₃ tk₃ S₃ l₃ r₃ => ?_
    obtain ⟨t₃, rfl⟩ := (r₃ z₃).int_inv
    have S₃ := S₃.re (led' := [(d, lstO [.int t.1 u, .int (t.2 + 1) t₃] nn)]) rfl
    have ed₃ := S₃.at (d := d) (.head _)
    have hb : intBits (t.2 + 1) ≤ 64 := intBits_le_64 (by lia) (by lia)
    have hb5 : intBits ((t.2 + 1) ^ (5 : Int).toNat) ≤ 320 := by
      have e : (t.2 + 1) ^ (5 : Int).toNat = (t.2 + 1) * (t.2 + 1) * (t.2 + 1) * (t.2 + 1) * (t.2 + 1) := by
        show (t.2 + 1) ^ 5 = _
        simp [Int.pow_succ]
      rw [e]
      exact intBits_mul_le (m := 256) (intBits_mul_le (m := 192) (intBits_mul_le (m := 128) (intBits_mul_le hb hb) hb) hb) hb
    refine ex_setitem (s := (sh s h₃ tk₃)) [] S₃ (sees_list (x := Str.ofString "pen") (xs := avI [t.1, t.2 + 1]) (by rfl) ed₃ (pen_reps _ _ _ _ _) sees_refl) Rm (a := .int (t.1 + 104729 + 7919 * (t.2 + 1) ^ (5 : Int).toNat))
      (ev_bin (ev_bin (ev_item (xs := avI [t.1, t.2 + 1]) (a := .int t.1) (ev_name (by rfl)) (ev_int (i := 0)) (by decide) (by decide) rfl) (ev_int (i := 104729)) bin_add)
        (ev_bin (ev_int (i := 7919)) (ev_bin (ev_item (xs := avI [t.1, t.2 + 1]) (a := .int (t.2 + 1)) (ev_name (by rfl)) (ev_int (i := 1)) (by decide) (by decide) rfl) (ev_int (i := 5)) (bin_pow (by decide) (by lia)))
          (bin_mul (IntMulOk.of_le (m := 64) (by decide) hb5 (by lia)))) bin_add) (.int _) (by rfl) (ev_int (i := 0)) (by decide) (by show (0 : Int) < 2; decide) (by decide) fun vv z₄ h₄ tk₄ S₄ l₄ r₄ => ?_
    obtain ⟨t₄, rfl⟩ := (r₄ z₄).int_inv
    have S₄ := S₄.re (led' := [(d, lstO [.int (t.1 + 104729 + 7919 * (t.2 + 1) ^ (5 : Int).toNat) t₄, .int (t.2 + 1) t₃] nn)]) rfl
    refine ex_nil (draw_tail Rm (by decide) (by rfl) (by rfl) hm hm' S₄ fun u v nn vv z' h' tk σ' S' r => ?_)
    refine h vv z' h' tk S'.shut ⟨u, v, nn, ?_⟩ ?_
    · have := S'.at (d := d) (.head _)
      rw [drawF, hink]; exact this
    · rw [drawF, hink]; exact r
  · have hink : inkF t many = t := by unfold inkF; rw [if_neg hc]
    rw [decide_eq_false hc]
    simp only [Bool.false_eq_true, if_false]
    refine ex_nil (draw_tail Rm (by decide) (by rfl) (by rfl) hm hm' S₂ fun u v nn vv z' h' tk σ' S' r => ?_)
    refine h vv z' h' tk S'.shut ⟨u, v, nn, ?_⟩ ?_
    · have := S'.at (d := d) (.head _)
      rw [drawF, hink]; exact this
    · rw [drawF, hink]; exact r
end
end Mine
end
section
namespace Mine
noncomputable def triedS (R : List (List Int)) (st : List Int) : List Int := st.flatMap fun s => (R.getD s.toNat []).filter fun g => decide (0 ≤ g)
noncomputable def triedL (R : List (List Int)) : Nat → List Int
  | 0 => [0]
  | k + 1 => triedS R (triedL R k)
noncomputable def triedF (R T : List (List Int)) (k : Nat) : Nat := ((triedL R k).filter fun s => !decide (T.getD s.toNat [] = [])).length
theorem triedL_fold (R : List (List Int)) : ∀ k, (List.range k).foldl (fun st _ => triedS R st) [0] = triedL R k
  | 0 => rfl
  | k + 1 => by rw [List.range_succ, List.foldl_append, triedL_fold R k]; rfl
theorem triedS_len {R : List (List Int)} {c : Nat} (h : ∀ r ∈ R, r.length ≤ c) : ∀ st : List Int, (st.flatMap fun s => R.getD s.toNat []).length ≤ c * st.length
  | [] => Nat.zero_le _
  | s :: st => by
    have ih := triedS_len h st
    have : (R.getD s.toNat []).length ≤ c := by
      rw [List.getD_eq_getElem?_getD]
      cases e : R[s.toNat]? with
      | none => simp
      | some q => exact h q (List.mem_of_getElem? e)
    rw [List.flatMap_cons, List.length_append, List.length_cons, Nat.mul_succ]; lia
theorem triedS_le (R : List (List Int)) (st : List Int) : (triedS R st).length ≤ (st.flatMap fun s => R.getD s.toNat []).length := by
  induction st with
  | nil => exact Nat.le_refl _
  | cons s st ih =>
    unfold triedS at ih ⊢
    rw [List.flatMap_cons, List.flatMap_cons, List.length_append, List.length_append]
    have := List.length_filter_le (fun g : Int => decide (0 ≤ g)) (R.getD s.toNat [])
    lia
theorem triedL_len {R : List (List Int)} (h : ∀ r ∈ R, r.length ≤ 3) : ∀ k, (triedL R k).length ≤ 3 ^ k
  | 0 => Nat.le_refl _
  | k + 1 => by
    have h1 := triedL_len h k
    have h2 := triedS_le R (triedL R k)
    have h3 := triedS_len h (triedL R k)
    show (triedS R (triedL R k)).length ≤ _
    rw [Nat.pow_succ]; lia
theorem triedL_rng {R : List (List Int)} {n : Nat} (hn : 1 ≤ n) (h : ∀ r ∈ R, ∀ g ∈ r, -1 ≤ g ∧ g < n) : ∀ k, ∀ s ∈ triedL R k, 0 ≤ s ∧ s < n
  | 0, s, hs => by
    have := List.mem_singleton.mp hs; lia
  | k + 1, s, hs => by
    obtain ⟨q, hq, hs⟩ := List.mem_flatMap.mp hs
    obtain ⟨h1, h2⟩ := List.mem_filter.mp hs
    rw [List.getD_eq_getElem?_getD] at h1
    cases e : R[q.toNat]? with
    | none => rw [e] at h1; simp at h1
    | some r =>
      rw [e] at h1
      have := h r (List.mem_of_getElem? e) s h1
      have := of_decide_eq_true h2
      lia
end Mine
end
section
set_option maxRecDepth 100000
open PySem PySem.W PyProof.Rows PySem.Calls PySem.Spec PySem.SeqAt
namespace Mine
section
variable {prog : Program} {w : World} {b : Heap} {k : Nat} {ns : List (Str × NameKind)} {base z₀ : Heap} {env : Env} {z : Heap} {σ : Sig} {led : List (Addr × Obj)} {A : Around} {s : Shared} {E : Value → Shared → Prop}
/-- v = [elt for x in iter for y in iter2 if ct], v a plain local name -/
theorem ex_assignC2 {α β : Type} {elt iter iter2 ct : Expr} {x y v : Str} {px py pv pos spos : Pos} {scope : Scope} {src : AV} {rest : List Stmt} (as : List α) (enc : α → AV) (bs : α → List β) (enc2 : β → AV) (p : β → Bool) (f : β → AV) {Q : Flow → Shared → Prop}
    (S : St w b ns base z₀ env z s.heap σ led) (R : Room A k) (hit : Ev prog w b k ns σ iter src) (hsrc : ∀ z v, Rep z v src → Src z v (as.map enc))
    (hit2 : ∀ a ∈ as, Ev prog w b k (reNs scope.names ns) ((x, enc a) :: inner scope.names σ) iter2 (.list ((bs a).map enc2)))
    (hT : ∀ a ∈ as, ∀ g ∈ bs a, EvT prog w b k (reNs scope.names ns) ((y, enc2 g) :: (x, enc a) :: inner scope.names σ) ct (p g))
    (hE : ∀ a ∈ as, ∀ g ∈ bs a, p g = true → Ev prog w b k (reNs scope.names ns) ((y, enc2 g) :: (x, enc a) :: inner scope.names σ) elt (f g))
    (hsz : (as.flatMap bs).length ≤ sizeLine) (hxy : x ≠ y) (hk : scope.kind = .function) (hok : comp2Ok scope.names ns (σ.map (·.1)) x y = true) (hv : ns.lookup v = some .local)
    (h : ∀ l vs n z' h' tk, St w b ns base z₀ env z' h' ((v, .val (.ref l)) :: σ) ((l, lstO vs n) :: led) → Reps z' vs ((as.flatMap fun a => (bs a).filter p).map f) → Le z z' → wpAny (model prog w) A (execs rest env) Q E (sh s h' tk))
    (hsw : swapsWith (.ListComp elt [⟨.Name x px, iter, [], 0⟩, ⟨.Name y py, iter2, [ct], 0⟩] scope pos) (some (.Name v pv)) spos.line env = pure (env.blockKind == .function && env.kindOf v == some .local && true && true) := by rfl)
    (hs : ∀ x, foldedSetIterable iter env x = pure x := by intro _; rfl) (hs2 : ∀ env x, foldedSetIterable iter2 env x = pure x := by intro _ _; rfl) :
    wpAny (model prog w) A (execs (.Assign [.Name v pv] (.ListComp elt [⟨.Name x px, iter, [], 0⟩, ⟨.Name y py, iter2, [ct], 0⟩] scope pos) spos :: rest) env) Q E s := by
  have hky : env.kindOf v = some .local := by unfold Env.kindOf; rw [S.X.nm]; exact hv
  have hsw' : swapsWith (.ListComp elt [⟨.Name x px, iter, [], 0⟩, ⟨.Name y py, iter2, [ct], 0⟩] scope pos) (some (.Name v pv)) spos.line env = pure true := by
    rw [hsw, hky]
    unfold Env.blockKind
    rw [S.X.kd]; rfl
  refine ex_cons ?_
  rw [exec_Assign_Name_used _ _ _ _ hsw']
  refine wpAny_bind (wpAny_standAt (wpAny_bind ?_))
  show wpAny _ A (do let _ ← comprehension (.ListComp elt [⟨.Name x px, iter, [], 0⟩, ⟨.Name y py, iter2, [ct], 0⟩] scope pos) scope env _ (newList []) false (eval iter env) (some (assign (.Name v pv) env))) _ _ s
  refine wpAny_bind (wpAny_mono (comp2 (use := some (assign (.Name v pv) env)) (Q := fun _ s' => wpAny (model prog w) A (execs rest env) Q E s') as enc bs enc2 p f S.X R hit hsrc hit2 hT hE hsz hxy hk hok
    (fun l C vs n z' h' tk ml g n1 n2 e1 r1 c1 c2 c3 c4 => ?_) hs hs2) (fun _ s' q => wpAny_pure (wpAny_pure q)) fun _ _ q => q)
  have S₁ := S.push g n1 n2 e1
  have hCL : C ≠ env.locals := fun q => by
    obtain ⟨ml', hn', _⟩ := S.X.loc
    obtain ⟨oL, _, _, eL, _⟩ := hn'
    rw [q, eL] at c1; cases c1
  have hCc : ∀ m c, (m, c) ∈ env.cells → C ≠ c := fun m c hm q => by
    obtain ⟨_, _, _, v, o', e4, _⟩ := S.fc m c hm
    rw [q, e4] at c1; cases c1
  have hCl : ∀ p ∈ (l, lstO vs n) :: led, p.1 ≠ C := fun p hp q => by
    rcases List.mem_cons.mp hp with rfl | hp
    · exact c3 q.symm
    · have := (S.ld p hp).1; rw [q, c1] at this; cases this
  refine wpAny_assign_Name (st_store (s := (sh s h' tk)) S₁ (.val _) (.inl hv) fun h₆ tk₆ S₆ hk₆ => ?_)
  refine ⟨ml, c4.at' fun o e => (hk₆ C hCL hCc).trans e, fun h₇ hs₇ => ?_⟩
  exact h l vs n z' h₇ tk₆ (S₆.other (d := C) (fun c o hc e => (hs₇.2 c hc).trans e) c2 (S.G.hh.none c1) hCL hCc hCl) r1 g.zz
end
section
variable {prog : Program} {w : World} {b : Heap} {k n m : Nat} {R T : List (List Int)}
theorem getD_at {L : List (List Int)} {i : Int} (h0 : 0 ≤ i) (h : i < L.length) : ∃ r, L[i.toNat]? = some r ∧ L.getD i.toNat [] = r := by
  have hi : i.toNat < L.length := by lia
  exact ⟨L[i.toNat], List.getElem?_eq_getElem hi, by rw [List.getD_eq_getElem?_getD, List.getElem?_eq_getElem hi]; rfl⟩
theorem f_tried (B : Base w b) (H : Aut n m R T) {len : Nat} (hlen : len ≤ 4) : FnR prog w b (k + 1) (.ref 174) [.list (R.map rowA), .list (T.map tagA), .int len] (.int (triedF R T len)) := by
  have n5 := H.n5
  have n1 := H.n1
  have m3 := H.m3
  have hR := H.hR
  have hT := H.hT
  have h3 : ∀ r ∈ R, r.length ≤ 3 := fun r hr => by rw [H.row r hr]; exact m3
  have rng := triedL_rng n1 H.ent
  refine fn_body B rfl rfl (by kernel_rfl) rfl rfl rfl rfl rfl rfl (ps := [Str.ofString "rows", Str.ofString "tags", Str.ofString "length"]) rfl (bind3 fun _ _ _ => rfl) (by kernel_rfl) fun base z₀ env A s Q' Rm S h => ?_
  refine ex_assign S Rm (a := rowA [0]) (Ev.of_L (ev_list (evs_cons (ev_int (i := 0)) evs_nil))) (by decide) fun z₁ h₁ tk₁ S₁ l₁ => ?_
  let σ₀ : List Int → Sig := fun st => [(Str.ofString "states", rowA st), (Str.ofString "rows", .list (R.map rowA)), (Str.ofString "tags", .list (T.map tagA)), (Str.ofString "length", .int len)]
  refine ex_forS (s := (sh s h₁ tk₁)) (List.range len) (fun i : Nat => AV.int i) (fun st _ => triedS R st) [0] (fun st _ σ' led' => σ' = σ₀ st ∧ led' = []) (σ₀ [0]) S₁ Rm (ev_range1 B (by rfl) (ev_name (by rfl))) (src_rng (by lia)) (by decide) (fun _ _ => ⟨rfl, rfl⟩) ?_ ?_
  · rintro i c st z₂ h₂ tk₂ σ₂ led₂ I oI hc hst ⟨rfl, rfl⟩ lz₂ S₂
    have hi : i < len := by have := (List.getElem?_eq_some_iff.mp hc).1; rwa [List.length_range] at this
    have est : st = triedL R i := by rw [hst, List.take_range, Nat.min_eq_left (by lia), triedL_fold]
    have hsl : st.length ≤ 3 ^ 4 := by
      rw [est]
      exact Nat.le_trans (triedL_len h3 i) (Nat.pow_le_pow_right (by decide) (by lia))
    have hsr : ∀ x ∈ st, 0 ≤ x ∧ x < n := by rw [est]; exact rng i
    have hfl := triedS_len h3 st
    refine ex_assignC2 (s := (sh s h₂ tk₂)) st AV.int (fun q => R.getD q.toNat []) AV.int (fun g => decide (0 ≤ g)) AV.int S₂ Rm (ev_name (by rfl)) src_list (fun q hq => ?_) (fun q hq g hg => ?_) (fun q hq g hg _ => ev_name (by rfl)) (sz_ok (by lia)) (by decide) rfl (by kernel_rfl) (by rfl) fun l vs nn z₃ h₃ tk₃ S₃ r₃ l₃ => ?_
    · have hq' := hsr q hq
      obtain ⟨r, e1, e2⟩ := getD_at (L := R) hq'.1 (by lia)
      rw [e2]
      exact ev_item (xs := R.map rowA) (j := q) (ev_name (by rfl)) (ev_name (by rfl)) hq'.1 (by lia) (by simp [e1])
    · exact evt_cmp (ev_name (by rfl)) (ev_int (i := 0)) cmp_ge
    · have e : (st.flatMap fun q => (R.getD q.toNat []).filter fun g => decide (0 ≤ g)).map AV.int = avI (triedS R st) := rfl
      rw [e] at r₃
      obtain ⟨z₄, l₄, S₄⟩ := St.frz ((Str.ofString "turn", AV.int c) :: σ₀ (triedS R st)) S₃ r₃
      exact ex_nil ⟨rfl, z₄, h₃, tk₃, σ₀ (triedS R st), _, rfl, l₃.trans l₄, S₄.cut (σ₀ (triedS R st)), rfl, rfl⟩
  · rintro z₂ h₂ tk₂ σ₂ led₂ ⟨rfl, rfl⟩ lz₂ S₂
    rw [triedL_fold] at S₂
    have hsl : (triedL R len).length ≤ 3 ^ 4 := Nat.le_trans (triedL_len h3 len) (Nat.pow_le_pow_right (by decide) hlen)
    have hsr := rng len
    have hfl := List.length_filter_le (fun s => !decide (T.getD s.toNat [] = [])) (triedL R len)
    refine ex_ret (s := (sh s h₂ tk₂)) (a := .int (triedF R T len)) S₂ Rm (ev_len1 B (by rfl) (n := triedF R T len) (xs := ((triedL R len).filter fun s => !decide (T.getD s.toNat [] = [])).map AV.int) (Ev.of_L ?_) (by rw [List.length_map]; rfl) (by unfold triedF; lia)) fun v z' h' tk S' r => h _ z' h' tk S'.G r
    refine ev_compIf (triedL R len) AV.int (fun s => !decide (T.getD s.toNat [] = [])) AV.int (ev_name (by rfl)) src_list (sz_ok (by lia)) (fun q hq => ?_) (fun q hq _ => ev_name (by rfl)) rfl (by kernel_rfl)
    have hq' := hsr q hq
    obtain ⟨r, e1, e2⟩ := getD_at (L := T) hq'.1 (by lia)
    rw [e2]
    exact evt_cmp (ev_item (xs := T.map tagA) (j := q) (ev_name (by rfl)) (ev_name (by rfl)) hq'.1 (by lia) (by simp [e1])) (ev_tuple evs_nil) (cmp_ne_tup (l := r) (l' := []))
end
end Mine
end
section
namespace Mine
noncomputable abbrev entP (M : List (List Int)) (i j : Nat) : Int := (M.getD i []).getD j 0
noncomputable def timesP (n : Nat) (P Q : List (List Int)) : List (List Int) := (List.range n).map fun i => (List.range n).map fun j => ((List.range n).map fun a => entP P i a * entP Q a j).sum
noncomputable def trF (n : Nat) (M : List (List Int)) : Int := ((List.range n).map fun i => entP M i i).sum
noncomputable def diagS (c : Int) (M : List (List Int)) (i : Nat) : List (List Int) := M.set i ((M.getD i []).set i (entP M i i + c))
noncomputable def idM (n : Nat) : List (List Int) := (List.range n).map fun i : Nat => (List.range n).map fun j : Nat => if (i : Int) == (j : Int) then 1 else 0
/-- one turn of the polynomial's loop -/
noncomputable def polyS (n : Nat) (A : List (List Int)) (st : List (List Int) × List Int) (turn : Nat) : List (List Int) × List Int :=
  ((List.range n).foldl (diagS (Int.fdiv (-(trF n (timesP n A st.1))) (1 + turn))) (timesP n A st.1), st.2 ++ [Int.fdiv (-(trF n (timesP n A st.1))) (1 + turn)])
noncomputable def polyF (n : Nat) (A : List (List Int)) : List Int := ((List.range n).foldl (polyS n A) (idM n, [1])).2
structure SqP (n : Nat) (M : List (List Int)) : Prop where
  len : M.length = n
  row : ∀ r ∈ M, r.length = n
theorem timesP_sq (n : Nat) (P Q : List (List Int)) : SqP n (timesP n P Q) := ⟨by simp [timesP], fun r hr => by obtain ⟨i, _, rfl⟩ := List.mem_map.mp hr; simp⟩
theorem idM_sq (n : Nat) : SqP n (idM n) := ⟨by simp [idM], fun r hr => by obtain ⟨i, _, rfl⟩ := List.mem_map.mp hr; simp⟩
theorem SqP.at {n : Nat} {M : List (List Int)} (S : SqP n M) {i : Nat} (hi : i < n) : ∃ r, M[i]? = some r ∧ M.getD i [] = r ∧ r.length = n := by
  have h : i < M.length := by rw [S.len]; exact hi
  exact ⟨M[i], List.getElem?_eq_getElem h, by rw [List.getD_eq_getElem?_getD, List.getElem?_eq_getElem h]; rfl, S.row _ (List.getElem_mem h)⟩
theorem diagS_sq {n : Nat} {M : List (List Int)} (S : SqP n M) (c : Int) {i : Nat} (hi : i < n) : SqP n (diagS c M i) := by
  obtain ⟨r, e1, e2, e3⟩ := S.at hi
  refine ⟨by rw [diagS, List.length_set, S.len], fun q hq => ?_⟩
  unfold diagS at hq
  rcases List.mem_or_eq_of_mem_set hq with hq | rfl
  · exact S.row q hq
  · rw [List.length_set, e2, e3]
theorem diags_sq {n : Nat} (c : Int) : ∀ (is : List Nat) {M : List (List Int)}, SqP n M → (∀ i ∈ is, i < n) → SqP n (is.foldl (diagS c) M)
  | [], _, S, _ => S
  | i :: is, _, S, h => diags_sq c is (diagS_sq S c (h i (.head _))) fun j hj => h j (.tail _ hj)
theorem polyS_sq {n : Nat} {A : List (List Int)} {st : List (List Int) × List Int} (t : Nat) : SqP n (polyS n A st t).1 := diags_sq _ _ (timesP_sq _ _ _) fun i hi => List.mem_range.mp hi
theorem timesP_ent {n : Nat} {P Q : List (List Int)} {i j : Nat} (hi : i < n) (hj : j < n) : entP (timesP n P Q) i j = ((List.range n).map fun a => entP P i a * entP Q a j).sum := by
  unfold timesP entP
  simp [hi, hj]
theorem getD_set2 {α : Type} (l : List α) (i j : Nat) (v d : α) : (l.set i v).getD j d = if i = j ∧ i < l.length then v else l.getD j d := by
  rw [List.getD_eq_getElem?_getD, List.getD_eq_getElem?_getD, List.getElem?_set]
  by_cases h : i = j
  · subst h
    by_cases h2 : i < l.length
    · simp [h2]
    · rw [if_pos rfl, if_neg h2, if_neg (fun q => h2 q.2), List.getElem?_eq_none (by lia)]
  · rw [if_neg h, if_neg (fun q => h q.1)]
theorem diagS_ent {n : Nat} {M : List (List Int)} (S : SqP n M) (c : Int) {k : Nat} (hk : k < n) (i j : Nat) : entP (diagS c M k) i j = if i = k ∧ j = k then entP M i j + c else entP M i j := by
  obtain ⟨r, e1, e2, e3⟩ := S.at hk
  unfold entP diagS
  rw [getD_set2]
  by_cases h : k = i
  · subst h
    rw [if_pos ⟨rfl, by rw [S.len]; exact hk⟩, getD_set2, e2]
    by_cases h2 : k = j
    · subst h2
      rw [if_pos ⟨rfl, by rw [e3]; exact hk⟩, if_pos ⟨rfl, rfl⟩]
      unfold entP; rw [e2]
    · rw [if_neg (fun q => h2 q.1), if_neg (fun q => h2 q.2.symm)]
  · rw [if_neg (fun q => h q.1), if_neg (fun q => h q.1.symm)]
theorem diags_ent {n : Nat} (c : Int) (is : List Nat) : ∀ {M : List (List Int)}, SqP n M → (∀ i ∈ is, i < n) → is.Nodup → ∀ i j, entP (is.foldl (diagS c) M) i j = if i = j ∧ i ∈ is then entP M i j + c else entP M i j := by
  induction is with
  | nil => intro _ _ _ _ i j; simp
  | cons k is ih =>
    intro M S h nd i j
    rw [List.nodup_cons] at nd
    have hk := h k (.head _)
    rw [List.foldl_cons, ih (diagS_sq S c hk) (fun j hj => h j (.tail _ hj)) nd.2 i j, diagS_ent S c hk]
    by_cases h1 : i = j
    · subst h1
      by_cases h2 : i = k
      · subst h2
        rw [if_neg (fun q => nd.1 q.2), if_pos ⟨rfl, rfl⟩, if_pos ⟨rfl, .head _⟩]
      · by_cases h3 : i ∈ is
        · rw [if_pos ⟨rfl, h3⟩, if_neg (fun q => h2 q.1), if_pos ⟨rfl, .tail _ h3⟩]
        · rw [if_neg (fun q => h3 q.2), if_neg (fun q => h2 q.1), if_neg (fun q => by rcases List.mem_cons.mp q.2 with q | q; exact h2 q; exact h3 q)]
    · rw [if_neg (fun q => h1 q.1), if_neg (fun q => h1 (q.1.trans q.2.symm)), if_neg (fun q => h1 q.1)]
theorem polyS_ent {n : Nat} {A : List (List Int)} {st : List (List Int) × List Int} (t : Nat) (i j : Nat) (hi : i < n) : entP (polyS n A st t).1 i j = if i = j then entP (timesP n A st.1) i j + Int.fdiv (-(trF n (timesP n A st.1))) (1 + t) else entP (timesP n A st.1) i j := by
  unfold polyS
  rw [diags_ent _ _ (timesP_sq _ _ _) (fun i hi => List.mem_range.mp hi) List.nodup_range]
  by_cases h : i = j
  · rw [if_pos ⟨h, List.mem_range.mpr hi⟩, if_pos h]
  · rw [if_neg (fun q => h q.1), if_neg h]
end Mine
end
section
set_option maxRecDepth 100000
open PySem PySem.W PyProof.Rows PySem.Calls PySem.Spec PySem.SeqAt
open PySem.Builtin.Int (intBits)
namespace Mine
theorem sum_bits {B : Nat} : ∀ (l : List Int), (∀ x ∈ l, intBits x ≤ B) → intBits l.sum ≤ B + l.length
  | [], _ => by have : intBits ([] : List Int).sum = 0 := by decide
                lia
  | x :: l, h => by
    have h1 := sum_bits l fun y hy => h y (.tail _ hy)
    have h2 := h x (.head _)
    have h3 := intBits_add_le h2 h1
    rw [List.sum_cons, List.length_cons]
    have : max B (B + l.length) = B + l.length := Nat.max_eq_right (by lia)
    lia
section
variable {prog : Program} {w : World} {b : Heap} {k : Nat} {ns : List (Str × NameKind)} {base z₀ : Heap} {env : Env} {z : Heap} {σ τ : Sig} {led : List (Addr × Obj)} {A : Around} {s : Shared} {E : Value → Shared → Prop}
theorem sees_mat {x : Str} {d : Addr} {n : Nat} {h : Heap} {ledh : List (Addr × Obj)} {xss : List (List AV)} (hx : σ.lookup x = some (.val (.ref d))) (e : h.get? d = some (lstO (refs ledh) n)) (r : RowsAre h ledh xss) (hl : ∀ p ∈ ledh, h.get? p.1 = some p.2) (hs : Sees h σ τ) :
    Sees h σ ((x, .list (xss.map AV.list)) :: τ) := fun y a q => by
  rw [List.lookup_cons] at q
  cases hb : y == x with
  | true => rw [hb] at q; cases q; rw [eq_of_beq hb]; exact ⟨_, hx, fun v rv => by rw [rv.val_inv]; exact .list e (r.reps Le.rfl hl)⟩
  | false => rw [hb] at q; exact hs y a q
theorem RowsAre.ints {z z' : Heap} {led : List (Addr × Obj)} {L : List (List Int)} (h : RowsAre z led (L.map avI)) : RowsAre z' led (L.map avI) := by
  induction L generalizing led with
  | nil => cases h; exact .nil
  | cons x L ih => cases h with | cons r t => exact .cons (Reps.of_ints r.intsAre) (ih t)
/-- x = a new list of new lists of numbers, with all that stands seen -/
theorem ex_assignLLV {x : Str} {px pos : Pos} {value : Expr} {rest : List Stmt} {L : List (List Int)} {Q : Flow → Shared → Prop} (S : St w b ns base z₀ env z s.heap σ led) (hs : Sees s.heap σ τ) (R : Room A k) (H : EvLL prog w b k ns τ value (L.map avI)) (hx : KindOk ns x)
    (h : ∀ l n led' h' tk, St w b ns base z₀ env z h' ((x, .val (.ref l)) :: σ) ((l, lstO (refs led') n) :: (led' ++ led)) → RowsAre z led' (L.map avI) → wpAny (model prog w) A (execs rest env) Q E (sh s h' tk))
    (hsw : swapsWith value (some (.Name x px)) pos.line env = pure false := by rfl) : wpAny (model prog w) A (execs (.Assign [.Name x px] value pos :: rest) env) Q E s :=
  ex_cons (wpAny_Assign_Name (H env s.heap A s _ E (S.view hs) R fun l vs n led' z' h' tk g n1 n2 e1 r q => by
    have hv := r.vs
    subst hv
    have S₁ := S.pushes (Grow.step S.X.zh g.hh) (led' := (l, lstO (refs led') n) :: led') (fun p hp => by
      rcases List.mem_cons.mp hp with rfl | hp
      · exact ⟨e1, S.X.zh.none n1, n1⟩
      · exact ⟨(r.at' p hp).1, S.X.zh.none (r.at' p hp).2.2, (r.at' p hp).2.2⟩) (by
      rw [List.map_cons, List.nodup_cons]
      refine ⟨fun hm => ?_, r.nd⟩
      obtain ⟨p, hp, e⟩ := List.mem_map.mp hm
      exact q p hp e)
    exact st_store (s := (sh s h' tk)) S₁ (.val _) hx fun h'' tk' S' _ => h l n led' h'' tk' S' r.rows.ints) hsw)
/-- x.append(e), with all that stands seen -/
theorem ex_appendV (pre : List (Addr × Obj)) {post : List (Addr × Obj)} {x : Str} {px ap cp pos : Pos} {e : Expr} {rest : List Stmt} {a : AV} {d : Addr} {vs : List Value} {n : Nat} {Q : Flow → Shared → Prop}
    (S : St w b ns base z₀ env z s.heap σ (pre ++ (d, lstO vs n) :: post)) (hs : ∀ h', Le s.heap h' → Sees h' σ τ) (R : Room A k) (hx : σ.lookup x = some (.val (.ref d))) (H : Ev prog w b k ns τ e a) (f : Flat a) (hsz : vs.length ≤ sizeLine)
    (h : ∀ v m h' tk, St w b ns base z₀ env z h' σ (pre ++ (d, lstO (vs ++ [v]) m) :: post) → (∀ z, Rep z v a) → wpAny (model prog w) A (execs rest env) Q E (sh s h' tk))
    (hst : ∀ env, starEach [e] env = [(false, eval e env)] := by intro _; rfl)
    (hm : ∃ pl, eval (.Call (.Attribute (.Name x px) (Str.ofString "append") ap) [e] [] cp) env = (do
      let ov ← eval (.Name x px) env
      standAt ap.atName
      let (f, first) ← holding [ov] (getMethod ov (Str.ofString "append") pl)
      callWith cp f first (backTo cp (starEach [e] env)) []) := by exact ⟨_, rfl⟩)
    (hsw : swapsWith (.Call (.Attribute (.Name x px) (Str.ofString "append") ap) [e] [] cp) none pos.line env = pure false := by rfl)
    (hd : (x == ("__debug__" : Str)) = false := by decide) (hc : (x == ("__classdict__" : Str)) = false := by decide) :
    wpAny (model prog w) A (execs (.Expr (.Call (.Attribute (.Name x px) (Str.ofString "append") ap) [e] [] cp) pos :: rest) env) Q E s := by
  obtain ⟨pl, hm⟩ := hm
  refine ex_cons (wpAny_Expr_any (MethodCall_ (pl := pl) (name_ S.X hx (fun ov ro => ?_) hd hc) hm) (by unfold interactive; rw [S.X.kd]; rfl) hsw)
  rw [ro.val_inv]
  have e0 := (S.ld (d, lstO vs n) (List.mem_append_right _ (.head _))).1
  refine getMethod_builtin (T := "list") ⟨_, e0, rfl⟩ PySem.F.plainAttrs_list PySem.F.slot_list_append PySem.F.type_list_append (fun c q => by cases q; exact ⟨_, e0, rfl⟩) ?_
  refine callWith_method1 (rest := []) (args_cons (S.eval (hs _ Le.rfl) R H f fun v h₂ tk₂ S₂ l₂ r₂ => args_nil ?_) (hst env)) (hst env) rfl
  have e₂ := (S₂.ld (d, lstO vs n) (List.mem_append_right _ (.head _))).1
  refine wpAny_list_append_plain ⟨n, e₂⟩ (fun h₃ hl₃ hs₃ => ?_) (by simpa using hsz)
  obtain ⟨m, e₃⟩ := hl₃
  exact h _ m h₃ tk₂ (S₂.upd pre (fun c o hc e => (hs₃.2 c hc).trans e) (by rw [e₃]; simp)) r₂
end
section
variable {prog : Program} {w : World} {b : Heap} {k n m : Nat} {R T : List (List Int)}
theorem SqP.sq {n : Nat} {M : List (List Int)} (S : SqP n M) : Sq n M := ⟨S.len, S.row⟩
theorem gv_law_times (w : World) : GV w (Str.ofString "_law_times") (.ref 164) := gv w (by kernel_rfl)
theorem f_timesLL (B : Base w b) {P Q : List (List Int)} (hn : n ≤ 5) (hP : Sq n P) (hQ : Sq n Q) (hm : ∀ i j a, i < n → j < n → a < n → IntMulOk (ent P i a) (ent Q a j)) :
    FnLL prog w b (k + 1) (.ref 164) [.list (P.map rowA), .list (Q.map rowA)] ((timesP n P Q).map avI) := by
  refine fn_bodyLL B rfl rfl (by kernel_rfl) rfl rfl rfl rfl rfl rfl (ps := [Str.ofString "one", Str.ofString "other"]) rfl (bind2 fun _ _ => rfl) (by kernel_rfl) fun base z₀ env A s Q' Rm S h => ?_
  refine ex_assign S Rm (ev_range1 B (by rfl) (ev_len1 B (by rfl) (ev_name (by rfl)) (n := n) (by simp [hP.len]) (by lia))) (by decide) fun z₁ h₁ tk₁ S₁ l₁ => ?_
  have rg : ∀ z v, Rep z v (.rng 0 n) → Src z v ((List.range n).map fun i : Nat => AV.int i) := src_rng (by lia)
  have sz : (List.range n).length ≤ sizeLine := sz_ok (by simp; lia)
  refine ex_retLL (s := (sh s h₁ tk₁)) S₁ Rm (xss := (timesP n P Q).map avI) ?_ h
  rw [timesP, List.map_map]
  refine ev_compLL (List.range n) (fun i : Nat => AV.int i) _ (ev_name (by rfl)) rg sz (fun i hi => ?_) rfl (by kernel_rfl)
  have hi := List.mem_range.mp hi
  have e : (avI ∘ fun i => (List.range n).map fun j => ((List.range n).map fun a => entP P i a * entP Q a j).sum) i = (List.range n).map fun j => AV.int ((List.range n).map fun a => ent P i a * ent Q a j).sum := by simp [avI]
  rw [e]
  refine ev_comp (List.range n) (fun i : Nat => AV.int i) _ (ev_name (by rfl)) rg sz (fun j hj => ?_) rfl (by kernel_rfl)
  have hj := List.mem_range.mp hj
  refine ev_sum1 B (by rfl) ?_
  rw [avI, List.map_map]
  refine Ev.of_L (ev_comp (List.range n) (fun i : Nat => AV.int i) _ (ev_name (by rfl)) rg sz (fun a ha => ?_) rfl (by kernel_rfl))
  have ha := List.mem_range.mp ha
  exact ev_bin (ev_ent hP hn hi ha (ev_name (by rfl)) (ev_name (by rfl)) (ev_name (by rfl))) (ev_ent hQ hn ha hj (ev_name (by rfl)) (ev_name (by rfl)) (ev_name (by rfl))) (bin_mul (hm i j a hi hj ha))

/-- the numbers stay small -/
theorem polyS_bits {A : List (List Int)} {st : List (List Int) × List Int} {B t : Nat} (hn : n ≤ 5) (hA : ∀ i j, intBits (entP A i j) ≤ 64) (hM : ∀ i j, i < n → j < n → intBits (entP st.1 i j) ≤ B) : ∀ i j, i < n → j < n → intBits (entP (polyS n A st t).1 i j) ≤ B + 100 := by
  have h1 : ∀ i j, i < n → j < n → intBits (entP (timesP n A st.1) i j) ≤ B + 64 + 5 := fun i j hi hj => by
    rw [timesP_ent hi hj]
    have := sum_bits (B := 64 + B) ((List.range n).map fun a => entP A i a * entP st.1 a j) fun x hx => by
      obtain ⟨a, ha, rfl⟩ := List.mem_map.mp hx
      exact intBits_mul_le (hA i a) (hM a j (List.mem_range.mp ha) hj)
    rw [List.length_map, List.length_range] at this
    lia
  have h2 : intBits (trF n (timesP n A st.1)) ≤ B + 64 + 5 + 5 := by
    have := sum_bits (B := B + 64 + 5) ((List.range n).map fun i => entP (timesP n A st.1) i i) fun x hx => by
      obtain ⟨a, ha, rfl⟩ := List.mem_map.mp hx
      exact h1 a a (List.mem_range.mp ha) (List.mem_range.mp ha)
    rw [List.length_map, List.length_range] at this
    exact Nat.le_trans this (by lia)
  have h3 : intBits (Int.fdiv (-(trF n (timesP n A st.1))) (1 + t)) ≤ B + 64 + 5 + 5 := bits_fdiv (intBits_neg_le h2)
  intro i j hi hj
  rw [polyS_ent t i j hi]
  split
  · have := intBits_add_le (h1 i j hi hj) h3
    have e : max (B + 64 + 5) (B + 64 + 5 + 5) = B + 64 + 5 + 5 := Nat.max_eq_right (by lia)
    lia
  · have := h1 i j hi hj; lia
theorem polys_bits {A : List (List Int)} (hn : n ≤ 5) (hA : ∀ i j, intBits (entP A i j) ≤ 64) : ∀ (ts : List Nat) {st : List (List Int) × List Int} {B : Nat}, (∀ i j, i < n → j < n → intBits (entP st.1 i j) ≤ B) → ∀ i j, i < n → j < n → intBits (entP (ts.foldl (polyS n A) st).1 i j) ≤ B + 100 * ts.length
  | [], _, _, h, i, j, hi, hj => h i j hi hj
  | t :: ts, st, B, h, i, j, hi, hj => by
    have := polys_bits hn hA ts (polyS_bits (t := t) hn hA h) i j hi hj
    rw [List.foldl_cons, List.length_cons]; lia
theorem idM_bits (i j : Nat) (hi : i < n) (hj : j < n) : intBits (entP (idM n) i j) ≤ 1 := by
  have e : entP (idM n) i j = if (i : Int) == (j : Int) then 1 else 0 := by
    unfold entP idM
    simp [hi, hj]
  rw [e]; split <;> decide

theorem St.sub {w : World} {b : Heap} {ns : List (Str × NameKind)} {base z₀ : Heap} {env : Env} {z h : Heap} {σ : Sig} {led led' : List (Addr × Obj)} (S : St w b ns base z₀ env z h σ led) (e : led'.Sublist led) : St w b ns base z₀ env z h σ led' :=
  S.less (fun _ hp => e.subset hp) (S.nd.sublist (e.map _))
theorem map2 (M : List (List Int)) : (M.map avI).map AV.list = M.map rowA := by rw [List.map_map]; rfl
theorem src_from1 {n : Nat} (h : n < 2 ^ 60) : ∀ z v, Rep z v (.rng 1 (n + 1)) → Src z v ((List.range n).map fun i : Nat => AV.int (1 + i)) := fun z v r => by
  have q := Src.rng r (by lia) (by lia) (by lia) (by lia)
  have e : avI (rangeI 1 (n + 1)) = (List.range n).map fun i : Nat => AV.int (1 + i) := by
    unfold rangeI
    rw [show ((n : Int) + 1 - 1).toNat = n by lia]
    simp [avI]
  rw [e] at q; exact q
theorem polyS_len {A : List (List Int)} (st : List (List Int) × List Int) (t : Nat) : (polyS n A st t).2.length = st.2.length + 1 := by simp [polyS]
theorem polys_len {A : List (List Int)} : ∀ (ts : List Nat) (st : List (List Int) × List Int), (ts.foldl (polyS n A) st).2.length = st.2.length + ts.length
  | [], _ => rfl
  | t :: ts, st => by rw [List.foldl_cons, polys_len ts, polyS_len, List.length_cons]; lia
inductive QRep (n : Nat) (σ₀ : Addr → Sig) (df : Addr) (st : List (List Int) × List Int) (z' : Heap) (σ' : Sig) (led' : List (Addr × Obj)) : Prop
  | mk (dh : Addr) (ledh : List (Addr × Obj)) (mh : Nat) (vf : List Value) (mf : Nat) (es : σ' = σ₀ dh) (S : SqP n st.1) (r : Reps z' vf (avI st.2)) (ra : RowsAre z' ledh (st.1.map avI)) (e : led' = (df, lstO vf mf) :: (dh, lstO (refs ledh) mh) :: ledh)
inductive QRep2 (n : Nat) (σ₁ : Sig) (rl : List Value) (f : List (Addr × Obj) → List (Addr × Obj)) (M : List (List Int)) (z' : Heap) (σ' : Sig) (led' : List (Addr × Obj)) : Prop
  | mk (es : σ' = σ₁) (S : SqP n M) (ledh : List (Addr × Obj)) (er : refs ledh = rl) (ra : RowsAre z' ledh (M.map avI)) (e : led' = f ledh)
theorem f_poly (B : Base w b) {A : List (List Int)} (hn : n ≤ 5) (hA : SqP n A) (hb : ∀ i j, intBits (entP A i j) ≤ 64) : FnL prog w b (k + 2) (.ref 169) [.list (A.map rowA)] (avI (polyF n A)) := by
  have rg : ∀ z v, Rep z v (.rng 0 n) → Src z v ((List.range n).map fun i : Nat => AV.int i) := src_rng (by lia)
  have sz : (List.range n).length ≤ sizeLine := sz_ok (by simp; lia)
  refine fn_bodyL B rfl rfl (by kernel_rfl) rfl rfl rfl rfl rfl rfl (ps := [Str.ofString "table"]) rfl (bind1 fun _ => rfl) (by kernel_rfl) fun base z₀ env A' s Q' Rm S h => ?_
  refine ex_assign S Rm (ev_len1 B (by rfl) (ev_name (by rfl)) (n := n) (by simp [hA.len]) (by lia)) (by decide) fun z₁ h₁ tk₁ S₁ l₁ => ?_
  refine ex_assignLL (s := (sh s h₁ tk₁)) (xss := (idM n).map avI) S₁ Rm ?_ (by decide) (fun dh₀ mh₀ ledh₀ z₂ h₂ tk₂ S₂ r₂ l₂ => ?_) (noSwap S₁ (by rfl))
  · rw [idM, List.map_map]
    refine ev_compLL (List.range n) (fun i : Nat => AV.int i) _ (ev_range1 B (by rfl) (ev_name (by rfl))) rg sz (fun i hi => ?_) rfl (by kernel_rfl)
    have e : (avI ∘ fun i : Nat => (List.range n).map fun j : Nat => if (i : Int) == (j : Int) then (1 : Int) else 0) i = (List.range n).map fun j : Nat => AV.int (if ((i : Int) == (j : Int)) = true then 1 else 0) := by simp [avI]
    rw [e]
    refine ev_comp (List.range n) (fun i : Nat => AV.int i) _ (ev_range1 B (by rfl) (ev_name (by rfl))) rg sz (fun j hj => ?_) rfl (by kernel_rfl)
    exact ev_ifint (evt_cmp (ev_name (by rfl)) (ev_name (by rfl)) cmp_eq) (ev_int (i := 1)) (ev_int (i := 0))
  refine ex_assignL (s := (sh s h₂ tk₂)) S₂ Rm (ev_list (evs_cons (ev_int (i := 1)) evs_nil)) (by decide) fun df vf₀ mf₀ z₃ h₃ tk₃ S₃ r₃ l₃ => ?_
  let σ₀ : Addr → Sig := fun dh => [(Str.ofString "found", .val (.ref df)), (Str.ofString "held", .val (.ref dh)), (Str.ofString "size", .int n), (Str.ofString "table", .list (A.map rowA))]
  let rep : List (List Int) × List Int → Heap → Sig → List (Addr × Obj) → Prop := QRep n σ₀ df
  rw [List.append_nil] at S₃
  refine ex_forS (s := (sh s h₃ tk₃)) (List.range n) (fun i : Nat => AV.int (1 + i)) (polyS n A) (idM n, [1]) rep (σ₀ dh₀) S₃ Rm
    (ev_call B (ev_glob B (by rfl) (gv_range w) (fun z => .val _)) (.inr (.inl ⟨_, rfl⟩)) (evs_cons (ev_int (i := 1)) (evs_cons (ev_bin (ev_name (by rfl)) (ev_int (i := 1)) bin_add) evs_nil)) fn_range2) (src_from1 (by lia)) (by decide)
    (fun z' lz => ⟨dh₀, ledh₀, mh₀, vf₀, mf₀, rfl, idM_sq n, r₃.le lz, (r₂.le l₃).le lz, rfl⟩) ?_ ?_
  · rintro i t ⟨M, F⟩ z₄ h₄ tk₄ σ₄ led₄ I oI ht hst ⟨dh, ledh, mh, vf, mf, rfl, hM, rf, rh, rfl⟩ l₄ S₄
    dsimp only at hM rf rh
    have hti : t = i := by
      have hlt : i < n := by have := (List.getElem?_eq_some_iff.mp ht).1; rwa [List.length_range] at this
      rw [List.getElem?_range hlt] at ht
      exact (Option.some.inj ht).symm
    subst hti
    have htn : t < n := List.mem_range.mp (List.mem_of_getElem? ht)
    have hbM : ∀ i j, i < n → j < n → intBits (entP M i j) ≤ 1 + 100 * 5 := fun i j hi hj => by
      have := polys_bits hn hb ((List.range n).take t) (st := (idM n, [1])) (B := 1) (fun i j hi hj => idM_bits i j hi hj) i j hi hj
      rw [← hst] at this
      have hl : ((List.range n).take t).length ≤ 5 := by rw [List.length_take, List.length_range]; lia
      exact Nat.le_trans this (by lia)
    have hF : F.length = 1 + t := by
      have := polys_len (n := n) (A := A) ((List.range n).take t) (idM n, [1])
      rw [← hst, List.length_take, List.length_range] at this
      have e : ([1] : List Int).length = 1 := rfl
      dsimp only at this
      lia
    have hvf := rf.length
    rw [List.length_map] at hvf
    have eh₄ := S₄.at (d := dh) (.tail _ (.tail _ (.head _)))
    refine ex_assignLLV (s := (sh s h₄ tk₄)) (L := timesP n A M) S₄ (sees_mat (x := Str.ofString "held") (by rfl) eh₄ (rh.le S₄.X.zh) (fun p hp => S₄.at (.tail _ (.tail _ (.tail _ hp)))) sees_refl) Rm
      (ev_callLL B (ev_glob B (by rfl) (gv_law_times w) (fun z => .val _)) (keep_ w (by kernel_rfl)) (evs_cons (ev_name (a := .list (A.map rowA)) (by rfl)) (evs_cons (ev_name (a := .list (M.map rowA)) (by rw [← map2]; rfl)) evs_nil)) (f_timesLL B hn hA.sq hM.sq fun i j a hi hj ha => IntMulOk.of_le (hb i a) (hbM a j ha hj) (by lia))) (by decide) fun dh' mh' ledh' h₅ tk₅ S₅ rh' => ?_
    have S₅ := (S₅.perm (led' := (I, oI) :: (df, lstO vf mf) :: (((dh', lstO (refs ledh') mh') :: ledh') ++ ((dh, lstO (refs ledh) mh) :: ledh)))
      ((List.perm_middle (l₁ := (dh', lstO (refs ledh') mh') :: ledh')).trans (.cons _ (List.perm_middle (l₁ := (dh', lstO (refs ledh') mh') :: ledh'))))).sub (led' := (I, oI) :: (df, lstO vf mf) :: (dh', lstO (refs ledh') mh') :: ledh') (((List.sublist_append_left _ _).cons_cons _).cons_cons _)
    have hM₁ : SqP n (timesP n A M) := timesP_sq n A M
    have hpoly : polyS n A (M, F) t = ((List.range n).foldl (diagS (Int.fdiv (-(trF n (timesP n A M))) (1 + t))) (timesP n A M), F ++ [Int.fdiv (-(trF n (timesP n A M))) (1 + t)]) := rfl
    rw [hpoly]
    generalize timesP n A M = M₁ at *
    let σ₁ : Sig := [(Str.ofString "turn", .int (1 + t)), (Str.ofString "found", .val (.ref df)), (Str.ofString "held", .val (.ref dh')), (Str.ofString "size", .int n), (Str.ofString "table", .list (A.map rowA))]
    have S₅ := S₅.cut σ₁
    refine ex_appendV (s := (sh s h₅ tk₅)) [(I, oI)] (a := .int (Int.fdiv (-(trF n M₁)) (1 + t))) S₅ (fun h' l' => sees_mat (x := Str.ofString "held") (by rfl) (l' _ _ (S₅.at (d := dh') (.tail _ (.tail _ (.head _))))) (rh'.ints) (fun p hp => l' _ _ (S₅.at (.tail _ (.tail _ (.tail _ hp))))) sees_refl) Rm (by rfl) ?_ (.int _) (sz_ok (by lia)) fun v₆ mf₆ h₆ tk₆ S₆ r₆ => ?_
    · refine ev_bin (ev_neg (ev_sum1 B (by rfl) (xs := (List.range n).map fun i => entP M₁ i i) (Ev.of_L ?_))) (ev_name (by rfl)) (bin_fdiv (by lia) (by lia))
      have e : avI ((List.range n).map fun i => entP M₁ i i) = (List.range n).map fun i => AV.int (entP M₁ i i) := by simp [avI]
      rw [e]
      refine ev_comp (List.range n) (fun i : Nat => AV.int i) _ (ev_range1 B (by rfl) (ev_name (by rfl))) rg sz (fun i hi => ?_) rfl (by kernel_rfl)
      have hi := List.mem_range.mp hi
      exact ev_ent hM₁.sq hn hi hi (ev_name (by rw [← map2]; rfl)) (ev_name (by rfl)) (ev_name (by rfl))
    generalize Int.fdiv (-(trF n M₁)) (1 + t) = c at *
    obtain ⟨tc, rfl⟩ := (r₆ z₄).int_inv
    have rf₆ : ∀ h, Reps h (vf ++ [.int c tc]) (avI (F ++ [c])) := fun h => by
      rw [avI, List.map_append]
      exact (Reps.of_ints rf.intsAre).append (.cons (.int _ _) .nil)
    generalize hvf' : vf ++ [Value.int c tc] = vf' at *
    have hF' : (F ++ [c]).length = 2 + t := by rw [List.length_append, List.length_singleton]; lia
    have hlast : (avI (F ++ [c]))[((-1 : Int) + ((avI (F ++ [c])).length : Int)).toNat]? = some (.int c) := by
      rw [List.length_map, hF']
      rw [show ((-1 : Int) + ((2 + t : Nat) : Int)).toNat = 1 + t by lia, List.getElem?_map, ← hF]
      simp
    generalize hF₂ : F ++ [c] = F' at *
    generalize hrl : refs ledh' = rl at *
    let rep₂ : List (List Int) → Heap → Sig → List (Addr × Obj) → Prop := QRep2 n σ₁ rl fun ledh => (I, oI) :: (df, lstO vf' mf₆) :: (dh', lstO rl mh') :: ledh
    refine ex_forS (s := (sh s h₆ tk₆)) (List.range n) (fun i : Nat => AV.int i) (diagS c) M₁ rep₂ σ₁ S₆ Rm (ev_range1 B (by rfl) (ev_name (by rfl))) rg (by decide) (fun z' lz => ⟨rfl, hM₁, ledh', hrl, rh'.le lz, rfl⟩) ?_ ?_
    · rintro _ a M₂ z₇ h₇ tk₇ σ₇ led₇ I₂ oI₂ ha - ⟨rfl, hM₂, ledh₂, hrf, rh₂, rfl⟩ l₇ S₇
      have ha := List.mem_range.mp (List.mem_of_getElem? ha)
      obtain ⟨row, q1, q2, q3⟩ := hM₂.at ha
      have aM : a < M₂.length := by rw [hM₂.len]; exact ha
      obtain ⟨pre, d, us, nn, post, e1, e2, e3, e4⟩ := rh₂.split (i := a) (xs := avI row) (by simp [q1])
      have S₇' := S₇.re (led' := ((I₂, oI₂) :: (I, oI) :: (df, lstO vf' mf₆) :: (dh', lstO rl mh') :: pre) ++ (d, lstO us nn) :: post) (by rw [e1]; rfl)
      have hrd : rl[a]? = some (.ref d) := by rw [← hrf, refs, e1]; simp [← e2]
      have hul : us.length = n := by have := e3.length; simpa [q3] using this
      have mem₂ : ∀ p ∈ ledh₂, h₇.get? p.1 = some p.2 := fun p hp => S₇.at (.tail _ (.tail _ (.tail _ (.tail _ hp))))
      have eh₇ : h₇.get? dh' = some (lstO rl mh') := S₇.at (.tail _ (.tail _ (.tail _ (.head _))))
      have ef₇ : h₇.get? df = some (lstO vf' mf₆) := S₇.at (.tail _ (.tail _ (.head _)))
      have hent : entP M₂ a a = row.getD a 0 := by unfold entP; rw [q2]
      refine ex_setitemG (s := (sh s h₇ tk₇)) (τ' := (Str.ofString "held", .list (rl.map AV.val)) :: (Str.ofString "at", .int a) :: σ₁) ((I₂, oI₂) :: (I, oI) :: (df, lstO vf' mf₆) :: (dh', lstO rl mh') :: pre) S₇'
        (sees_list (x := Str.ofString "found") (xs := avI F') (by rfl) ef₇ (rf₆ _) (sees_mat (x := Str.ofString "held") (ledh := ledh₂) (n := mh') (by rfl) (by rw [hrf]; exact eh₇) (rh₂.le S₇.X.zh) mem₂ sees_refl)) Rm (a := .int (entP M₂ a a + c))
        (ev_bin (ev_ent hM₂.sq hn ha ha (ev_name (by rw [← map2]; rfl)) (ev_name (by rfl)) (ev_name (by rfl))) (ev_item_neg (xs := avI F') (j := -1) (ev_name (by rfl)) (ev_neg (ev_int (i := 1))) (by decide) (by rw [List.length_map, hF']; lia) (by rw [List.length_map, hF']; lia) hlast) bin_add) (.int _)
        (fun h' l' => sees_list (x := Str.ofString "held") (xs := rl.map AV.val) (by rfl) (l' _ _ eh₇) (reps_vals rl) sees_refl) (ev_item (xs := rl.map AV.val) (j := a) (ev_name (by rfl)) (ev_name (by rfl)) (inn a) (lt63 (le_k ha hn)) (mapget hrd))
        (ev_name (a := .int a) (by rfl)) (by lia) (by lia) (by lia) fun v₈ z₈ h₈ tk₈ S₈ l₈ r₈ => ?_
      refine ex_nil ⟨rfl, z₈, h₈, tk₈, σ₁, (I, oI) :: (df, lstO vf' mf₆) :: (dh', lstO rl mh') :: (pre ++ (d, lstO (us.set a v₈) nn) :: post), rfl, l₈, (S₈.cut σ₁).re, rfl, diagS_sq hM₂ c ha, pre ++ (d, lstO (us.set a v₈) nn) :: post, ?_, ?_, rfl⟩
      · rw [← hrf, e1]; simp [refs]
      · have e5 : (diagS c M₂ a).map avI = (M₂.map avI).set a (avI (row.set a (entP M₂ a a + c))) := by
          unfold diagS
          rw [q2, List.map_set]
        rw [e5]
        refine e4 _ nn _ z₈ l₈ ?_
        rw [avI, List.map_set]
        exact (e3.le l₈).set a (r₈ z₈)
    · rintro z₇ h₇ tk₇ σ₇ led₇ ⟨rfl, hM₂, ledh₂, hrf, rh₂, rfl⟩ l₇ S₇
      refine ex_nil ⟨rfl, z₇, h₇, tk₇, σ₀ dh', _, rfl, l₇, S₇.cut (σ₀ dh'), dh', ledh₂, mh', vf', mf₆, rfl, hM₂, rf₆ _, rh₂, by rw [hrf]⟩
  · rintro z₄ h₄ tk₄ σ₄ led₄ ⟨dh, ledh, mh, vf, mf, rfl, hM, rf, rh, rfl⟩ l₄ S₄
    exact ex_retO (s := (sh s h₄ tk₄)) (d := df) S₄ (by rfl) (.head _) fun g e1 e2 e3 => h df vf mf z₄ h₄ tk₄ g e1 e2 e3 rf
end
end Mine
end
section
set_option maxRecDepth 100000
open PySem PySem.W PyProof.Rows PySem.Calls PySem.Spec PySem.SeqAt
open PySem.Builtin.Int (intBits)
namespace Mine
/-- what is drawn, one after the other -/
noncomputable def penI (t : Int × Int) (many : Int) : Nat → Int × Int
  | 0 => t
  | j + 1 => (drawF (penI t many j) many).2
noncomputable def rowD (t : Int × Int) (n m : Nat) : List Int := (List.range m).map fun j => (drawF (penI t (n + 1) j) (n + 1)).1 - 1
noncomputable def penR (t : Int × Int) (n m : Nat) : Nat → Int × Int
  | 0 => t
  | i + 1 => penI (penR t n m i) (n + 1) m
noncomputable def rowsD (t : Int × Int) (n m : Nat) : List (List Int) := (List.range n).map fun i => rowD (penR t n m i) n m
noncomputable def menu (d : Int) : List Int := if d = 0 then [] else if d = 1 then [0] else [0, 2]
noncomputable def tagsD (t : Int × Int) (n : Nat) : List (List Int) := (List.range n).map fun i => menu (drawF (penI t 3 i) 3).1
theorem penI_ok {t : Int × Int} {many : Int} {j : Nat} (h : PenOK j t) : ∀ i, PenOK (j + i) (penI t many i)
  | 0 => h
  | i + 1 => (penI_ok h i).draw many
theorem penR_ok {t : Int × Int} {n m j : Nat} (h : PenOK j t) : ∀ i, PenOK (j + m * i) (penR t n m i)
  | 0 => h
  | i + 1 => by
    have := penI_ok (many := (n : Int) + 1) (penR_ok (n := n) (m := m) h i) m
    rw [Nat.mul_succ, ← Nat.add_assoc]; exact this
theorem drawn_aut (t t' : Int × Int) {n m : Nat} (n1 : 1 ≤ n) (n5 : n ≤ 5) (m1 : 1 ≤ m) (m3 : m ≤ 3) : Aut n m (rowsD t n m) (tagsD t' n) := by
  refine ⟨n1, n5, m1, m3, by simp [rowsD], by simp [tagsD], fun r hr => ?_, fun r hr g hg => ?_, fun q hq => ?_⟩
  · obtain ⟨i, _, rfl⟩ := List.mem_map.mp hr; simp [rowD]
  · obtain ⟨i, _, rfl⟩ := List.mem_map.mp hr
    obtain ⟨j, _, rfl⟩ := List.mem_map.mp hg
    have := drawF_rng (penI (penR t n m i) (n + 1) j) (m := (n : Int) + 1) (by lia)
    lia
  · obtain ⟨i, _, rfl⟩ := List.mem_map.mp hq
    unfold menu; split
    · simp
    · split <;> simp

/-- all that the law asks -/
structure Good (n m : Nat) (R T : List (List Int)) : Prop where
  tried : ∀ l < n, countW n R T l = triedF R T l
  recur : ∀ l < n + 3, ((List.range (n + 1)).map fun a => (polyF n (tableF n R)).getD a 0 * countW n R T (l + n - a)).sum = 0
  compl : ∀ l < n + 2, countW n R T l + countW (compR n m R).length (compR n m R) (flipT (compT n R T)) l = (m : Int) ^ l
  nothing : (!(aliveF n R T).getD 0 false) = (((List.range n).map (countW n R T)).sum == 0)
  finite : finiteF n R T = (((List.range n).map fun i => countW n R T (n + i)).sum == 0)
  short : match shortF m R T with
    | none => ((List.range (2 * n + 3)).map (countW n R T)).sum = 0
    | some wd => wd.length < 2 * n + 3 ∧ 0 < countW n R T wd.length ∧ ((List.range wd.length).map (countW n R T)).sum = 0

section
variable {prog : Program} {w : World} {b : Heap} {k : Nat} {ns : List (Str × NameKind)} {base z₀ : Heap} {env : Env} {z : Heap} {σ : Sig} {led : List (Addr × Obj)} {A : Around} {s : Shared} {E : Value → Shared → Prop}
theorem fm2 {f : Expr → Option Str} {a b : Expr} (ha : f a = none) : ([a, b].filterMap f).length ≤ 1 := by
  rw [List.filterMap_cons_none ha]; exact List.length_filterMap_le _ _
theorem ite_none {c : Prop} [Decidable c] {α : Type} {a b : α} (h : ¬c → b = a) : (if c then a else b) = a := by
  by_cases hc : c
  · exact if_pos hc
  · rw [if_neg hc]; exact h hc
/-- x, y = (e₁, e₂), x a cell's name -/
theorem ex_assign2 {x y : Str} {px py tp vp pos : Pos} {k₁ k₂ : Nat} {e₁ e₂ : Expr} {a₁ a₂ : AV} {rest : List Stmt} {Q : Flow → Shared → Prop} (S : St w b ns base z₀ env z s.heap σ led) (R : Room A k) (H₁ : Ev prog w b k ns σ e₁ a₁) (H₂ : Ev prog w b k ns σ e₂ a₂) (hx : ns.lookup x = some .cell) (hy : KindOk ns y)
    (h : ∀ z' h' tk, St w b ns base z₀ env z' h' ((y, a₂) :: (x, a₁) :: σ) led → Le z z' → wpAny (model prog w) A (execs rest env) Q E (sh s h' tk))
    (he : ∀ env, starEach [e₁, e₂] env = (false, eval e₁ env) :: starEach [e₂] env := by intro _; rfl) (he₂ : ∀ env, starEach [e₂] env = [(false, eval e₂ env)] := by intro _; rfl) :
    wpAny (model prog w) A (execs (.Assign [.Tuple [.Name x px, .Name y py] k₁ tp] (.Tuple [e₁, e₂] k₂ vp) pos :: rest) env) Q E s := by
  have hkx : env.kindOf x = some .cell := by unfold Env.kindOf; rw [S.X.nm]; exact hx
  have hw : swappedStores [.Tuple [.Name x px, .Name y py] k₁ tp] (.Tuple [e₁, e₂] k₂ vp) env = pure none := by
    refine ite_none fun _ => ite_none fun _ => ite_none fun h3 => absurd ?_ h3
    show _ = true
    refine Bool.or_eq_true_iff.mpr (.inl (bne_iff_ne.mpr fun q => ?_))
    refine absurd (fm2 ?_) (Nat.not_le_of_lt (Nat.lt_of_lt_of_eq (Nat.lt_succ_self 1) q.symm))
    show (if (env.kindOf x == some .local && _) = true then some x else none) = none
    rw [hkx]; rfl
  refine ex_cons (Assign_Tuple ?_ (by rfl) hw)
  refine ev_tuple (evs_cons H₁ (evs_cons H₂ evs_nil he₂) he) (by show 2 ≤ sizeLine; decide) env z A s _ E S.X R fun v z₁ h₁ tk₁ g₁ r₁ => ?_
  have S₁ := S.grow g₁
  replace r₁ := r₁.tp; obtain ⟨a, vs, rfl, e, r₁⟩ := r₁
  replace r₁ := r₁.cns; obtain ⟨v₁, _, rfl, q₁, r₁⟩ := r₁
  replace r₁ := r₁.cns; obtain ⟨v₂, _, rfl, q₂, r₁⟩ := r₁
  cases r₁
  refine assign_Tuple_tuple R.hand (e.keeps S₁.X.zh) rfl rfl fun h₂ hs₂ => ?_
  have S₂ := S₁.more (h' := h₂) fun c o q => hs₂ c o (Nat.ne_of_lt (Heap.lt_size q)) q
  show wpAny _ A (do holding [v₂] (assign (.Name x px) env v₁); assignInOrder [assign (.Name y py) env] [v₂]) _ _ _
  refine wpAny_bind (wpAny_holding (wpAny_assign_Name (st_store (s := (sh s h₂ tk₁)) S₂ q₁ (.inr hx) fun h₃ tk₃ S₃ _ => ?_)))
  show wpAny _ A (do holding [] (assign (.Name y py) env v₂); assignInOrder [] []) _ _ _
  refine wpAny_bind (wpAny_holding (wpAny_assign_Name (st_store (s := (sh s h₃ tk₃)) S₃ q₂ hy fun h₄ tk₄ S₄ _ => ?_)))
  exact wpAny_pure (h z₁ h₄ tk₄ S₄ g₁.zz)
end
section
variable {prog : Program} {w : World} {b : Heap} {k n m : Nat} {R T : List (List Int)}
/-- one draw -/
theorem evm_draw (B : Base w b) {ns : List (Str × NameKind)} {σ : Sig} {p q pos : Pos} {d : Addr} {e : Expr} {t : Int × Int} {many : Int} {j : Nat} (kx : ns.lookup (Str.ofString "_law_draw") = some .globalImplicit) (hp : σ.lookup (Str.ofString "pen") = some (.val (.ref d))) (H : Ev prog w b (k + 1) ns σ e (.int many))
    (hm : 0 < many) (hm' : many ≤ 100) (hpen : PenOK j t) (hj : j ≤ 1000)
    (he : ∀ env, starEach [.Name (Str.ofString "pen") q, e] env = (false, eval (.Name (Str.ofString "pen") q) env) :: starEach [e] env := by intro _; rfl) (he₂ : ∀ env, starEach [e] env = [(false, eval e env)] := by intro _; rfl)
    (hpp : ∀ env, (backTo pos (starEach [e] env)).any (·.1) = false := by intro _; rfl)
    (hx : ∀ env, eval (.Call (.Name (Str.ofString "_law_draw") p) [.Name (Str.ofString "pen") q, e] [] pos) env = (do callWith pos (← eval (.Name (Str.ofString "_law_draw") p) env) [] (backTo pos (starEach [.Name (Str.ofString "pen") q, e] env)) (backToKw pos (keywordEach [] env))) := by intro _; rfl) :
    EvM prog w b (k + 1) ns σ (penU d) t (.Call (.Name (Str.ofString "_law_draw") p) [.Name (Str.ofString "pen") q, e] [] pos) (.int (drawF t many).1) (drawF t many).2 :=
  evm_call B (ev_glob B kx (gv_law_draw w) (fun z => .val _)) (keep_ w (by kernel_rfl)) (evs_cons (ev_name hp) (evs_cons H evs_nil he₂) he) (f_law_draw B hm hm' hpen hj) he hpp hx
theorem tableF_sq (H : Aut n m R T) : SqP n (tableF n R) := ⟨by rw [tableF, List.length_map, H.hR], fun r hr => by obtain ⟨q, _, rfl⟩ := List.mem_map.mp hr; simp⟩
theorem tableF_ent (H : Aut n m R T) {i j : Nat} (hi : i < n) (hj : j < n) : entP (tableF n R) i j = ((R.getD i []).count (j : Int) : Nat) := by
  obtain ⟨r, e1, e2, _⟩ := H.rowAt hi
  unfold entP tableF
  rw [e2]
  simp [e1, hj]
theorem bits_small {x : Int} (h0 : 0 ≤ x) (h1 : x ≤ 1000) : intBits x ≤ 64 := intBits_le_64 (by lia) (by lia)
theorem tableF_bits (H : Aut n m R T) (i j : Nat) : intBits (entP (tableF n R) i j) ≤ 64 := by
  by_cases hi : i < n
  · by_cases hj : j < n
    · rw [tableF_ent H hi hj]
      obtain ⟨r, e1, e2, e3, _⟩ := H.rowAt hi
      have := List.count_le_length (a := (j : Int)) (l := R.getD i [])
      rw [e2] at this ⊢
      have := H.m3
      exact bits_small (by lia) (by lia)
    · obtain ⟨r, _, e2, e3⟩ := (tableF_sq H).at hi
      unfold entP
      rw [e2, List.getD_eq_getElem?_getD, List.getElem?_eq_none (by lia)]
      exact bits_small (by decide) (by decide)
  · unfold entP
    rw [List.getD_eq_getElem?_getD (l := tableF n R), List.getElem?_eq_none (by rw [(tableF_sq H).len]; lia)]
    exact bits_small (x := 0) (by decide) (by decide)
end
end Mine
end
section
set_option maxRecDepth 100000
open PySem PySem.W PyProof.Rows PySem.Calls PySem.Spec PySem.SeqAt
open PySem.Builtin.Int (intBits)
namespace Mine
section
variable {prog : Program} {w : World} {b : Heap} {k n m : Nat} {R T : List (List Int)}
theorem bits_zero {X : Nat} : intBits 0 ≤ X := by
  have : intBits 0 = 0 := by decide
  lia
theorem addW_bits {c : Int} {aft : List Int} {X : Nat} (g : Int) (h : ∀ i, intBits (aft.getD i 0) ≤ X) (hc : intBits c ≤ X) (i : Nat) : intBits ((addW c aft g).getD i 0) ≤ X + 1 := by
  unfold addW
  split
  · exact Nat.le_succ_of_le (h i)
  · rw [getD_set2]
    split
    · have := intBits_add_le (h g.toNat) hc
      rwa [Nat.max_self] at this
    · exact Nat.le_succ_of_le (h i)
theorem addWs_bits {c : Int} : ∀ (gs : List Int) {aft : List Int} {X : Nat}, (∀ i, intBits (aft.getD i 0) ≤ X) → intBits c ≤ X → ∀ i, intBits ((gs.foldl (addW c) aft).getD i 0) ≤ X + gs.length
  | [], _, _, h, _, i => h i
  | g :: gs, aft, X, h, hc, i => by
    have := addWs_bits gs (addW_bits g h hc) (Nat.le_succ_of_le hc) i
    rw [List.foldl_cons, List.length_cons]; lia
theorem rowWs_bits {c : List Int} (h3 : ∀ r ∈ R, r.length ≤ 3) : ∀ (is : List Nat) {aft : List Int} {X : Nat}, (∀ i, intBits (aft.getD i 0) ≤ X) → (∀ i, intBits (c.getD i 0) ≤ X) → ∀ i, intBits ((is.foldl (rowW R c) aft).getD i 0) ≤ X + 3 * is.length
  | [], _, _, h, _, i => h i
  | j :: is, aft, X, h, hc, i => by
    have hl : (R.getD j []).length ≤ 3 := by
      rw [List.getD_eq_getElem?_getD]
      cases e : R[j]? with
      | none => simp
      | some q => exact h3 q (List.mem_of_getElem? e)
    have := rowWs_bits h3 is (aft := rowW R c aft j) (X := X + 3) (fun i => Nat.le_trans (addWs_bits (R.getD j []) h (hc j) i) (by lia)) (fun i => Nat.le_trans (hc i) (by lia)) i
    rw [List.foldl_cons, List.length_cons]; lia
theorem countsF_bits (n5 : n ≤ 5) (h3 : ∀ r ∈ R, r.length ≤ 3) : ∀ l i, intBits ((countsF n R l).getD i 0) ≤ 1 + 15 * l
  | 0, i => by
    show intBits (((List.replicate n 0).set 0 1).getD i 0) ≤ 1
    rw [getD_set2]
    split
    · decide
    · rw [List.getD_eq_getElem?_getD, List.getElem?_replicate]; split <;> exact bits_zero
  | l + 1, i => by
    have ih := countsF_bits n5 h3 l
    have := rowWs_bits h3 (List.range n) (aft := List.replicate n 0) (X := 1 + 15 * l) (fun i => by rw [List.getD_eq_getElem?_getD, List.getElem?_replicate]; split <;> exact bits_zero) ih i
    rw [List.length_range] at this
    show intBits ((stepW n R (countsF n R l)).getD i 0) ≤ _
    exact Nat.le_trans this (by lia)
theorem countW_bits (H : Aut n m R T) (l : Nat) : intBits (countW n R T l) ≤ 6 + 15 * l := by
  have n5 := H.n5
  have h3 : ∀ r ∈ R, r.length ≤ 3 := fun r hr => by rw [H.row r hr]; exact H.m3
  have := sum_bits (B := 1 + 15 * l) ((tagged n T).map fun i => (countsF n R l).getD i 0) fun x hx => by
    obtain ⟨i, _, rfl⟩ := List.mem_map.mp hx
    exact countsF_bits n5 h3 l i
  rw [List.length_map] at this
  have ht : (tagged n T).length ≤ n := by have := List.length_filter_le (fun i => !(T.getD i []).isEmpty) (List.range n); rw [List.length_range] at this; exact this
  unfold countW
  lia
theorem polyS_found {A : List (List Int)} {st : List (List Int) × List Int} {B t : Nat} (hn : n ≤ 5) (hA : ∀ i j, intBits (entP A i j) ≤ 64) (hM : ∀ i j, i < n → j < n → intBits (entP st.1 i j) ≤ B) (hF : ∀ x ∈ st.2, intBits x ≤ B + 100) : ∀ x ∈ (polyS n A st t).2, intBits x ≤ B + 100 := fun x hx => by
  unfold polyS at hx
  rcases List.mem_append.mp hx with hx | hx
  · exact hF x hx
  · have h1 : ∀ i j, i < n → j < n → intBits (entP (timesP n A st.1) i j) ≤ B + 64 + 5 := fun i j hi hj => by
      rw [timesP_ent hi hj]
      have := sum_bits (B := 64 + B) ((List.range n).map fun a => entP A i a * entP st.1 a j) fun x hx => by
        obtain ⟨a, ha, rfl⟩ := List.mem_map.mp hx
        exact intBits_mul_le (hA i a) (hM a j (List.mem_range.mp ha) hj)
      rw [List.length_map, List.length_range] at this
      lia
    have h2 : intBits (trF n (timesP n A st.1)) ≤ B + 64 + 5 + 5 := by
      have := sum_bits (B := B + 64 + 5) ((List.range n).map fun i => entP (timesP n A st.1) i i) fun x hx => by
        obtain ⟨a, ha, rfl⟩ := List.mem_map.mp hx
        exact h1 a a (List.mem_range.mp ha) (List.mem_range.mp ha)
      rw [List.length_map, List.length_range] at this
      exact Nat.le_trans this (by lia)
    rw [List.mem_singleton.mp hx]
    exact Nat.le_trans (bits_fdiv (intBits_neg_le h2)) (by lia)
theorem polys_found {A : List (List Int)} (hn : n ≤ 5) (hA : ∀ i j, intBits (entP A i j) ≤ 64) : ∀ (ts : List Nat) {st : List (List Int) × List Int} {B : Nat}, (∀ i j, i < n → j < n → intBits (entP st.1 i j) ≤ B) → (∀ x ∈ st.2, intBits x ≤ B + 100) → ∀ x ∈ (ts.foldl (polyS n A) st).2, intBits x ≤ B + 100 * ts.length + 100
  | [], _, _, _, h, x, hx => Nat.le_trans (h x hx) (by lia)
  | t :: ts, st, B, hM, hF, x, hx => by
    have := polys_found hn hA ts (polyS_bits (t := t) hn hA hM) (fun x hx => Nat.le_trans (polyS_found hn hA hM hF x hx) (by lia)) x hx
    rw [List.length_cons]; lia
theorem polyF_bits {A : List (List Int)} (hn : n ≤ 5) (hA : ∀ i j, intBits (entP A i j) ≤ 64) (i : Nat) : intBits ((polyF n A).getD i 0) ≤ 700 := by
  rw [List.getD_eq_getElem?_getD]
  cases e : (polyF n A)[i]? with
  | none => exact bits_zero
  | some x =>
    have := polys_found hn hA (List.range n) (st := (idM n, [1])) (B := 1) (fun i j hi hj => idM_bits i j hi hj) (fun x hx => by rw [List.mem_singleton.mp hx]; decide) x (List.mem_of_getElem? e)
    rw [List.length_range] at this
    exact Nat.le_trans this (by lia)
theorem polyF_len {A : List (List Int)} : (polyF n A).length = n + 1 := by
  have := polys_len (n := n) (A := A) (List.range n) (idM n, [1])
  rw [List.length_range] at this
  have e : ([1] : List Int).length = 1 := rfl
  unfold polyF
  dsimp only at this
  lia
end
end Mine
end
section
set_option maxRecDepth 100000
open PySem PySem.W PyProof.Rows PySem.Calls PySem.Spec PySem.SeqAt
open PySem.Builtin.Int (intBits)
namespace Mine
section
variable {prog : Program} {w : World} {b : Heap} {A : Around} {s : Shared} {E : Value → Shared → Prop}
theorem ev_Dfa (B : Base w b) {k : Nat} {ns : List (Str × NameKind)} {σ : Sig} {R T : List AV} {p₁ p₂ p₃ p₄ : Pos} (kx : ns.lookup (Str.ofString "Dfa") = some .globalImplicit) (h₁ : σ.lookup (Str.ofString "rows") = some (.list R)) (h₂ : σ.lookup (Str.ofString "tags") = some (.list T)) :
    Ev prog w b (k + 2) ns σ (.Call (.Name (Str.ofString "Dfa") p₁) [.Name (Str.ofString "rows") p₂, .Name (Str.ofString "tags") p₃] [] p₄) (.dfa (.list R) (.list T)) :=
  ev_call B (ev_glob B kx (gv_Dfa w) (fun z => .val _)) (keep_ w (by kernel_rfl)) (evs_cons (ev_name h₁) (evs_cons (ev_name h₂) evs_nil)) (f_dfa B)
theorem fl_nat {d : Int} (j : Nat) (p : 0 ≤ d ∧ d < (j : Int)) : ∃ n : Nat, 1 + d = n ∧ 1 ≤ n ∧ n ≤ j := ⟨(1 + d).toNat, by lia, by lia, by lia⟩
theorem fl_many {n : Nat} (n4 : n ≤ 4) : (n : Int) + 1 ≤ 100 := Int.le_trans (Int.add_le_add_right (Int.ofNat_le.mpr n4) 1) (by decide)
theorem fl_sub {len n a : Nat} (hlen : len < n + 3) (ha : a < n + 1) : ((len + n - a : Nat) : Int) = (len : Int) + (n : Int) - (a : Int) ∧ len + n - a < 2 * n + 3 := by lia
theorem fl_mul {l : Nat} (h : l ≤ 100) : 700 + (6 + 15 * l) ≤ 134217728 := Nat.le_trans (Nat.add_le_add_left (Nat.add_le_add_left (Nat.mul_le_mul_left 15 h) 6) 700) (by decide)
set_option maxHeartbeats 4000000 in
theorem f_law (B : Base w b) {l : Addr} {vs : List Value} {is : List Int} (hl : b.IsList l vs.toArray) (hi : IntsAre vs is) (h63 : is.length ≤ 63) (hb : ∀ c ∈ is, intBits c ≤ 2 ^ 20) (good : ∀ n m R T, Aut n m R T → n ≤ 4 → Good n m R T)
    (bs : Le b s.heap) (top : b.objs.size ≤ s.heap.objs.size) (R : Room A 5) {Q : Value → Shared → Prop} (h : ∀ h' tk, Le s.heap h' → Q (.bool true) (sh s h' tk)) : wpAny (model prog w) A (call (.ref 179) [.ref l]) Q E s := by
  refine enterT B (k := 4) (ps := [Str.ofString "script"]) (as := [.val (.ref l)]) (z := b) rfl (by kernel_rfl) rfl rfl rfl rfl rfl rfl rfl rfl rfl (bind1 (fun _ => rfl) [.ref l] rfl) (by kernel_rfl) top Le.rfl bs R (.cons (.val _) .nil) fun env h₁ tk₁ S Rm => ?_
  generalize hA : A.deeper env = A' at *
  -- the pen
  refine ex_assignL (s := (sh s h₁ tk₁)) S Rm (ev_callL B (ev_glob B (by rfl) (gv_law_pen w) (fun z => .val _)) (keep_ w (by kernel_rfl)) (evs_cons (ev_name (by rfl)) evs_nil) (f_law_pen B hl hi h63 hb)) (by decide) fun dp vp np z₂ h₂ tk₂ S₂ r₂ l₂ => ?_
  replace r₂ := r₂.cns; obtain ⟨v₁, _, rfl, q₁, r₂⟩ := r₂
  replace r₂ := r₂.cns; obtain ⟨v₂, _, rfl, q₂, r₂⟩ := r₂
  cases r₂
  obtain ⟨u₁, rfl⟩ := q₁.int_inv
  obtain ⟨u₂, rfl⟩ := q₂.int_inv
  have ok₀ : PenOK 0 (penF is, 0) := ⟨Int.le_refl _, Int.le_refl _⟩
  have p4 := drawF_rng (penF is, 0) (m := 4) (by decide)
  obtain ⟨n, hn, n1, n4⟩ := fl_nat 4 p4
  have n100 : n ≤ 100 := Nat.le_trans n4 (by decide)
  have n1000 : n ≤ 1000 := Nat.le_trans n4 (by decide)
  have ok₁ := ok₀.draw 4
  refine ex_assignM (s := (sh s h₂ tk₂)) [] (t := (penF is, 0)) (t' := (drawF (penF is, 0) 4).2) (a := .int n) S₂ Rm ?_ (by decide) fun u v nn z₃ h₃ tk₃ S₃ l₃ => ?_
  · rw [← hn]
    exact evm_bin (Ev.toM _ (ev_int (i := 1))) (evm_draw B (by rfl) (by rfl) (ev_int (i := 4)) (by decide) (by decide) ok₀ (by decide)) bin_add
  generalize (drawF (penF is, 0) 4).2 = t₁ at *
  have p3 := drawF_rng t₁ (m := 3) (by decide)
  obtain ⟨m, hm, m1, m3⟩ := fl_nat 3 p3
  have m100 : m ≤ 100 := Nat.le_trans m3 (by decide)
  have m1000 : m ≤ 1000 := Nat.le_trans m3 (by decide)
  have ok₂ := ok₁.draw 3
  refine ex_assignM (s := (sh s h₃ tk₃)) [] (t := t₁) (t' := (drawF t₁ 3).2) (a := .int m) S₃ Rm ?_ (by decide) fun u v nn z₄ h₄ tk₄ S₄ l₄ => ?_
  · rw [← hm]
    exact evm_bin (Ev.toM _ (ev_int (i := 1))) (evm_draw B (by rfl) (by rfl) (ev_int (i := 3)) (by decide) (by decide) ok₁ (by decide)) bin_add
  generalize (drawF t₁ 3).2 = t₂ at *
  have rg : ∀ j : Nat, j ≤ 100 → ∀ z v, Rep z v (.rng 0 j) → Src z v ((List.range j).map fun i : Nat => AV.int i) := fun j hj => src_rng (by lia)
  refine ex_assignM (s := (sh s h₄ tk₄)) [] (t := t₂) (t' := penR t₂ n m n) (a := .list ((rowsD t₂ n m).map rowA)) S₄ Rm ?_ (by decide) (fun u v nn z₅ h₅ tk₅ S₅ l₅ => ?_) (noSwap S₄ (by rfl))
  · have e : (.list ((rowsD t₂ n m).map rowA) : AV) = .list ((List.range (List.range n).length).map fun i => rowA (rowD (penR t₂ n m i) n m)) := by
      rw [List.length_range, rowsD, List.map_map]; rfl
    have e' : penR t₂ n m n = penR t₂ n m (List.range n).length := by rw [List.length_range]
    rw [e, e']
    refine EvM.of_LM (evlm_compM (List.range n) (fun i : Nat => AV.int i) (fun i => rowA (rowD (penR t₂ n m i) n m)) (fun i => penR t₂ n m i) (ev_range1 B (by rfl) (ev_name (by rfl))) (rg n n100) (sz_range n1000) (fun i a hia => ?_) rfl (by kernel_rfl))
    have hin : i < n := by have := (List.getElem?_eq_some_iff.mp hia).1; rwa [List.length_range] at this
    have e : rowA (rowD (penR t₂ n m i) n m) = .list ((List.range (List.range m).length).map fun j => AV.int ((drawF (penI (penR t₂ n m i) (n + 1) j) (n + 1)).1 - 1)) := by
      rw [List.length_range]; simp [rowD, avI]
    have e' : penR t₂ n m (i + 1) = penI (penR t₂ n m i) (n + 1) (List.range m).length := by rw [List.length_range]; rfl
    rw [e, e']
    refine EvM.of_LM (evlm_compM (List.range m) (fun i : Nat => AV.int i) (fun j => AV.int ((drawF (penI (penR t₂ n m i) (n + 1) j) (n + 1)).1 - 1)) (fun j => penI (penR t₂ n m i) (n + 1) j) (ev_range1 B (by rfl) (ev_name (by rfl))) (rg m m100) (sz_range m1000) (fun j c hjc => ?_) rfl (by kernel_rfl))
    have hjm : j < m := by have := (List.getElem?_eq_some_iff.mp hjc).1; rwa [List.length_range] at this
    have okj := penI_ok (many := (n : Int) + 1) (penR_ok (n := n) (m := m) ok₂ i) j
    have hmi : m * i ≤ 3 * 4 := Nat.mul_le_mul m3 (Nat.le_trans (Nat.le_of_lt hin) n4)
    exact evm_bin (evm_draw B (by rfl) (by rfl) (ev_bin (ev_name (by rfl)) (ev_int (i := 1)) bin_add) (Int.lt_add_one_of_le (inn n)) (fl_many n4) okj (Nat.le_trans (Nat.add_le_add (Nat.add_le_add_left hmi _) (Nat.le_of_lt (Nat.lt_of_lt_of_le hjm m3))) (by decide))) (Ev.toM _ (ev_int (i := 1))) bin_sub
  have ok₃ := penR_ok (n := n) (m := m) ok₂ n
  have hmn : m * n ≤ 3 * 4 := Nat.mul_le_mul m3 n4
  generalize penR t₂ n m n = t₃ at *
  refine ex_assignM (s := (sh s h₅ tk₅)) [] (t := t₃) (t' := penI t₃ 3 n) (a := .list ((tagsD t₃ n).map tagA)) S₅ Rm ?_ (by decide) (fun u v nn z₆ h₆ tk₆ S₆ l₆ => ?_) (noSwap S₅ (by rfl))
  · have e : (.list ((tagsD t₃ n).map tagA) : AV) = .list ((List.range (List.range n).length).map fun i => tagA (menu (drawF (penI t₃ 3 i) 3).1)) := by
      rw [List.length_range, tagsD, List.map_map]; rfl
    have e' : penI t₃ 3 n = penI t₃ 3 (List.range n).length := by rw [List.length_range]
    rw [e, e']
    refine EvM.of_LM (evlm_compM (List.range n) (fun i : Nat => AV.int i) (fun i => tagA (menu (drawF (penI t₃ 3 i) 3).1)) (fun i => penI t₃ 3 i) (ev_range1 B (by rfl) (ev_name (by rfl))) (rg n n100) (sz_range n1000) (fun i a hia => ?_) rfl (by kernel_rfl))
    have hin : i < n := by have := (List.getElem?_eq_some_iff.mp hia).1; rwa [List.length_range] at this
    have oki := penI_ok (many := 3) ok₃ i
    have hd := drawF_rng (penI t₃ 3 i) (m := 3) (by decide)
    refine evm_tupitem (xs := [tagA [], tagA [0], tagA [0, 2]]) (ev_tuple (evs_cons (ev_tuple evs_nil) (evs_cons (ev_tuple (evs_cons (ev_int (i := 0)) evs_nil)) (evs_cons (ev_tuple (evs_cons (ev_int (i := 0)) (evs_cons (ev_int (i := 2)) evs_nil))) evs_nil))))
      (evm_draw B (by rfl) (by rfl) (ev_int (i := 3)) (by decide) (by decide) oki (Nat.le_trans (Nat.add_le_add (Nat.add_le_add_left hmn _) (Nat.le_of_lt (Nat.lt_of_lt_of_le hin n4))) (by decide))) hd.1 (Int.lt_of_lt_of_le hd.2 (by decide)) ?_
    generalize (drawF (penI t₃ 3 i) 3).1 = d at *
    have hd' : d = 0 ∨ d = 1 ∨ d = 2 := by lia
    rcases hd' with rfl | rfl | rfl <;> rfl
  have H := drawn_aut t₂ t₃ n1 (Nat.le_succ_of_le n4) m1 m3
  generalize rowsD t₂ n m = Rr at *
  generalize tagsD t₃ n = Tt at *
  have G := good n m Rr Tt H n4
  obtain ⟨H', hn'⟩ := comp_aut H n4
  have hnum := fun l => countW_bits H l
  have hT := tableF_sq H
  have hTb := tableF_bits H
  have hFb := fun i => polyF_bits (n := n) (Nat.le_succ_of_le n4) hTb i
  have hFl := polyF_len (n := n) (A := tableF n Rr)
  let σ₁ : Sig := [(Str.ofString "tags", .list (Tt.map tagA)), (Str.ofString "rows", .list (Rr.map rowA)), (Str.ofString "width", .int m), (Str.ofString "count", .int n)]
  have S₆ := (S₆.drop).cut σ₁
  refine ex_assign2 (s := (sh s h₆ tk₆)) (a₂ := dfaA (compR n m Rr) (flipT (compT n Rr Tt))) S₆ Rm (ev_Dfa B (by rfl) (by rfl) (by rfl)) (ev_call B (ev_glob B (by rfl) (gv w (v := .ref 140) (by kernel_rfl)) (fun z => .val _)) (keep_ w (by kernel_rfl)) (evs_cons (ev_Dfa B (R := Rr.map rowA) (T := Tt.map tagA) (by rfl) (by rfl) (by rfl)) evs_nil) (f_complement (k := 0) B H n4)) (by rfl) (by decide) fun z₇ h₇ tk₇ S₇ l₇ => ?_
  generalize hRc : compR n m Rr = Rc at *
  generalize hTc : flipT (compT n Rr Tt) = Tc at *
  -- the numbers
  have h23 : 2 * n + 3 ≤ 100 := Nat.le_trans (Nat.add_le_add_right (Nat.mul_le_mul_left 2 n4) 3) (by decide)
  have h23k : 2 * n + 3 ≤ 1000 := Nat.le_trans h23 (by decide)
  have bn : intBits (n : Int) ≤ 64 := bits_small (inn n) (Int.ofNat_le.mpr n1000)
  have c2n : ((2 * n : Nat) : Int) = 2 * (n : Int) := Int.natCast_mul 2 n
  let N : List Int := (List.range (2 * n + 3)).map (countW n Rr Tt)
  have hNl : N.length = 2 * n + 3 := by simp [N]
  have hNg : ∀ i, i < 2 * n + 3 → (avI N)[i]? = some (.int (countW n Rr Tt i)) := fun i hi => by simp [N, hi]
  have hNt : ∀ j, j ≤ 2 * n + 3 → N.take j = (List.range j).map (countW n Rr Tt) := fun j hj => by
    show ((List.range (2 * n + 3)).map _).take j = _
    rw [← List.map_take, List.take_range, Nat.min_eq_left hj]
  refine ex_assign (s := (sh s h₇ tk₇)) (a := rowA N) S₇ Rm (Ev.of_L ?_) (by decide) (fun z₈ h₈ tk₈ S₈ l₈ => ?_) (noSwap S₇ (by rfl))
  · show EvL _ _ _ _ _ _ _ (avI ((List.range (2 * n + 3)).map (countW n Rr Tt)))
    rw [avI, List.map_map]
    refine ev_comp (List.range (2 * n + 3)) (fun i : Nat => AV.int i) _ (ev_range1 B (n := ((2 * n + 3 : Nat) : Int)) (by rfl) ?_) (rg _ h23) (sz_range h23k) (fun i hi => ?_) rfl (by kernel_rfl)
    · rw [Int.natCast_add, c2n]
      exact ev_bin (ev_bin (ev_int (i := 2)) (ev_name (by rfl)) (bin_mul (IntMulOk.of_le (m := 64) (n := 64) (by decide) bn (by decide)))) (ev_int (i := 3)) bin_add
    · have hi := List.mem_range.mp hi
      exact ev_call B (ev_glob B (by rfl) (gv w (v := .ref 128) (by kernel_rfl)) (fun z => .val _)) (keep_ w (by kernel_rfl)) (evs_cons (ev_name (by rfl)) (evs_cons (ev_name (by rfl)) evs_nil)) (f_count (k := 2) B H (Nat.le_trans (Nat.le_of_lt hi) h23))
  have n23 : n ≤ 2 * n + 3 := Nat.le_trans (Nat.le_mul_of_pos_left n (by decide)) (Nat.le_add_right _ 3)
  have lN : (avI N).length = 2 * n + 3 := (List.length_map ..).trans hNl
  have kN : (avI N).length ≤ sizeLine := lN ▸ sz_ok (Nat.le_trans h23 (by decide))
  have evN : ∀ j : Nat, j ≤ 2 * n + 3 → (avI N).take j = avI ((List.range j).map (countW n Rr Tt)) := fun j hj => by rw [← hNt j hj]; exact List.map_take.symm
  -- all words, tried
  refine ex_if (s := (sh s h₈ tk₈)) (c := false) S₈ sees_refl Rm ?_ fun h₉ tk₉ S₉ l₉ => ?_
  · have e : false = !decide (((List.range n).map (countW n Rr Tt)) = (List.range n).map fun i => (triedF Rr Tt i : Int)) := by
      rw [decide_eq_true]; rfl
      exact List.map_congr_left fun i hi => G.tried i (List.mem_range.mp hi)
    rw [e]
    refine evt_cmp (Ev.of_L ?_) (Ev.of_L ?_) cmp_ne_ints
    · rw [← evN n n23]
      exact ev_upto (xs := avI N) (ev_name (by rfl)) (ev_name (by rfl)) (lN ▸ n23) kN
    · rw [avI, List.map_map]
      refine ev_comp (List.range n) (fun i : Nat => AV.int i) _ (ev_range1 B (by rfl) (ev_name (by rfl))) (rg _ n100) (sz_range n1000) (fun i hi => ?_) rfl (by kernel_rfl)
      have hi := List.mem_range.mp hi
      exact ev_call B (ev_glob B (by rfl) (gv w (v := .ref 174) (by kernel_rfl)) (fun z => .val _)) (keep_ w (by kernel_rfl)) (evs_cons (ev_name (by rfl)) (evs_cons (ev_name (by rfl)) (evs_cons (ev_name (by rfl)) evs_nil))) (f_tried (k := 3) B H (by lia))
  refine ex_nil ?_
  -- the polynomial
  refine ex_assign (s := (sh s h₉ tk₉)) (a := rowA (polyF n (tableF n Rr))) S₉ Rm (Ev.of_L (ev_callL B (ev_glob B (by rfl) (gv w (v := .ref 169) (by kernel_rfl)) (fun z => .val _)) (keep_ w (by kernel_rfl)) (evs_cons (Ev.of_L (ev_callL B (ev_glob B (by rfl) (gv w (v := .ref 159) (by kernel_rfl)) (fun z => .val _)) (keep_ w (by kernel_rfl)) (evs_cons (ev_name (by rfl)) evs_nil) (f_table (k := 3) B H))) evs_nil) (f_poly (k := 2) B (Nat.le_succ_of_le n4) hT hTb))) (by decide) fun z₁₀ h₁₀ tk₁₀ S₁₀ l₁₀ => ?_
  have Grec := G.recur
  generalize polyF n (tableF n Rr) = F at *
  let σ₂ : Sig := [(Str.ofString "found", rowA F), (Str.ofString "numbers", rowA N), (Str.ofString "other", dfaA Rc Tc), (Str.ofString "dfa", dfaA Rr Tt), (Str.ofString "width", .int m), (Str.ofString "count", .int n)]
  have hFg : ∀ i, i < n + 1 → (avI F)[i]? = some (.int (F.getD i 0)) := fun i hi => avI_get (by lia)
  have plus : ∀ c : Nat, ((n + c : Nat) : Int) = (n : Int) + (c : Int) := fun c => Int.natCast_add n c
  have n_k : ∀ c : Nat, c ≤ 3 → n + c ≤ 100 := fun c hc => Nat.le_trans (Nat.add_le_add n4 hc) (by decide)
  refine ex_forS (s := (sh s h₁₀ tk₁₀)) (List.range (n + 3)) (fun i : Nat => AV.int i) (fun (_ : Unit) _ => ()) () (fun _ _ σ' led' => σ' = σ₂ ∧ led' = []) σ₂ S₁₀ Rm (ev_range1 B (n := ((n + 3 : Nat) : Int)) (by rfl) (by rw [plus]; exact ev_bin (ev_name (by rfl)) (ev_int (i := 3)) bin_add)) (rg _ (n_k 3 (by decide))) (by decide) (fun _ _ => ⟨rfl, rfl⟩) ?_ ?_
  · rintro _ len _ z₁₁ h₁₁ tk₁₁ σ₁₁ led₁₁ I oI hlen - ⟨rfl, rfl⟩ l₁₁ S₁₁
    have hlen := List.mem_range.mp (List.mem_of_getElem? hlen)
    refine ex_if (s := (sh s h₁₁ tk₁₁)) (c := false) S₁₁ sees_refl Rm ?_ fun h₁₂ tk₁₂ S₁₂ l₁₂ => ?_
    · have e : false = (((List.range (n + 1)).map fun a => F.getD a 0 * countW n Rr Tt (len + n - a)).sum != 0) := by rw [Grec len hlen]; rfl
      rw [e]
      refine evt_cmp (ev_sum1 B (by rfl) (Ev.of_L ?_)) (ev_int (i := 0)) cmp_ne
      rw [avI, List.map_map]
      refine ev_comp (List.range (n + 1)) (fun i : Nat => AV.int i) _ (ev_range1 B (n := ((n + 1 : Nat) : Int)) (by rfl) (by rw [plus]; exact ev_bin (ev_name (by rfl)) (ev_int (i := 1)) bin_add)) (rg _ (n_k 1 (by decide))) (sz_range (Nat.le_trans (n_k 1 (by decide)) (by decide))) (fun a ha => ?_) rfl (by kernel_rfl)
      have ha := List.mem_range.mp ha
      obtain ⟨ej, hj⟩ := fl_sub hlen ha
      have hj' := Nat.le_trans (Nat.le_of_lt hj) h23
      exact ev_bin (ev_item (xs := avI F) (j := a) (ev_name (by rfl)) (ev_name (by rfl)) (inn a) (lt63 (Nat.le_trans (Nat.le_of_lt ha) (Nat.le_trans (n_k 1 (by decide)) (by decide)))) (hFg a ha)) (ev_item (xs := avI N) (j := ((len + n - a : Nat) : Int)) (ev_name (by rfl)) (by rw [ej]; exact ev_bin (ev_bin (ev_name (by rfl)) (ev_name (by rfl)) bin_add) (ev_name (by rfl)) bin_sub) (inn _) (lt63 (Nat.le_trans hj' (by decide))) (hNg _ hj))
        (bin_mul (IntMulOk.of_le (hFb a) (hnum _) (fl_mul hj')))
    exact ex_nil (ex_nil ⟨rfl, z₁₁, h₁₂, tk₁₂, σ₂, _, rfl, Le.rfl, S₁₂.cut σ₂, rfl, rfl⟩)
  rintro z₁₁ h₁₁ tk₁₁ σ₁₁ led₁₁ ⟨rfl, rfl⟩ l₁₁ S₁₁
  -- the complement
  refine ex_forS (s := (sh s h₁₁ tk₁₁)) (List.range (n + 2)) (fun i : Nat => AV.int i) (fun (_ : Unit) _ => ()) () (fun _ _ σ' led' => σ' = σ₂ ∧ led' = []) σ₂ S₁₁ Rm (ev_range1 B (n := ((n + 2 : Nat) : Int)) (by rfl) (by rw [plus]; exact ev_bin (ev_name (by rfl)) (ev_int (i := 2)) bin_add)) (rg _ (n_k 2 (by decide))) (by decide) (fun _ _ => ⟨rfl, rfl⟩) ?_ ?_
  · rintro _ len _ z₁₂ h₁₂ tk₁₂ σ₁₂ led₁₂ I oI hlen - ⟨rfl, rfl⟩ l₁₂ S₁₂
    have hlen := List.mem_range.mp (List.mem_of_getElem? hlen)
    have len100 := Nat.le_trans (Nat.le_of_lt hlen) (n_k 2 (by decide))
    refine ex_if (s := (sh s h₁₂ tk₁₂)) (c := false) S₁₂ sees_refl Rm ?_ fun h₁₃ tk₁₃ S₁₃ l₁₃ => ?_
    · have hpow : (intBits (m : Int) : Int) * (len : Int) ≤ 2 ^ 27 := by
        have h1 := bits_small (x := (m : Int)) (inn m) (Int.ofNat_le.mpr m1000)
        exact Int.le_trans (Int.mul_le_mul (Int.ofNat_le.mpr h1) (Int.ofNat_le.mpr (Nat.le_trans (Nat.le_of_lt hlen) (n_k 2 (by decide)))) (inn len) (by decide)) (by decide)
      have e : false = ((countW n Rr Tt len + countW Rc.length Rc Tc len) != (m : Int) ^ (len : Int).toNat) := by
        have := G.compl len hlen
        rw [hRc, hTc] at this
        rw [this, Int.toNat_natCast]; simp
      rw [e]
      exact evt_cmp (ev_bin (ev_item (xs := avI N) (j := len) (ev_name (by rfl)) (ev_name (by rfl)) (inn len) (lt63 (Nat.le_trans len100 (by decide))) (hNg len (by lia))) (ev_call B (ev_glob B (by rfl) (gv w (v := .ref 128) (by kernel_rfl)) (fun z => .val _)) (keep_ w (by kernel_rfl)) (evs_cons (ev_name (by rfl)) (evs_cons (ev_name (by rfl)) evs_nil)) (f_count (k := 2) B H' len100)) bin_add)
        (ev_bin (ev_name (by rfl)) (ev_name (by rfl)) (bin_pow (inn len) hpow)) cmp_ne
    exact ex_nil (ex_nil ⟨rfl, z₁₂, h₁₃, tk₁₃, σ₂, _, rfl, Le.rfl, S₁₃.cut σ₂, rfl, rfl⟩)
  rintro z₁₂ h₁₂ tk₁₂ σ₁₂ led₁₂ ⟨rfl, rfl⟩ l₁₂ S₁₂
  -- nothing, finite
  refine ex_if (s := (sh s h₁₂ tk₁₂)) (c := false || false) S₁₂ sees_refl Rm (evt_or ?_ ?_) fun h₁₃ tk₁₃ S₁₃ l₁₃ => ?_
  · have e : false = ((!(aliveF n Rr Tt).getD 0 false) != (((List.range n).map (countW n Rr Tt)).sum == 0)) := by rw [G.nothing]; simp
    rw [e]
    refine evt_cmp (ev_call B (ev_glob B (by rfl) (gv w (v := .ref 111) (by kernel_rfl)) (fun z => .val _)) (keep_ w (by kernel_rfl)) (evs_cons (ev_name (by rfl)) evs_nil) (f_is_nothing (k := 1) B H)) (ev_cmp (ev_sum1 B (by rfl) (Ev.of_L ?_)) (ev_int (i := 0)) cmp_eq) cmp_ne_bool
    rw [← evN n n23]
    exact ev_upto (xs := avI N) (ev_name (by rfl)) (ev_name (by rfl)) (lN ▸ n23) kN
  · have e : false = (finiteF n Rr Tt != (((List.range n).map fun i => countW n Rr Tt (n + i)).sum == 0)) := by rw [G.finite]; simp
    rw [e]
    refine evt_cmp (ev_call B (ev_glob B (by rfl) (gv w (v := .ref 116) (by kernel_rfl)) (fun z => .val _)) (keep_ w (by kernel_rfl)) (evs_cons (ev_name (by rfl)) evs_nil) (f_is_finite (k := 1) B H)) (ev_cmp (ev_sum1 B (by rfl) (Ev.of_L ?_)) (ev_int (i := 0)) cmp_eq) cmp_ne_bool
    have e2 : avI ((List.range n).map fun i => countW n Rr Tt (n + i)) = ((avI N).drop n).take (2 * n - n) := by
      rw [Nat.two_mul, Nat.add_sub_cancel]
      apply List.ext_getElem?
      intro i
      by_cases hi : i < n
      · rw [List.getElem?_take, if_pos hi, List.getElem?_drop, hNg _ (by lia)]; simp [hi]
      · rw [List.getElem?_eq_none (by simp; lia), List.getElem?_take, if_neg hi]
    rw [e2]
    exact ev_slice (xs := avI N) (i := n) (j := 2 * n) (ev_name (by rfl)) (ev_name (by rfl)) (by rw [c2n]; exact ev_bin (ev_int (i := 2)) (ev_name (by rfl)) (bin_mul (IntMulOk.of_le (m := 64) (n := 64) (by decide) bn (by decide)))) (Nat.le_mul_of_pos_left n (by decide)) (lN ▸ Nat.le_add_right _ 3) kN
  refine ex_nil ?_
  -- the shortest
  refine ex_assign (s := (sh s h₁₃ tk₁₃)) (a := optA (shortF m Rr Tt)) S₁₃ Rm (ev_call B (ev_glob B (by rfl) (gv w (v := .ref 123) (by kernel_rfl)) (fun z => .val _)) (keep_ w (by kernel_rfl)) (evs_cons (ev_name (by rfl)) evs_nil) (f_shortest (k := 2) B H)) (by decide) fun z₁₄ h₁₄ tk₁₄ S₁₄ l₁₄ => ?_
  have Gs := G.short
  cases hsh : shortF m Rr Tt with
  | none =>
    rw [hsh] at Gs S₁₄
    refine ex_if (s := (sh s h₁₄ tk₁₄)) (c := true) S₁₄ sees_refl Rm (evt_cmp (a := .none) (ev_name (by rfl)) ev_none (cmp_none (.inl ⟨rfl, rfl⟩))) fun h₁₅ tk₁₅ S₁₅ l₁₅ => ?_
    refine ex_ret (s := (sh s h₁₅ tk₁₅)) (a := .bool (N.sum == 0)) S₁₅ Rm (ev_cmp (ev_sum1 B (by rfl) (ev_name (by rfl))) (ev_int (i := 0)) cmp_eq) fun v z' h' tk S' r => ?_
    have e : (N.sum == 0) = true := by rw [show N.sum = 0 from Gs]; rfl
    rw [e] at r
    rw [r.bool_inv]
    exact h h' tk S'.G.hh
  | some wd =>
    rw [hsh] at Gs S₁₄
    obtain ⟨g1, g2, g3⟩ := Gs
    refine ex_if (s := (sh s h₁₄ tk₁₄)) (c := false) S₁₄ sees_refl Rm (evt_cmp (a := rowA wd) (ev_name (by rfl)) ev_none (cmp_none (.inr ⟨⟨_, rfl⟩, rfl⟩))) fun h₁₅ tk₁₅ S₁₅ l₁₅ => ?_
    refine ex_nil ?_
    have g1' := Nat.le_of_lt g1
    have w62 : wd.length < 2 ^ 62 := Nat.lt_of_le_of_lt (Nat.le_trans g1' h23) (by decide)
    have w100 : wd.length ≤ 1000 := Nat.le_trans g1' h23k
    refine ex_ret (s := (sh s h₁₅ tk₁₅)) (a := .bool (decide (0 < countW n Rr Tt wd.length) && (((List.range wd.length).map (countW n Rr Tt)).sum == 0))) S₁₅ Rm
      (ev_and (ev_cmp (ev_item (xs := avI N) (j := wd.length) (ev_name (by rfl)) (ev_len1 B (by rfl) (xs := avI wd) (ev_name (by rfl)) (by rw [List.length_map]) w62) (inn _) (lt63 w100) (hNg _ g1)) (ev_int (i := 0)) cmp_gt) fun _ => ev_cmp (ev_sum1 B (by rfl) (Ev.of_L ?_)) (ev_int (i := 0)) cmp_eq) fun v z' h' tk S' r => ?_
    · rw [← evN wd.length g1']
      exact ev_upto (xs := avI N) (ev_name (by rfl)) (ev_len1 B (by rfl) (xs := avI wd) (ev_name (by rfl)) (by rw [List.length_map]) w62) (lN ▸ g1') kN
    · rw [g3, decide_eq_true g2] at r
      rw [r.bool_inv]
      exact h h' tk S'.G.hh
end
end Mine
end
section
set_option maxRecDepth 100000
open PySem PySem.W PyProof.Rows PySem.Calls
open PySem.Builtin.Int (intBits)
namespace Mine
theorem room0 : Room callerA 5 := ⟨rfl, by decide, by decide⟩
theorem law_holds (good : ∀ n m R T, Aut n m R T → n ≤ 4 → Good n m R T) : PySem.Challenge.rw_pq0553_01.Holds := hd (by
  intro w s₀ s₁ mg mb G Y fa o pm cd doc dV kV ho hd hcd hD hmg hg args vals as hpre hlay hrd hwl hlo
  have KX := kIn_of Y
  refine Ground.open G ?_
  intro T B D TE TW
  wrow_args hpre hlay hrd hwl hlo
  rename_i is hs0 hlay0 hlay1 hr1 hl2 as4 as3 la vs as0 hL ra w1 r0 hI hr hc63 hcT
  have hmg' : mg (Str.ofString "law") = some (.ref 179) := mg_of KX T.g (by kernel_rfl)
  have e : some (Value.ref fa) = some (.ref 179) := hmg.symm.trans hmg'
  have e' : fa = 179 := by injection e with e; injection e
  subst e'
  have BB : Base w s₁.heap := ⟨KX, _, _, _, _, topRead_of T⟩
  refine f_law BB hL hI (by lia) (fun c hc => PyData.bits_item_of_ints hlay1 hc) good Le.rfl (Nat.le_refl _) room0 fun h' tk l => ?_
  exact GoodW.toG ⟨.inl ⟨.bool true, .bool true, [], rfl, fun _ => rfl, .bool true, by with_unfolding_all rfl, fun _ => ⟨.nil, fun a ha => nomatch ha⟩⟩, l, rfl, hg⟩)
end Mine
end
section
namespace Mine
noncomputable def sumR (n : Nat) (f : Nat → Int) : Int := ((List.range n).map f).sum
theorem sumR_succ (n : Nat) (f : Nat → Int) : sumR (n + 1) f = sumR n f + f n := by simp [sumR, List.range_succ, List.sum_append]
theorem sumR_congr {n : Nat} {f g : Nat → Int} (h : ∀ i < n, f i = g i) : sumR n f = sumR n g := by
  unfold sumR; rw [List.map_congr_left fun i hi => h i (List.mem_range.mp hi)]
theorem sumR_add (n : Nat) (f g : Nat → Int) : sumR n (fun i => f i + g i) = sumR n f + sumR n g := by
  induction n with
  | zero => rfl
  | succ n ih => rw [sumR_succ, sumR_succ, sumR_succ, ih]; lia
theorem sumR_mul (n : Nat) (c : Int) (f : Nat → Int) : sumR n (fun i => c * f i) = c * sumR n f := by
  induction n with
  | zero => simp [sumR]
  | succ n ih => rw [sumR_succ, sumR_succ, ih, Int.mul_add]
theorem sumR_mul' (n : Nat) (c : Int) (f : Nat → Int) : sumR n (fun i => f i * c) = sumR n f * c := by
  rw [Int.mul_comm, ← sumR_mul]; exact sumR_congr fun i _ => Int.mul_comm _ _
theorem sumR_zero (n : Nat) : sumR n (fun _ => 0) = 0 := by
  induction n with
  | zero => rfl
  | succ n ih => rw [sumR_succ, ih]; rfl
theorem sumR_comm (n m : Nat) (f : Nat → Nat → Int) : sumR n (fun i => sumR m (fun j => f i j)) = sumR m (fun j => sumR n (fun i => f i j)) := by
  induction n with
  | zero => simp only [sumR, List.range_zero, List.map_nil, List.sum_nil]; exact (sumR_zero m).symm
  | succ n ih => rw [sumR_succ, ih, ← sumR_add]; exact sumR_congr fun j _ => (sumR_succ n _).symm
theorem sumR_pick {n j : Nat} (f : Nat → Int) (h : j < n) : sumR n (fun i => if i = j then f i else 0) = f j := by
  induction n with
  | zero => lia
  | succ n ih =>
    rw [sumR_succ]
    by_cases hj : j = n
    · subst hj
      rw [sumR_congr (g := fun _ => 0) (fun i hi => if_neg (by lia)), sumR_zero]; simp
    · rw [ih (by lia), if_neg (by lia)]; lia
theorem sumR_nonneg {n : Nat} {f : Nat → Int} (h : ∀ i < n, 0 ≤ f i) : 0 ≤ sumR n f := by
  induction n with
  | zero => exact Int.le_refl _
  | succ n ih => rw [sumR_succ]; have := ih fun i hi => h i (by lia); have := h n (by lia); lia
theorem sumR_eq_zero {n : Nat} {f : Nat → Int} (h : ∀ i < n, 0 ≤ f i) : sumR n f = 0 ↔ ∀ i < n, f i = 0 := by
  induction n with
  | zero => exact ⟨fun _ i hi => absurd hi (Nat.not_lt_zero _), fun _ => rfl⟩
  | succ n ih =>
    have h1 := sumR_nonneg fun i hi => h i (Nat.lt_succ_of_lt hi)
    have h2 := h n (Nat.lt_succ_self _)
    rw [sumR_succ]
    constructor
    · intro e i hi
      by_cases hin : i = n
      · subst hin; lia
      · exact (ih fun i hi => h i (by lia)).mp (by lia) i (by lia)
    · intro e
      rw [(ih fun i hi => h i (by lia)).mpr fun i hi => e i (by lia), e n (by lia)]; rfl

theorem addW_get {n : Nat} {c : Int} {aft : List Int} {g : Int} (hl : aft.length = n) (hg : -1 ≤ g ∧ g < n) {j : Nat} (hj : j < n) : (addW c aft g).getD j 0 = aft.getD j 0 + if g = (j : Int) then c else 0 := by
  unfold addW
  by_cases h : g = -1
  · rw [if_pos h, if_neg (by lia)]; lia
  · rw [if_neg h, getD_set2]
    by_cases h2 : g = (j : Int)
    · subst h2
      rw [if_pos ⟨by simp, by simp; lia⟩, if_pos rfl]; simp
    · rw [if_neg (fun q => h2 (by lia)), if_neg h2]; lia
theorem addWs_get {n : Nat} {c : Int} : ∀ (gs : List Int) {aft : List Int}, aft.length = n → (∀ g ∈ gs, -1 ≤ g ∧ g < n) → ∀ {j : Nat}, j < n → (gs.foldl (addW c) aft).getD j 0 = aft.getD j 0 + c * (gs.count (j : Int) : Nat)
  | [], aft, _, _, j, _ => by simp
  | g :: gs, aft, hl, hg, j, hj => by
    rw [List.foldl_cons, addWs_get gs (addW_len g hl) (fun x hx => hg x (.tail _ hx)) hj, addW_get hl (hg g (.head _)) hj, List.count_cons]
    by_cases h : g = (j : Int)
    · simp only [h, if_true, beq_self_eq_true]
      rw [show ((List.count (j : Int) gs + 1 : Nat) : Int) = (List.count (j : Int) gs : Int) + 1 by lia, Int.mul_add]; lia
    · rw [if_neg h, if_neg (by simpa using h)]; simp
theorem rowWs_get {n : Nat} {R : List (List Int)} {c : List Int} (hR : ∀ i < n, ∀ g ∈ R.getD i [], -1 ≤ g ∧ g < n) {aft : List Int} (hl : aft.length = n) {j : Nat} (hj : j < n) : ∀ k ≤ n, ((List.range k).foldl (rowW R c) aft).getD j 0 = aft.getD j 0 + sumR k fun i => c.getD i 0 * ((R.getD i []).count (j : Int) : Nat)
  | 0, _ => by simp [sumR]
  | k + 1, hk => by
    rw [List.range_succ, List.foldl_append, List.foldl_cons, List.foldl_nil]
    show ((R.getD k []).foldl (addW (c.getD k 0)) ((List.range k).foldl (rowW R c) aft)).getD j 0 = _
    rw [addWs_get (R.getD k []) (rowWs_len _ hl) (hR k (by lia)) hj, rowWs_get hR hl hj k (by lia), sumR_succ]
    lia
theorem stepW_get {n : Nat} {R : List (List Int)} {c : List Int} (hR : ∀ i < n, ∀ g ∈ R.getD i [], -1 ≤ g ∧ g < n) {j : Nat} (hj : j < n) : (stepW n R c).getD j 0 = sumR n fun i => c.getD i 0 * ((R.getD i []).count (j : Int) : Nat) := by
  unfold stepW
  rw [rowWs_get hR (by simp) hj n (Nat.le_refl _)]
  rw [List.getD_eq_getElem?_getD, List.getElem?_replicate, if_pos hj]; simp

/-- the states met by a list, told state by state -/
theorem flat_count {n : Nat} {R : List (List Int)} {j : Nat} (st : List Int) (h : ∀ s ∈ st, 0 ≤ s ∧ s < n) : ((triedS R st).count (j : Int) : Int) = sumR n fun i => (st.count (i : Int) : Nat) * ((R.getD i []).count (j : Int) : Nat) := by
  induction st with
  | nil => simp [triedS, sumR_zero]
  | cons s st ih =>
    have ih := ih fun x hx => h x (.tail _ hx)
    have hs := h s (.head _)
    have e1 : triedS R (s :: st) = (R.getD s.toNat []).filter (fun g => decide (0 ≤ g)) ++ triedS R st := by unfold triedS; rw [List.flatMap_cons]
    have e2 : ((R.getD s.toNat []).filter (fun g => decide (0 ≤ g))).count (j : Int) = (R.getD s.toNat []).count (j : Int) := List.count_filter (by simp)
    rw [e1, List.count_append, e2]
    have e3 : (fun i : Nat => (((s :: st).count (i : Int) : Nat) : Int) * ((R.getD i []).count (j : Int) : Nat)) = fun i : Nat => ((st.count (i : Int) : Nat) : Int) * ((R.getD i []).count (j : Int) : Nat) + if i = s.toNat then ((R.getD i []).count (j : Int) : Int) else 0 := by
      funext i
      rw [List.count_cons]
      by_cases hi : i = s.toNat
      · have : (s == (i : Int)) = true := by rw [beq_iff_eq]; lia
        rw [if_pos this, if_pos hi, show ((List.count (i : Int) st + 1 : Nat) : Int) = (List.count (i : Int) st : Int) + 1 by lia, Int.add_mul]; lia
      · have : (s == (i : Int)) = false := by rw [beq_eq_false_iff_ne]; lia
        rw [if_neg hi, this]; simp
    rw [e3, sumR_add, ← ih, sumR_pick _ (by lia)]
    lia
theorem filter_len {n : Nat} (p : Int → Bool) : ∀ st : List Int, (∀ s ∈ st, 0 ≤ s ∧ s < n) → ((st.filter p).length : Int) = sumR n fun i => if p i then ((st.count (i : Int) : Nat) : Int) else 0
  | [], _ => by simp; exact (sumR_zero n).symm
  | s :: st, h => by
    have ih := filter_len p st fun x hx => h x (.tail _ hx)
    have hs := h s (.head _)
    have e3 : (fun i : Nat => if p (i : Int) then (((s :: st).count (i : Int) : Nat) : Int) else 0) = fun i : Nat => (if p (i : Int) then ((st.count (i : Int) : Nat) : Int) else 0) + if i = s.toNat then (if p (i : Int) then (1 : Int) else 0) else 0 := by
      funext i
      rw [List.count_cons]
      by_cases hi : i = s.toNat
      · have : (s == (i : Int)) = true := by rw [beq_iff_eq]; lia
        rw [if_pos this, if_pos hi]
        split <;> lia
      · have : (s == (i : Int)) = false := by rw [beq_eq_false_iff_ne]; lia
        rw [if_neg hi, this]; simp
    rw [e3, sumR_add, ← ih, sumR_pick _ (by lia)]
    have : ((s.toNat : Nat) : Int) = s := by lia
    rw [this, List.filter_cons]
    split
    · rw [List.length_cons]; lia
    · lia
theorem sum_filter (q : Nat → Bool) (f : Nat → Int) : ∀ n, (((List.range n).filter q).map f).sum = sumR n fun i => if q i then f i else 0
  | 0 => rfl
  | n + 1 => by
    rw [List.range_succ, List.filter_append, List.map_append, List.sum_append, sum_filter q f n, sumR_succ]
    by_cases h : q n <;> simp [h]
section
variable {n m : Nat} {R T : List (List Int)}
theorem Aut.ent' (H : Aut n m R T) : ∀ i < n, ∀ g ∈ R.getD i [], -1 ≤ g ∧ g < n := fun i hi => by
  obtain ⟨r, _, e2, _, e4⟩ := H.rowAt hi
  rw [e2]; exact e4
theorem tried_rng (H : Aut n m R T) (l : Nat) : ∀ s ∈ triedL R l, 0 ≤ s ∧ s < n := triedL_rng H.n1 H.ent l
theorem counts_eq (H : Aut n m R T) : ∀ l j, j < n → (countsF n R l).getD j 0 = ((triedL R l).count (j : Int) : Nat)
  | 0, j, hj => by
    show ((List.replicate n (0 : Int)).set 0 1).getD j 0 = ((([0] : List Int).count (j : Int) : Nat) : Int)
    rw [getD_set2]
    by_cases h : j = 0
    · subst h
      rw [if_pos ⟨rfl, by simp; exact H.n1⟩]; rfl
    · rw [if_neg (fun q => h q.1.symm), List.getD_eq_getElem?_getD, List.getElem?_replicate, if_pos hj, List.count_cons]
      have : ((0 : Int) == (j : Int)) = false := by rw [beq_eq_false_iff_ne]; lia
      rw [this]; rfl
  | l + 1, j, hj => by
    show (stepW n R (countsF n R l)).getD j 0 = (((triedS R (triedL R l)).count (j : Int) : Nat) : Int)
    rw [stepW_get H.ent' hj, flat_count _ (tried_rng H l)]
    exact sumR_congr fun i hi => by rw [counts_eq H l i hi]
theorem countW_sum (l : Nat) : countW n R T l = sumR n fun i => if !(T.getD i []).isEmpty then (countsF n R l).getD i 0 else 0 := sum_filter _ _ n
theorem emp (q : List Int) : (!decide (q = [])) = !q.isEmpty := by cases q <;> simp
theorem count_tried (H : Aut n m R T) (l : Nat) : countW n R T l = triedF R T l := by
  rw [countW_sum]
  unfold triedF
  rw [filter_len _ _ (tried_rng H l)]
  refine sumR_congr fun i hi => ?_
  rw [counts_eq H l i hi, Int.toNat_natCast, emp]
theorem countW_nonneg (H : Aut n m R T) (l : Nat) : 0 ≤ countW n R T l := by rw [count_tried H]; lia
/-- a word of length l -/
theorem countW_zero (H : Aut n m R T) (l : Nat) : countW n R T l = 0 ↔ ∀ s ∈ triedL R l, T.getD s.toNat [] = [] := by
  rw [count_tried H]
  unfold triedF
  rw [show (((List.filter (fun s : Int => !decide (T.getD s.toNat [] = [])) (triedL R l)).length : Nat) : Int) = 0 ↔ (List.filter (fun s : Int => !decide (T.getD s.toNat [] = [])) (triedL R l)).length = 0 by lia, List.length_eq_zero_iff, List.filter_eq_nil_iff]
  simp
end
end Mine
end
section
namespace Mine
section
open Lean.Grind.CommRing
noncomputable def sP : Nat → (Nat → Poly) → Poly
  | 0, _ => .num 0
  | n + 1, f => (sP n f).combine_k (f n)
noncomputable def pm (l : List Poly) (i : Nat) : Poly := l.getD i (.num 0)
noncomputable def rowP (n : Nat) (L : List Poly) (i j : Nat) : Poly := sP n fun b => (pm L (n * b + j)).mulMon_k 1 (Mon.ofVar (n * i + b))
noncomputable def isP (p q : Poly) : Bool := p.beq' q
noncomputable def allN (n : Nat) (f : Nat → Nat → Bool) : Bool := (List.range n).all fun i => (List.range n).all (f i)
noncomputable def stepOK (n : Nat) (k : Int) (L : List Poly) (C : Poly) (L' : List Poly) : Bool :=
  isP ((sP n fun i => rowP n L i i).combine_k (C.mulConst_k k)) (.num 0) && allN n fun i j => isP (pm L' (n * i + j)) (if i = j then (rowP n L i j).combine_k C else rowP n L i j)
noncomputable def chain (n : Nat) : Nat → List Poly → List (Poly × List Poly) → Bool
  | _, L, [] => allN n fun i j => isP (pm L (n * i + j)) (.num 0)
  | k, L, (C, L') :: r => stepOK n (1 + k) L C L' && chain n (k + 1) L' r
theorem isP_eq {p q : Poly} (h : isP p q = true) : p = q := by unfold isP at h; rwa [Poly.beq'_eq] at h
theorem allN_at {n : Nat} {f : Nat → Nat → Bool} (h : allN n f = true) {i j : Nat} (hi : i < n) (hj : j < n) : f i j = true :=
  List.all_eq_true.mp (List.all_eq_true.mp h i (List.mem_range.mpr hi)) j (List.mem_range.mpr hj)
variable {n : Nat} {ctx : Context Int} {a : Nat → Nat → Int}
theorem sP_den (m : Nat) (f : Nat → Poly) : (sP m f).denote ctx = sumR m fun b => (f b).denote ctx := by
  induction m with
  | zero => rfl
  | succ m ih => rw [sumR_succ, ← ih, sP, Poly.combine_k_eq_combine, Poly.denote_combine]
theorem rowP_den (hx : ∀ i b, i < n → b < n → ctx.get (n * i + b) = a i b) {L : List Poly} {i j : Nat} (hi : i < n) : (rowP n L i j).denote ctx = sumR n fun b => a i b * (pm L (n * b + j)).denote ctx := by
  rw [rowP, sP_den]
  refine sumR_congr fun b hb => ?_
  rw [Poly.mulMon_k_eq_mulMon, Poly.denote_mulMon, Mon.denote_ofVar]
  show ((1 : Int) : Int) * ctx.get (n * i + b) * _ = _
  rw [hx i b hi hb, Int.one_mul]
theorem fdiv_exact {k x y : Int} (hk : k ≠ 0) (h : y + k * x = 0) : Int.fdiv (-y) k = x := by
  rw [show -y = k * x by lia]; exact Int.mul_fdiv_cancel_left x hk
theorem ch_go (hx : ∀ i b, i < n → b < n → ctx.get (n * i + b) = a i b) {M : Nat → Nat → Nat → Int} {c : Nat → Int}
    (hs : ∀ k i j, i < n → j < n → M (k + 1) i j = if i = j then sumR n (fun b => a i b * M k b j) + c (k + 1) else sumR n (fun b => a i b * M k b j))
    (hc : ∀ k, c (k + 1) = Int.fdiv (-(sumR n fun i => sumR n fun b => a i b * M k b i)) (1 + k)) (lev : List (Poly × List Poly)) :
    ∀ (k : Nat) (L : List Poly), (∀ i j, i < n → j < n → M k i j = (pm L (n * i + j)).denote ctx) → chain n k L lev = true → ∀ i j, i < n → j < n → M (k + lev.length) i j = 0 := by
  induction lev with
  | nil =>
    intro k L h ok i j hi hj
    show M k i j = 0
    rw [h i j hi hj, isP_eq (allN_at ok hi hj)]; rfl
  | cons q lev ih =>
    intro k L h ok
    obtain ⟨C, L'⟩ := q
    obtain ⟨ok, ok'⟩ := Bool.and_eq_true_iff.mp ok
    obtain ⟨o1, o2⟩ := Bool.and_eq_true_iff.mp ok
    have hr : ∀ i j, i < n → j < n → sumR n (fun b => a i b * M k b j) = (rowP n L i j).denote ctx := fun i j hi hj => by
      rw [rowP_den hx hi]
      exact sumR_congr fun b hb => by rw [h b j hb hj]
    have hC : c (k + 1) = C.denote ctx := by
      rw [hc]
      refine fdiv_exact (by lia) ?_
      have := congrArg (Poly.denote ctx) (isP_eq o1)
      rw [Poly.combine_k_eq_combine, Poly.denote_combine, Poly.mulConst_k_eq_mulConst, Poly.denote_mulConst, sP_den] at this
      rw [sumR_congr fun i hi => hr i i hi hi]
      exact this
    have := ih (k + 1) L' (fun i j hi hj => by
      rw [hs k i j hi hj, isP_eq (allN_at o2 hi hj), hr i j hi hj, hC]
      split
      · rw [Poly.combine_k_eq_combine, Poly.denote_combine]
      · rfl) ok'
    rw [List.length_cons, Nat.add_comm lev.length 1, ← Nat.add_assoc]
    exact this
noncomputable abbrev chX (i : Nat) (m : Mon) : Mon := .mult ⟨i, 1⟩ m
noncomputable abbrev chP (m : Mon) (p : Poly) : Poly := .add 1 m p
noncomputable abbrev chN (m : Mon) (p : Poly) : Poly := .add (-1) m p
noncomputable abbrev chO : Poly := .num 0
noncomputable abbrev chU : Mon := .unit
noncomputable def lev1 : List (Poly × List Poly) :=
  [((chN (chX 0 chU) chO), [])]
noncomputable def lev2 : List (Poly × List Poly) :=
  [((chN (chX 0 chU) (chN (chX 3 chU) chO)), [(chN (chX 3 chU) chO), (chP (chX 1 chU) chO), (chP (chX 2 chU) chO), (chN (chX 0 chU) chO)]),
  ((chN (chX 1 (chX 2 chU)) (chP (chX 0 (chX 3 chU)) chO)), [])]
noncomputable def lev3 : List (Poly × List Poly) :=
  [((chN (chX 0 chU) (chN (chX 4 chU) (chN (chX 8 chU) chO))), [(chN (chX 4 chU) (chN (chX 8 chU) chO)), (chP (chX 1 chU) chO), (chP (chX 2 chU) chO), (chP (chX 3 chU) chO), (chN (chX 0 chU) (chN (chX 8 chU) chO)), (chP (chX 5 chU) chO), (chP (chX 6 chU) chO), (chP (chX 7 chU) chO), (chN (chX 0 chU) (chN (chX 4 chU) chO))]),
  ((chN (chX 1 (chX 3 chU)) (chP (chX 0 (chX 4 chU)) (chN (chX 2 (chX 6 chU)) (chN (chX 5 (chX 7 chU)) (chP (chX 0 (chX 8 chU)) (chP (chX 4 (chX 8 chU)) chO)))))), [(chN (chX 5 (chX 7 chU)) (chP (chX 4 (chX 8 chU)) chO)), (chP (chX 2 (chX 7 chU)) (chN (chX 1 (chX 8 chU)) chO)), (chN (chX 2 (chX 4 chU)) (chP (chX 1 (chX 5 chU)) chO)), (chP (chX 5 (chX 6 chU)) (chN (chX 3 (chX 8 chU)) chO)), (chN (chX 2 (chX 6 chU)) (chP (chX 0 (chX 8 chU)) chO)), (chP (chX 2 (chX 3 chU)) (chN (chX 0 (chX 5 chU)) chO)), (chN (chX 4 (chX 6 chU)) (chP (chX 3 (chX 7 chU)) chO)), (chP (chX 1 (chX 6 chU)) (chN (chX 0 (chX 7 chU)) chO)), (chN (chX 1 (chX 3 chU)) (chP (chX 0 (chX 4 chU)) chO))]),
  ((chP (chX 2 (chX 4 (chX 6 chU))) (chN (chX 1 (chX 5 (chX 6 chU))) (chN (chX 2 (chX 3 (chX 7 chU))) (chP (chX 0 (chX 5 (chX 7 chU))) (chP (chX 1 (chX 3 (chX 8 chU))) (chN (chX 0 (chX 4 (chX 8 chU))) chO)))))), [])]
noncomputable def lev4 : List (Poly × List Poly) :=
  [((chN (chX 0 chU) (chN (chX 5 chU) (chN (chX 10 chU) (chN (chX 15 chU) chO)))), [(chN (chX 5 chU) (chN (chX 10 chU) (chN (chX 15 chU) chO))), (chP (chX 1 chU) chO), (chP (chX 2 chU) chO), (chP (chX 3 chU) chO), (chP (chX 4 chU) chO), (chN (chX 0 chU) (chN (chX 10 chU) (chN (chX 15 chU) chO))), (chP (chX 6 chU) chO), (chP (chX 7 chU) chO), (chP (chX 8 chU) chO), (chP (chX 9 chU) chO), (chN (chX 0 chU) (chN (chX 5 chU) (chN (chX 15 chU) chO))), (chP (chX 11 chU) chO), (chP (chX 12 chU) chO), (chP (chX 13 chU) chO), (chP (chX 14 chU) chO), (chN (chX 0 chU) (chN (chX 5 chU) (chN (chX 10 chU) chO)))]),
  ((chN (chX 1 (chX 4 chU)) (chP (chX 0 (chX 5 chU)) (chN (chX 2 (chX 8 chU)) (chN (chX 6 (chX 9 chU)) (chP (chX 0 (chX 10 chU)) (chP (chX 5 (chX 10 chU)) (chN (chX 3 (chX 12 chU)) (chN (chX 7 (chX 13 chU)) (chN (chX 11 (chX 14 chU)) (chP (chX 0 (chX 15 chU)) (chP (chX 5 (chX 15 chU)) (chP (chX 10 (chX 15 chU)) chO)))))))))))), [(chN (chX 6 (chX 9 chU)) (chP (chX 5 (chX 10 chU)) (chN (chX 7 (chX 13 chU)) (chN (chX 11 (chX 14 chU)) (chP (chX 5 (chX 15 chU)) (chP (chX 10 (chX 15 chU)) chO)))))), (chP (chX 2 (chX 9 chU)) (chN (chX 1 (chX 10 chU)) (chP (chX 3 (chX 13 chU)) (chN (chX 1 (chX 15 chU)) chO)))), (chN (chX 2 (chX 5 chU)) (chP (chX 1 (chX 6 chU)) (chP (chX 3 (chX 14 chU)) (chN (chX 2 (chX 15 chU)) chO)))), (chN (chX 3 (chX 5 chU)) (chP (chX 1 (chX 7 chU)) (chN (chX 3 (chX 10 chU)) (chP (chX 2 (chX 11 chU)) chO)))), (chP (chX 6 (chX 8 chU)) (chN (chX 4 (chX 10 chU)) (chP (chX 7 (chX 12 chU)) (chN (chX 4 (chX 15 chU)) chO)))), (chN (chX 2 (chX 8 chU)) (chP (chX 0 (chX 10 chU)) (chN (chX 3 (chX 12 chU)) (chN (chX 11 (chX 14 chU)) (chP (chX 0 (chX 15 chU)) (chP (chX 10 (chX 15 chU)) chO)))))), (chP (chX 2 (chX 4 chU)) (chN (chX 0 (chX 6 chU)) (chP (chX 7 (chX 14 chU)) (chN (chX 6 (chX 15 chU)) chO)))), (chP (chX 3 (chX 4 chU)) (chN (chX 0 (chX 7 chU)) (chN (chX 7 (chX 10 chU)) (chP (chX 6 (chX 11 chU)) chO)))), (chN (chX 5 (chX 8 chU)) (chP (chX 4 (chX 9 chU)) (chP (chX 11 (chX 12 chU)) (chN (chX 8 (chX 15 chU)) chO)))), (chP (chX 1 (chX 8 chU)) (chN (chX 0 (chX 9 chU)) (chP (chX 11 (chX 13 chU)) (chN (chX 9 (chX 15 chU)) chO)))), (chN (chX 1 (chX 4 chU)) (chP (chX 0 (chX 5 chU)) (chN (chX 3 (chX 12 chU)) (chN (chX 7 (chX 13 chU)) (chP (chX 0 (chX 15 chU)) (chP (chX 5 (chX 15 chU)) chO)))))), (chP (chX 3 (chX 8 chU)) (chP (chX 7 (chX 9 chU)) (chN (chX 0 (chX 11 chU)) (chN (chX 5 (chX 11 chU)) chO)))), (chN (chX 5 (chX 12 chU)) (chN (chX 10 (chX 12 chU)) (chP (chX 4 (chX 13 chU)) (chP (chX 8 (chX 14 chU)) chO)))), (chP (chX 1 (chX 12 chU)) (chN (chX 0 (chX 13 chU)) (chN (chX 10 (chX 13 chU)) (chP (chX 9 (chX 14 chU)) chO)))), (chP (chX 2 (chX 12 chU)) (chP (chX 6 (chX 13 chU)) (chN (chX 0 (chX 14 chU)) (chN (chX 5 (chX 14 chU)) chO)))), (chN (chX 1 (chX 4 chU)) (chP (chX 0 (chX 5 chU)) (chN (chX 2 (chX 8 chU)) (chN (chX 6 (chX 9 chU)) (chP (chX 0 (chX 10 chU)) (chP (chX 5 (chX 10 chU)) chO))))))]),
  ((chP (chX 2 (chX 5 (chX 8 chU))) (chN (chX 1 (chX 6 (chX 8 chU))) (chN (chX 2 (chX 4 (chX 9 chU))) (chP (chX 0 (chX 6 (chX 9 chU))) (chP (chX 1 (chX 4 (chX 10 chU))) (chN (chX 0 (chX 5 (chX 10 chU))) (chP (chX 3 (chX 5 (chX 12 chU))) (chN (chX 1 (chX 7 (chX 12 chU))) (chP (chX 3 (chX 10 (chX 12 chU))) (chN (chX 2 (chX 11 (chX 12 chU))) (chN (chX 3 (chX 4 (chX 13 chU))) (chP (chX 0 (chX 7 (chX 13 chU))) (chP (chX 7 (chX 10 (chX 13 chU))) (chN (chX 6 (chX 11 (chX 13 chU))) (chN (chX 3 (chX 8 (chX 14 chU))) (chN (chX 7 (chX 9 (chX 14 chU))) (chP (chX 0 (chX 11 (chX 14 chU))) (chP (chX 5 (chX 11 (chX 14 chU))) (chP (chX 1 (chX 4 (chX 15 chU))) (chN (chX 0 (chX 5 (chX 15 chU))) (chP (chX 2 (chX 8 (chX 15 chU))) (chP (chX 6 (chX 9 (chX 15 chU))) (chN (chX 0 (chX 10 (chX 15 chU))) (chN (chX 5 (chX 10 (chX 15 chU))) chO)))))))))))))))))))))))), [(chP (chX 7 (chX 10 (chX 13 chU))) (chN (chX 6 (chX 11 (chX 13 chU))) (chN (chX 7 (chX 9 (chX 14 chU))) (chP (chX 5 (chX 11 (chX 14 chU))) (chP (chX 6 (chX 9 (chX 15 chU))) (chN (chX 5 (chX 10 (chX 15 chU))) chO)))))), (chN (chX 3 (chX 10 (chX 13 chU))) (chP (chX 2 (chX 11 (chX 13 chU))) (chP (chX 3 (chX 9 (chX 14 chU))) (chN (chX 1 (chX 11 (chX 14 chU))) (chN (chX 2 (chX 9 (chX 15 chU))) (chP (chX 1 (chX 10 (chX 15 chU))) chO)))))), (chP (chX 3 (chX 6 (chX 13 chU))) (chN (chX 2 (chX 7 (chX 13 chU))) (chN (chX 3 (chX 5 (chX 14 chU))) (chP (chX 1 (chX 7 (chX 14 chU))) (chP (chX 2 (chX 5 (chX 15 chU))) (chN (chX 1 (chX 6 (chX 15 chU))) chO)))))), (chN (chX 3 (chX 6 (chX 9 chU))) (chP (chX 2 (chX 7 (chX 9 chU))) (chP (chX 3 (chX 5 (chX 10 chU))) (chN (chX 1 (chX 7 (chX 10 chU))) (chN (chX 2 (chX 5 (chX 11 chU))) (chP (chX 1 (chX 6 (chX 11 chU))) chO)))))), (chN (chX 7 (chX 10 (chX 12 chU))) (chP (chX 6 (chX 11 (chX 12 chU))) (chP (chX 7 (chX 8 (chX 14 chU))) (chN (chX 4 (chX 11 (chX 14 chU))) (chN (chX 6 (chX 8 (chX 15 chU))) (chP (chX 4 (chX 10 (chX 15 chU))) chO)))))), (chP (chX 3 (chX 10 (chX 12 chU))) (chN (chX 2 (chX 11 (chX 12 chU))) (chN (chX 3 (chX 8 (chX 14 chU))) (chP (chX 0 (chX 11 (chX 14 chU))) (chP (chX 2 (chX 8 (chX 15 chU))) (chN (chX 0 (chX 10 (chX 15 chU))) chO)))))), (chN (chX 3 (chX 6 (chX 12 chU))) (chP (chX 2 (chX 7 (chX 12 chU))) (chP (chX 3 (chX 4 (chX 14 chU))) (chN (chX 0 (chX 7 (chX 14 chU))) (chN (chX 2 (chX 4 (chX 15 chU))) (chP (chX 0 (chX 6 (chX 15 chU))) chO)))))), (chP (chX 3 (chX 6 (chX 8 chU))) (chN (chX 2 (chX 7 (chX 8 chU))) (chN (chX 3 (chX 4 (chX 10 chU))) (chP (chX 0 (chX 7 (chX 10 chU))) (chP (chX 2 (chX 4 (chX 11 chU))) (chN (chX 0 (chX 6 (chX 11 chU))) chO)))))), (chP (chX 7 (chX 9 (chX 12 chU))) (chN (chX 5 (chX 11 (chX 12 chU))) (chN (chX 7 (chX 8 (chX 13 chU))) (chP (chX 4 (chX 11 (chX 13 chU))) (chP (chX 5 (chX 8 (chX 15 chU))) (chN (chX 4 (chX 9 (chX 15 chU))) chO)))))), (chN (chX 3 (chX 9 (chX 12 chU))) (chP (chX 1 (chX 11 (chX 12 chU))) (chP (chX 3 (chX 8 (chX 13 chU))) (chN (chX 0 (chX 11 (chX 13 chU))) (chN (chX 1 (chX 8 (chX 15 chU))) (chP (chX 0 (chX 9 (chX 15 chU))) chO)))))), (chP (chX 3 (chX 5 (chX 12 chU))) (chN (chX 1 (chX 7 (chX 12 chU))) (chN (chX 3 (chX 4 (chX 13 chU))) (chP (chX 0 (chX 7 (chX 13 chU))) (chP (chX 1 (chX 4 (chX 15 chU))) (chN (chX 0 (chX 5 (chX 15 chU))) chO)))))), (chN (chX 3 (chX 5 (chX 8 chU))) (chP (chX 1 (chX 7 (chX 8 chU))) (chP (chX 3 (chX 4 (chX 9 chU))) (chN (chX 0 (chX 7 (chX 9 chU))) (chN (chX 1 (chX 4 (chX 11 chU))) (chP (chX 0 (chX 5 (chX 11 chU))) chO)))))), (chN (chX 6 (chX 9 (chX 12 chU))) (chP (chX 5 (chX 10 (chX 12 chU))) (chP (chX 6 (chX 8 (chX 13 chU))) (chN (chX 4 (chX 10 (chX 13 chU))) (chN (chX 5 (chX 8 (chX 14 chU))) (chP (chX 4 (chX 9 (chX 14 chU))) chO)))))), (chP (chX 2 (chX 9 (chX 12 chU))) (chN (chX 1 (chX 10 (chX 12 chU))) (chN (chX 2 (chX 8 (chX 13 chU))) (chP (chX 0 (chX 10 (chX 13 chU))) (chP (chX 1 (chX 8 (chX 14 chU))) (chN (chX 0 (chX 9 (chX 14 chU))) chO)))))), (chN (chX 2 (chX 5 (chX 12 chU))) (chP (chX 1 (chX 6 (chX 12 chU))) (chP (chX 2 (chX 4 (chX 13 chU))) (chN (chX 0 (chX 6 (chX 13 chU))) (chN (chX 1 (chX 4 (chX 14 chU))) (chP (chX 0 (chX 5 (chX 14 chU))) chO)))))), (chP (chX 2 (chX 5 (chX 8 chU))) (chN (chX 1 (chX 6 (chX 8 chU))) (chN (chX 2 (chX 4 (chX 9 chU))) (chP (chX 0 (chX 6 (chX 9 chU))) (chP (chX 1 (chX 4 (chX 10 chU))) (chN (chX 0 (chX 5 (chX 10 chU))) chO))))))]),
  ((chP (chX 3 (chX 6 (chX 9 (chX 12 chU)))) (chN (chX 2 (chX 7 (chX 9 (chX 12 chU)))) (chN (chX 3 (chX 5 (chX 10 (chX 12 chU)))) (chP (chX 1 (chX 7 (chX 10 (chX 12 chU)))) (chP (chX 2 (chX 5 (chX 11 (chX 12 chU)))) (chN (chX 1 (chX 6 (chX 11 (chX 12 chU)))) (chN (chX 3 (chX 6 (chX 8 (chX 13 chU)))) (chP (chX 2 (chX 7 (chX 8 (chX 13 chU)))) (chP (chX 3 (chX 4 (chX 10 (chX 13 chU)))) (chN (chX 0 (chX 7 (chX 10 (chX 13 chU)))) (chN (chX 2 (chX 4 (chX 11 (chX 13 chU)))) (chP (chX 0 (chX 6 (chX 11 (chX 13 chU)))) (chP (chX 3 (chX 5 (chX 8 (chX 14 chU)))) (chN (chX 1 (chX 7 (chX 8 (chX 14 chU)))) (chN (chX 3 (chX 4 (chX 9 (chX 14 chU)))) (chP (chX 0 (chX 7 (chX 9 (chX 14 chU)))) (chP (chX 1 (chX 4 (chX 11 (chX 14 chU)))) (chN (chX 0 (chX 5 (chX 11 (chX 14 chU)))) (chN (chX 2 (chX 5 (chX 8 (chX 15 chU)))) (chP (chX 1 (chX 6 (chX 8 (chX 15 chU)))) (chP (chX 2 (chX 4 (chX 9 (chX 15 chU)))) (chN (chX 0 (chX 6 (chX 9 (chX 15 chU)))) (chN (chX 1 (chX 4 (chX 10 (chX 15 chU)))) (chP (chX 0 (chX 5 (chX 10 (chX 15 chU)))) chO)))))))))))))))))))))))), [])]
noncomputable def lev0 (n : Nat) : List Poly := (List.range (n * n)).map fun q => .num (if q / n = q % n then 1 else 0)
theorem lev0_pm {i j : Nat} (hi : i < n) (hj : j < n) : pm (lev0 n) (n * i + j) = .num (if i = j then 1 else 0) := by
  have hn : 0 < n := Nat.lt_of_le_of_lt (Nat.zero_le _) hi
  have hq : n * i + j < n * n := Nat.lt_of_lt_of_le (Nat.add_lt_add_left hj _) (by rw [← Nat.mul_succ]; exact Nat.mul_le_mul_left _ hi)
  unfold pm lev0
  rw [List.getD_eq_getElem?_getD, List.getElem?_map, List.getElem?_range hq]
  show Poly.num (if (n * i + j) / n = (n * i + j) % n then 1 else 0) = _
  rw [Nat.mul_add_div hn, Nat.div_eq_of_lt hj, Nat.mul_add_mod, Nat.mod_eq_of_lt hj]; rfl
theorem ctx_of (n1 : 1 ≤ n) (a : Nat → Nat → Int) : ∃ ctx : Context Int, ∀ i b, i < n → b < n → ctx.get (n * i + b) = a i b := by
  refine ⟨Lean.RArray.ofFn (n := n * n) (fun q => a (q.val / n) (q.val % n)) (Nat.mul_pos n1 n1), fun i b hi hb => ?_⟩
  have hq : n * i + b < n * n := Nat.lt_of_lt_of_le (Nat.add_lt_add_left hb _) (by rw [← Nat.mul_succ]; exact Nat.mul_le_mul_left _ hi)
  refine (Lean.RArray.get_ofFn _ _ ⟨n * i + b, hq⟩).trans ?_
  show a ((n * i + b) / n) ((n * i + b) % n) = a i b
  rw [Nat.mul_add_div n1, Nat.div_eq_of_lt hb, Nat.mul_add_mod, Nat.mod_eq_of_lt hb]; rfl
theorem lev_ok : chain 1 0 (lev0 1) lev1 = true ∧ chain 2 0 (lev0 2) lev2 = true ∧ chain 3 0 (lev0 3) lev3 = true ∧ chain 4 0 (lev0 4) lev4 = true := ⟨by decide +kernel, by decide +kernel, by decide +kernel, by decide +kernel⟩
theorem ch_fl (n1 : 1 ≤ n) (n4 : n ≤ 4) {M : Nat → Nat → Nat → Int} {c : Nat → Int} (h0 : ∀ i j, i < n → j < n → M 0 i j = if i = j then 1 else 0)
    (hs : ∀ k i j, i < n → j < n → M (k + 1) i j = if i = j then sumR n (fun b => a i b * M k b j) + c (k + 1) else sumR n (fun b => a i b * M k b j))
    (hc : ∀ k, c (k + 1) = Int.fdiv (-(sumR n fun i => sumR n fun b => a i b * M k b i)) (1 + k)) : ∀ i j, i < n → j < n → M n i j = 0 := by
  obtain ⟨ctx, hx⟩ := ctx_of n1 a
  have h0' : ∀ i j, i < n → j < n → M 0 i j = (pm (lev0 n) (n * i + j)).denote ctx := fun i j hi hj => by
    rw [h0 i j hi hj, lev0_pm hi hj]; rfl
  have hn : n = 1 ∨ n = 2 ∨ n = 3 ∨ n = 4 := by lia
  obtain ⟨k1, k2, k3, k4⟩ := lev_ok
  rcases hn with rfl | rfl | rfl | rfl
  · exact ch_go hx hs hc lev1 0 _ h0' k1
  · exact ch_go hx hs hc lev2 0 _ h0' k2
  · exact ch_go hx hs hc lev3 0 _ h0' k3
  · exact ch_go hx hs hc lev4 0 _ h0' k4
end
end Mine
end
section
namespace Mine
section
variable {n m : Nat} {R T : List (List Int)}
/-- the polynomial's loop, step by step -/
noncomputable def stK (n : Nat) (A : List (List Int)) (k : Nat) : List (List Int) × List Int := (List.range k).foldl (polyS n A) (idM n, [1])
theorem stK_succ (n : Nat) (A : List (List Int)) (k : Nat) : stK n A (k + 1) = polyS n A (stK n A k) k := by
  unfold stK; rw [List.range_succ, List.foldl_append]; rfl
noncomputable def cK (n : Nat) (A : List (List Int)) : Nat → Int
  | 0 => 1
  | k + 1 => Int.fdiv (-(trF n (timesP n A (stK n A k).1))) (1 + k)
theorem stK_found (n : Nat) (A : List (List Int)) : ∀ k, (stK n A k).2 = (List.range (k + 1)).map (cK n A)
  | 0 => rfl
  | k + 1 => by
    rw [stK_succ, List.range_succ, List.map_append, ← stK_found n A k]; rfl
theorem idM_ent (i j : Nat) (hi : i < n) (hj : j < n) : entP (idM n) i j = if i = j then 1 else 0 := by
  unfold entP idM
  simp [hi, hj]
  by_cases h : i = j
  · rw [if_pos h, if_pos (by lia)]
  · rw [if_neg h, if_neg (by lia)]
theorem stK_ent (n : Nat) (A : List (List Int)) (k i j : Nat) (hi : i < n) (hj : j < n) : entP (stK n A (k + 1)).1 i j =
    if i = j then sumR n (fun b => entP A i b * entP (stK n A k).1 b j) + cK n A (k + 1) else sumR n (fun b => entP A i b * entP (stK n A k).1 b j) := by
  rw [stK_succ, polyS_ent k i j hi, timesP_ent hi hj]; rfl
theorem cK_eq (n : Nat) (A : List (List Int)) (k : Nat) : cK n A (k + 1) = Int.fdiv (-(sumR n fun i => sumR n fun b => entP A i b * entP (stK n A k).1 b i)) (1 + k) := by
  show Int.fdiv (-(trF n _)) _ = _
  have : trF n (timesP n A (stK n A k).1) = sumR n fun i => sumR n fun b => entP A i b * entP (stK n A k).1 b i := by
    unfold trF
    exact sumR_congr fun i hi => timesP_ent hi hi
  rw [this]
theorem ch_all (A : List (List Int)) (n1 : 1 ≤ n) (n4 : n ≤ 4) : ∀ i j, i < n → j < n → entP (stK n A n).1 i j = 0 := by
  have h0 : ∀ i j, i < n → j < n → entP (stK n A 0).1 i j = if i = j then 1 else 0 := fun i j hi hj => idM_ent i j hi hj
  have hs := stK_ent n A
  have hc := cK_eq n A
  exact ch_fl n1 n4 (M := fun k => entP (stK n A k).1) h0 hs hc
noncomputable abbrev vW (n : Nat) (R : List (List Int)) (l i : Nat) : Int := (countsF n R l).getD i 0
noncomputable abbrev tW (T : List (List Int)) (i : Nat) : Int := if !(T.getD i []).isEmpty then 1 else 0
theorem countW_vt (l : Nat) : countW n R T l = sumR n fun i => vW n R l i * tW T i := by
  rw [countW_sum]
  refine sumR_congr fun i _ => ?_
  show (if _ then vW n R l i else 0) = vW n R l i * (if _ then 1 else 0)
  split
  · rw [Int.mul_one]
  · rw [Int.mul_zero]
theorem vW_succ (H : Aut n m R T) (l j : Nat) (hj : j < n) : vW n R (l + 1) j = sumR n fun i => vW n R l i * entP (tableF n R) i j := by
  show (stepW n R (countsF n R l)).getD j 0 = _
  rw [stepW_get H.ent' hj]
  exact sumR_congr fun i hi => by rw [tableF_ent H hi hj]
noncomputable def fK (n : Nat) (R T : List (List Int)) (k l : Nat) : Int := sumR n fun i => sumR n fun j => vW n R l i * (entP (stK n (tableF n R) k).1 i j * tW T j)
theorem fK_zero (l : Nat) : fK n R T 0 l = countW n R T l := by
  rw [countW_vt]
  refine sumR_congr fun i hi => ?_
  have : ∀ j < n, vW n R l i * (entP (stK n (tableF n R) 0).1 i j * tW T j) = if j = i then vW n R l i * tW T j else 0 := fun j hj => by
    rw [show (stK n (tableF n R) 0).1 = idM n from rfl, idM_ent i j hi hj]
    by_cases h : i = j
    · rw [if_pos h, if_pos h.symm, Int.one_mul]
    · rw [if_neg h, if_neg (fun q => h q.symm)]; simp
  rw [sumR_congr this, sumR_pick _ hi]
theorem fK_succ (H : Aut n m R T) (k l : Nat) : fK n R T (k + 1) l = fK n R T k (l + 1) + cK n (tableF n R) (k + 1) * countW n R T l := by
  have e1 : ∀ i < n, (sumR n fun j => vW n R l i * (entP (stK n (tableF n R) (k + 1)).1 i j * tW T j)) =
      (sumR n fun j => sumR n fun b => vW n R l i * entP (tableF n R) i b * (entP (stK n (tableF n R) k).1 b j * tW T j)) + cK n (tableF n R) (k + 1) * (vW n R l i * tW T i) := fun i hi => by
    have : ∀ j < n, vW n R l i * (entP (stK n (tableF n R) (k + 1)).1 i j * tW T j) = (sumR n fun b => vW n R l i * entP (tableF n R) i b * (entP (stK n (tableF n R) k).1 b j * tW T j)) + if j = i then cK n (tableF n R) (k + 1) * (vW n R l i * tW T j) else 0 := fun j hj => by
      have e2 : (sumR n fun b => vW n R l i * entP (tableF n R) i b * (entP (stK n (tableF n R) k).1 b j * tW T j)) = vW n R l i * ((sumR n fun b => entP (tableF n R) i b * entP (stK n (tableF n R) k).1 b j) * tW T j) := by
        rw [← sumR_mul', ← sumR_mul]
        exact sumR_congr fun b _ => by grind
      rw [e2, stK_ent n _ k i j hi hj]
      by_cases h : i = j
      · rw [if_pos h, if_pos h.symm]; grind
      · rw [if_neg h, if_neg (fun q => h q.symm)]; lia
    rw [sumR_congr this, sumR_add, sumR_pick _ hi]
  unfold fK
  rw [sumR_congr e1, sumR_add, sumR_mul, ← countW_vt]
  congr 1
  -- the sums are turned
  have e3 : ∀ b < n, (sumR n fun j => vW n R (l + 1) b * (entP (stK n (tableF n R) k).1 b j * tW T j)) = sumR n fun i => sumR n fun j => vW n R l i * entP (tableF n R) i b * (entP (stK n (tableF n R) k).1 b j * tW T j) := fun b hb => by
    rw [sumR_comm]
    refine sumR_congr fun j hj => ?_
    rw [vW_succ H l b hb, ← sumR_mul']
  rw [sumR_congr e3]
  refine Eq.trans ?_ (sumR_comm n n fun i b => sumR n fun j => vW n R l i * entP (tableF n R) i b * (entP (stK n (tableF n R) k).1 b j * tW T j))
  exact sumR_congr fun i hi => sumR_comm _ _ _
theorem fK_sum (H : Aut n m R T) : ∀ k l, fK n R T k l = sumR (k + 1) fun a => cK n (tableF n R) a * countW n R T (l + k - a)
  | 0, l => by
    rw [fK_zero, sumR_succ]
    simp [sumR, cK]
  | k + 1, l => by
    rw [fK_succ H, fK_sum H k (l + 1), sumR_succ (k + 1)]
    congr 1
    · exact sumR_congr fun a ha => by rw [show l + 1 + k - a = l + (k + 1) - a by lia]
    · rw [show l + (k + 1) - (k + 1) = l by lia]
/-- the recurrence -/
theorem recur (H : Aut n m R T) (n4 : n ≤ 4) (l : Nat) : (sumR (n + 1) fun a => cK n (tableF n R) a * countW n R T (l + n - a)) = 0 := by
  rw [← fK_sum H n l]
  unfold fK
  rw [sumR_congr (g := fun _ => 0), sumR_zero]
  intro i hi
  rw [sumR_congr (g := fun _ => 0), sumR_zero]
  intro j hj
  rw [ch_all _ H.n1 n4 i j hi hj]; simp
theorem polyF_eq (A : List (List Int)) : polyF n A = (List.range (n + 1)).map (cK n A) := stK_found n A n
theorem good_rec (H : Aut n m R T) (n4 : n ≤ 4) (l : Nat) : ((List.range (n + 1)).map fun a => (polyF n (tableF n R)).getD a 0 * countW n R T (l + n - a)).sum = 0 := by
  rw [← recur H n4 l]
  refine sumR_congr fun a ha => ?_
  rw [polyF_eq]
  simp [ha]
/-- n noughts in a row are followed by noughts alone -/
theorem noughts (H : Aut n m R T) (n4 : n ≤ 4) {k : Nat} (h : ∀ i < n, countW n R T (k + i) = 0) : ∀ i, countW n R T (k + i) = 0 := by
  intro i
  induction i using Nat.strongRecOn with
  | ind i ih =>
    by_cases hi : i < n
    · exact h i hi
    · have := recur (T := T) H n4 (k + i - n)
      have e : (fun a => cK n (tableF n R) a * countW n R T (k + i - n + n - a)) = fun a => cK n (tableF n R) a * countW n R T (k + i - a) := by
        funext a; rw [show k + i - n + n = k + i by lia]
      rw [e] at this
      have e2 : ∀ a < n + 1, cK n (tableF n R) a * countW n R T (k + i - a) = if a = 0 then countW n R T (k + i) else 0 := fun a ha => by
        by_cases ha0 : a = 0
        · subst ha0; rw [if_pos rfl]; show 1 * _ = _; rw [Int.one_mul]; rfl
        · rw [if_neg ha0, show k + i - a = k + (i - a) by lia, ih (i - a) (by lia), Int.mul_zero]
      rw [sumR_congr e2, sumR_pick (fun _ => countW n R T (k + i)) (by lia)] at this
      exact this
end
end Mine
end
section
namespace Mine
section
variable {n m : Nat} {R T : List (List Int)}
theorem filter_two {α : Type} (p q : α → Bool) : ∀ l : List α, (∀ s ∈ l, q s = !p s) → (l.filter p).length + (l.filter q).length = l.length
  | [], _ => rfl
  | s :: l, h => by
    have ih := filter_two p q l fun x hx => h x (.tail _ hx)
    have hs := h s (.head _)
    rw [List.filter_cons, List.filter_cons, hs]
    cases p s <;> simp <;> lia
theorem triedS_full {R' : List (List Int)} {n' m : Nat} (h1 : ∀ i < n', (R'.getD i []).length = m ∧ ∀ g ∈ R'.getD i [], 0 ≤ g) : ∀ st : List Int, (∀ s ∈ st, 0 ≤ s ∧ s < n') → (triedS R' st).length = m * st.length
  | [], _ => rfl
  | s :: st, h => by
    have ih := triedS_full h1 st fun x hx => h x (.tail _ hx)
    have hs := h s (.head _)
    obtain ⟨a, b⟩ := h1 s.toNat (by lia)
    unfold triedS at ih ⊢
    rw [List.flatMap_cons, List.length_append, ih, List.filter_eq_self.mpr (fun g hg => by simpa using b g hg), a, List.length_cons, Nat.mul_succ]
    lia
theorem compR_get (H : Aut n m R T) : (∀ i < n, (compR n m R).getD i [] = (R.getD i []).map (fillG n)) ∧ ((compR n m R).length = n + 1 → (compR n m R).getD n [] = List.replicate m (n : Int)) := by
  have hR := H.hR
  have hf : (fillR n R).length = n := by rw [fillR_len, hR]
  have e : ∀ i < n, (fillR n R).getD i [] = (R.getD i []).map (fillG n) := fun i hi => by
    obtain ⟨r, e1, e2, _⟩ := H.rowAt hi
    rw [e2, fillR, List.getD_eq_getElem?_getD, List.getElem?_map, e1]; rfl
  unfold compR
  split
  · refine ⟨fun i hi => ?_, fun _ => ?_⟩
    · rw [List.getD_eq_getElem?_getD, List.getElem?_append_left (by lia), ← List.getD_eq_getElem?_getD]; exact e i hi
    · rw [List.getD_eq_getElem?_getD, List.getElem?_append_right (by lia), hf]; simp
  · exact ⟨e, fun q => by lia⟩
theorem fill_filter (n : Nat) : ∀ r : List Int, (∀ g ∈ r, -1 ≤ g ∧ g < n) → ((r.map (fillG n)).filter (fun g => decide (0 ≤ g))).filter (fun g => g != (n : Int)) = r.filter fun g => decide (0 ≤ g)
  | [], _ => rfl
  | g :: r, h => by
    have ih := fill_filter n r fun x hx => h x (.tail _ hx)
    have hg := h g (.head _)
    rw [List.map_cons]
    by_cases e : g = -1
    · subst e
      have e1 : fillG n (-1) = n := rfl
      rw [e1, List.filter_cons, if_pos (by simp), List.filter_cons, if_neg (by simp), List.filter_cons, if_neg (by simp)]
      exact ih
    · have e1 : fillG n g = g := if_neg e
      have h0 : 0 ≤ g := by lia
      have hn : g ≠ n := by lia
      rw [e1, List.filter_cons, if_pos (by simpa using h0), List.filter_cons, if_pos (by simpa using hn), List.filter_cons, if_pos (by simpa using h0), ih]
theorem comp_step (H : Aut n m R T) : ∀ st : List Int, (∀ s ∈ st, 0 ≤ s ∧ s < (compR n m R).length) → (compR n m R).length ≤ n + 1 → (triedS (compR n m R) st).filter (fun g => g != (n : Int)) = triedS R (st.filter fun g => g != (n : Int))
  | [], _, _ => rfl
  | s :: st, h, hl => by
    have ih := comp_step H st (fun x hx => h x (.tail _ hx)) hl
    have hs := h s (.head _)
    obtain ⟨c1, c2⟩ := compR_get H
    have e : triedS (compR n m R) (s :: st) = ((compR n m R).getD s.toNat []).filter (fun g => decide (0 ≤ g)) ++ triedS (compR n m R) st := by unfold triedS; rw [List.flatMap_cons]
    rw [e, List.filter_append, ih, List.filter_cons]
    by_cases hn : s = n
    · rw [if_neg (by simpa using hn)]
      have e2 : (compR n m R).getD s.toNat [] = List.replicate m (n : Int) := by rw [show s.toNat = n by lia]; exact c2 (by lia)
      rw [e2]
      have : ((List.replicate m (n : Int)).filter (fun g => decide (0 ≤ g))).filter (fun g => g != (n : Int)) = [] := by
        rw [List.filter_eq_nil_iff]
        intro g hg
        have := (List.mem_replicate.mp (List.mem_filter.mp hg).1).2
        simpa using this
      rw [this]; rfl
    · rw [if_pos (by simpa using hn), c1 s.toNat (by lia), fill_filter n _ (H.ent' s.toNat (by lia))]
      unfold triedS
      rw [List.flatMap_cons]
theorem good_compl (H : Aut n m R T) (n4 : n ≤ 4) (l : Nat) : countW n R T l + countW (compR n m R).length (compR n m R) (flipT (compT n R T)) l = (m : Int) ^ l := by
  obtain ⟨H', hl⟩ := comp_aut H n4
  have n1 := H.n1
  obtain ⟨c1, c2⟩ := compR_get H
  have rng := tried_rng H'
  have full : ∀ l, (triedL (compR n m R) l).length = m ^ l := by
    intro l
    induction l with
    | zero => rfl
    | succ l ih =>
      show (triedS _ _).length = _
      rw [triedS_full (n' := (compR n m R).length) (m := m) (fun i hi => ?_) _ (rng l), ih, Nat.pow_succ, Nat.mul_comm]
      obtain ⟨r, e1, e2, e3, e4⟩ := H'.rowAt hi
      refine ⟨by rw [e2]; exact e3, fun g hg => ?_⟩
      by_cases hin : i < n
      · rw [c1 i hin] at hg
        obtain ⟨x, hx, rfl⟩ := List.mem_map.mp hg
        have := H.ent' i hin x hx
        unfold fillG; split <;> lia
      · have hi' : i = n := by lia
        subst hi'
        rw [c2 (by lia)] at hg
        have := (List.mem_replicate.mp hg).2
        lia
  have part : ∀ l, triedL R l = (triedL (compR n m R) l).filter fun g => g != (n : Int) := by
    intro l
    induction l with
    | zero =>
      show [0] = [0].filter _
      rw [List.filter_cons, if_pos (by simp; lia)]; rfl
    | succ l ih =>
      show triedS R (triedL R l) = (triedS _ _).filter _
      rw [comp_step H _ (rng l) hl, ih]
  rw [count_tried H, count_tried H']
  have key := filter_two (fun s : Int => !decide (T.getD s.toNat [] = []) && s != (n : Int)) (fun s : Int => !decide ((flipT (compT n R T)).getD s.toNat [] = [])) (triedL (compR n m R) l) fun s hs => ?_
  · unfold triedF
    rw [part l, List.filter_filter]
    rw [full l] at key
    have : ((m ^ l : Nat) : Int) = (m : Int) ^ l := by simp
    rw [← this, ← key]
    lia
  · have hs' := rng l s hs
    have hT := H.hT
    have hc : ∀ i < (compR n m R).length, ∃ t, (flipT (compT n R T)).getD i [] = (if t.isEmpty then [0] else []) ∧ t = (compT n R T).getD i [] := fun i hi => by
      have hl' : i < (compT n R T).length := by have := H'.hT; rw [flipT, List.length_map] at this; lia
      refine ⟨(compT n R T)[i], ?_, ?_⟩
      · unfold flipT
        rw [List.getD_eq_getElem?_getD, List.getElem?_map, List.getElem?_eq_getElem hl']; rfl
      · rw [List.getD_eq_getElem?_getD, List.getElem?_eq_getElem hl']; rfl
    obtain ⟨t, e1, e2⟩ := hc s.toNat (by lia)
    rw [e1]
    by_cases hn : s = n
    · have : t = [] := by
        rw [e2, show s.toNat = n by lia]
        unfold compT
        split
        · rw [List.getD_eq_getElem?_getD, List.getElem?_append_right (by lia), hT]; simp
        · rw [List.getD_eq_getElem?_getD, List.getElem?_eq_none (by lia)]; rfl
      subst this
      have h1 : (s != (n : Int)) = false := by simpa using hn
      rw [h1]; simp
    · have : t = T.getD s.toNat [] := by
        rw [e2]
        unfold compT
        split
        · rw [List.getD_eq_getElem?_getD, List.getElem?_append_left (by lia), ← List.getD_eq_getElem?_getD]
        · rfl
      have h1 : (s != (n : Int)) = true := by simpa using hn
      rw [h1, ← this]
      cases t <;> simp
end
end Mine
end
section
namespace Mine
noncomputable def Ed (R : List (List Int)) (u v : Int) : Prop := v ∈ R.getD u.toNat [] ∧ 0 ≤ v
inductive Pth (R : List (List Int)) : Nat → Int → Int → Prop
  | nil (u : Int) : Pth R 0 u u
  | snoc {l : Nat} {u v w : Int} : Pth R l u v → Ed R v w → Pth R (l + 1) u w
theorem Pth.trans {R : List (List Int)} {u v : Int} {k : Nat} (p : Pth R k u v) {l : Nat} {w : Int} (q : Pth R l v w) : Pth R (k + l) u w := by
  induction q with
  | nil => exact p
  | snoc q e ih => exact .snoc (ih p) e
theorem Pth.cons {R : List (List Int)} {u v : Int} (e : Ed R u v) {l : Nat} {w : Int} (p : Pth R l v w) : Pth R (l + 1) u w := Nat.add_comm 1 l ▸ (Pth.snoc (.nil u) e).trans p
theorem Pth.unsnoc {R : List (List Int)} {u w : Int} {l : Nat} (h : Pth R (l + 1) u w) : ∃ v, Pth R l u v ∧ Ed R v w := by cases h; exact ⟨_, ‹_›, ‹_›⟩
theorem Pth.uncons {R : List (List Int)} {u : Int} (l : Nat) : ∀ {w : Int}, Pth R (l + 1) u w → ∃ v, Ed R u v ∧ Pth R l v w := by
  induction l with
  | zero => intro w h; obtain ⟨x, p, e⟩ := h.unsnoc; cases p; exact ⟨w, e, .nil w⟩
  | succ l ih =>
    intro w h
    obtain ⟨x, p, e⟩ := h.unsnoc
    obtain ⟨v, e', q⟩ := ih p
    exact ⟨v, e', .snoc q e⟩
section
variable {n m : Nat} {R T : List (List Int)}
theorem tried_mem (R : List (List Int)) : ∀ l s, s ∈ triedL R l ↔ Pth R l 0 s
  | 0, s => ⟨fun h => by rw [List.mem_singleton.mp h]; exact .nil 0, fun h => by cases h; exact .head _⟩
  | l + 1, s => by
    show s ∈ triedS R (triedL R l) ↔ _
    unfold triedS
    rw [List.mem_flatMap]
    constructor
    · rintro ⟨q, hq, hs⟩
      obtain ⟨a, b⟩ := List.mem_filter.mp hs
      exact .snoc ((tried_mem R l q).mp hq) ⟨a, of_decide_eq_true b⟩
    · intro h
      cases h with
      | @snoc _ _ v _ p e => exact ⟨v, (tried_mem R l v).mpr p, List.mem_filter.mpr ⟨e.1, decide_eq_true e.2⟩⟩
theorem Ed.rng (H : Aut n m R T) {u v : Int} (e : Ed R u v) : 0 ≤ v ∧ v < n := by
  refine ⟨e.2, ?_⟩
  have := e.1
  rw [List.getD_eq_getElem?_getD] at this
  cases q : R[u.toNat]? with
  | none => rw [q] at this; simp at this
  | some r => rw [q] at this; exact (H.ent r (List.mem_of_getElem? q) v this).2
theorem links_mem (H : Aut n m R T) (u v : Int) : v ∈ (linksF R).getD u.toNat [] ↔ Ed R u v := by
  unfold linksF Ed
  rw [List.getD_eq_getElem?_getD, List.getD_eq_getElem?_getD, List.getElem?_map]
  cases q : R[u.toNat]? with
  | none => simp
  | some r =>
    show v ∈ r.filter _ ↔ v ∈ r ∧ _
    rw [List.mem_filter]
    constructor
    · rintro ⟨a, b⟩
      have := H.ent r (List.mem_of_getElem? q) v a
      have b : v ≠ -1 := by simpa using b
      exact ⟨a, by lia⟩
    · rintro ⟨a, b⟩
      refine ⟨a, ?_⟩
      have : v ≠ -1 := by lia
      simpa using this
theorem reach_pth (H : Aut n m R T) (v : Int) : Reach (linksF R) [0] v ↔ ∃ l, Pth R l 0 v := by
  constructor
  · intro h
    induction h with
    | seed h => rw [List.mem_singleton.mp h]; exact ⟨0, .nil 0⟩
    | step _ h ih => obtain ⟨l, p⟩ := ih; exact ⟨l + 1, .snoc p ((links_mem H _ _).mp h)⟩
  · rintro ⟨l, p⟩
    induction l generalizing v with
    | zero => cases p; exact .seed (.head _)
    | succ l ih =>
      cases p with
      | snoc p e => exact .step (ih _ p) ((links_mem H _ _).mpr e)
theorem backS_mem {p : Int} {n : Nat} {bk : List (List Int)} (hl : bk.length = n) {g : Int} (hg : 0 ≤ g ∧ g < n) (j : Nat) (x : Int) : x ∈ (backS p bk g).getD j [] ↔ x ∈ bk.getD j [] ∨ (x = p ∧ g = (j : Int)) := by
  unfold backS
  rw [getD_set2]
  by_cases h : g.toNat = j
  · rw [if_pos ⟨h, by lia⟩, List.mem_append, List.mem_singleton, h]
    constructor
    · rintro (a | a)
      · exact .inl a
      · exact .inr ⟨a, by lia⟩
    · rintro (a | a)
      · exact .inl a
      · exact .inr a.1
  · rw [if_neg (fun q => h q.1)]
    constructor
    · exact .inl
    · rintro (a | a)
      · exact a
      · exact absurd a.2 (by lia)
theorem backs_mem {p : Int} {n : Nat} : ∀ (gs : List Int) {bk : List (List Int)}, bk.length = n → (∀ g ∈ gs, 0 ≤ g ∧ g < n) → ∀ (j : Nat) (x : Int), x ∈ (gs.foldl (backS p) bk).getD j [] ↔ x ∈ bk.getD j [] ∨ (x = p ∧ (j : Int) ∈ gs)
  | [], bk, _, _, j, x => by simp
  | g :: gs, bk, hl, hg, j, x => by
    rw [List.foldl_cons, backs_mem gs (by rw [backS_len]; exact hl) (fun y hy => hg y (.tail _ hy)) j x, backS_mem hl (hg g (.head _))]
    constructor
    · rintro ((a | a) | a)
      · exact .inl a
      · exact .inr ⟨a.1, by rw [← a.2]; exact .head _⟩
      · exact .inr ⟨a.1, .tail _ a.2⟩
    · rintro (a | ⟨a, b⟩)
      · exact .inl (.inl a)
      · rcases List.mem_cons.mp b with b | b
        · exact .inl (.inr ⟨a, b.symm⟩)
        · exact .inr ⟨a, b⟩
theorem backPs_mem {L : List (List Int)} {n : Nat} (hL : ∀ p < n, ∀ g ∈ L.getD p [], 0 ≤ g ∧ g < n) : ∀ (ps : List Nat) {bk : List (List Int)}, (∀ p ∈ ps, p < n) → bk.length = n → ∀ (j : Nat) (x : Int), x ∈ (ps.foldl (backP L) bk).getD j [] ↔ x ∈ bk.getD j [] ∨ ∃ p ∈ ps, x = (p : Int) ∧ (j : Int) ∈ L.getD p []
  | [], bk, _, _, j, x => by simp
  | p :: ps, bk, hp, hl, j, x => by
    rw [List.foldl_cons, backPs_mem hL ps (fun q hq => hp q (.tail _ hq)) (by rw [backP, backs_len]; exact hl) j x]
    unfold backP
    rw [backs_mem (L.getD p []) hl (hL p (hp p (.head _))) j x]
    constructor
    · rintro ((a | a) | ⟨q, hq, a⟩)
      · exact .inl a
      · exact .inr ⟨p, .head _, a⟩
      · exact .inr ⟨q, .tail _ hq, a⟩
    · rintro (a | ⟨q, hq, a⟩)
      · exact .inl (.inl a)
      · rcases List.mem_cons.mp hq with rfl | hq
        · exact .inl (.inr a)
        · exact .inr ⟨q, hq, a⟩
theorem turned_mem (H : Aut n m R T) (x y : Int) (hx : 0 ≤ x ∧ x < n) : y ∈ (turnedF (linksF R)).getD x.toNat [] ↔ (0 ≤ y ∧ y < n) ∧ Ed R y x := by
  have hl := H.ways.len
  unfold turnedF
  rw [hl, backPs_mem (n := n) (fun p hp g hg => ?_) (List.range n) (fun p hp => List.mem_range.mp hp) (by simp) x.toNat y]
  · constructor
    · rintro (a | ⟨p, hp, rfl, a⟩)
      · rw [List.getD_eq_getElem?_getD, List.getElem?_replicate] at a
        split at a <;> simp at a
      · have hp := List.mem_range.mp hp
        rw [show ((x.toNat : Nat) : Int) = x by lia] at a
        exact ⟨⟨by lia, by lia⟩, (links_mem H (p : Int) x).mp (by simpa using a)⟩
    · rintro ⟨hy, e⟩
      refine .inr ⟨y.toNat, List.mem_range.mpr (by lia), by lia, ?_⟩
      rw [show ((x.toNat : Nat) : Int) = x by lia]
      exact (links_mem H y x).mpr e
  · have := (links_mem H (p : Int) g).mp (by simpa using hg)
    exact this.rng H
theorem alive_pth (H : Aut n m R T) (v : Int) (hv : 0 ≤ v ∧ v < n) : Reach (turnedF (linksF R)) ((tagged n T).map fun i : Nat => (i : Int)) v ↔ ∃ l s, Pth R l v s ∧ (0 ≤ s ∧ s < n) ∧ T.getD s.toNat [] ≠ [] := by
  constructor
  · intro h
    have key : ∀ v, Reach (turnedF (linksF R)) ((tagged n T).map fun i : Nat => (i : Int)) v → (0 ≤ v ∧ v < n) ∧ ∃ l s, Pth R l v s ∧ (0 ≤ s ∧ s < n) ∧ T.getD s.toNat [] ≠ [] := by
      intro v h
      induction h with
      | @seed x h =>
        obtain ⟨i, hi, rfl⟩ := List.mem_map.mp h
        obtain ⟨a, b⟩ := List.mem_filter.mp hi
        have a := List.mem_range.mp a
        refine ⟨⟨by lia, by lia⟩, 0, i, .nil _, ⟨by lia, by lia⟩, ?_⟩
        rw [Int.toNat_natCast]
        intro q; rw [q] at b; simp at b
      | @step x y _ h ih =>
        obtain ⟨hx, l, s, p, hs⟩ := ih
        obtain ⟨hy, e⟩ := (turned_mem H x y hx).mp h
        exact ⟨hy, l + 1, s, .cons e p, hs⟩
    exact (key v h).2
  · rintro ⟨l, s, p, hs, ht⟩
    induction l generalizing v with
    | zero =>
      cases p
      refine .seed (List.mem_map.mpr ⟨s.toNat, List.mem_filter.mpr ⟨List.mem_range.mpr (by lia), ?_⟩, by lia⟩)
      cases q : T.getD s.toNat [] with
      | nil => exact absurd q ht
      | cons _ _ => rfl
    | succ l ih =>
      obtain ⟨u, e, p⟩ := Pth.uncons _ p
      have hu := e.rng H
      exact .step (ih u hu p) ((turned_mem H u v hu).mpr ⟨hv, e⟩)
theorem alive_get (H : Aut n m R T) {v : Nat} (hv : v < n) : (aliveF n R T).getD v false = true ↔ ∃ l s, Pth R l v s ∧ (0 ≤ s ∧ s < n) ∧ T.getD s.toNat [] ≠ [] := by
  rw [← alive_pth H v ⟨by lia, by lia⟩]
  unfold aliveF spreadF
  rw [H.back.len, List.getD_eq_getElem?_getD, List.getElem?_map, List.getElem?_range hv]
  simp
theorem reach_get (H : Aut n m R T) {v : Nat} (hv : v < n) : (spreadF (linksF R) [0]).getD v false = true ↔ ∃ l, Pth R l 0 v := by
  rw [← reach_pth H v]
  unfold spreadF
  rw [H.ways.len, List.getD_eq_getElem?_getD, List.getElem?_map, List.getElem?_range hv]
  simp
theorem Pth.rng (H : Aut n m R T) {l : Nat} {s : Int} (p : Pth R l 0 s) : 0 ≤ s ∧ s < n := tried_rng H l s ((tried_mem R l s).mpr p)
theorem countW_pth (H : Aut n m R T) (l : Nat) : countW n R T l = 0 ↔ ∀ s, Pth R l 0 s → T.getD s.toNat [] = [] := by
  rw [countW_zero H]
  exact ⟨fun h s p => h s ((tried_mem R l s).mpr p), fun h s p => h s ((tried_mem R l s).mp p)⟩
theorem sum_zero_iff (H : Aut n m R T) (k j : Nat) : ((List.range j).map fun i => countW n R T (k + i)).sum = 0 ↔ ∀ i < j, countW n R T (k + i) = 0 :=
  sumR_eq_zero fun i _ => countW_nonneg H _
theorem good_nothing (H : Aut n m R T) (n4 : n ≤ 4) : (!(aliveF n R T).getD 0 false) = (((List.range n).map (countW n R T)).sum == 0) := by
  have e : ((List.range n).map (countW n R T)).sum = ((List.range n).map fun i => countW n R T (0 + i)).sum := by simp
  rw [e, Bool.eq_iff_iff, beq_iff_eq, sum_zero_iff H]
  have ha := alive_get H (v := 0) H.n1
  constructor
  · intro h i _
    rw [countW_pth H]
    intro s p
    cases q : T.getD s.toNat [] with
    | nil => rfl
    | cons a b =>
      have := ha.mpr ⟨_, s, by simpa using p, p.rng H, by rw [q]; simp⟩
      rw [this] at h; cases h
  · intro h
    have all := noughts H n4 (k := 0) h
    cases hc : (aliveF n R T).getD 0 false with
    | false => rfl
    | true =>
      obtain ⟨l, s, p, hs, ht⟩ := ha.mp hc
      have := all l
      rw [Nat.zero_add, countW_pth H] at this
      exact absurd (this s p) ht
end
end Mine
end
section
namespace Mine
section
variable {n m : Nat} {R T : List (List Int)}
structure BInv (n : Nat) (R T : List (List Int)) (W : Met) (i : Nat) : Prop where
  ok : MetOK n W
  start : W[0]? = some (0, [])
  path : ∀ p ∈ W, Pth R p.2.length 0 p.1
  mono : ∀ (a b : Nat) (p q : Int × List Int), a ≤ b → W[a]? = some p → W[b]? = some q → p.2.length ≤ q.2.length
  top : ∀ p q : Int × List Int, W[i]? = some p → q ∈ W → q.2.length ≤ p.2.length + 1
  closed : ∀ a < i, ∀ p : Int × List Int, W[a]? = some p → T.getD p.1.toNat [] = [] ∧ ∀ g, Ed R p.1 g → ∃ q ∈ W, q.1 = g ∧ q.2.length ≤ p.2.length + 1
structure VInv (n : Nat) (R : List (List Int)) (W₀ W : Met) (s : Int) (wd row : List Int) (k : Nat) : Prop where
  ok : MetOK n W
  app : ∃ N, W = W₀ ++ N ∧ ∀ q ∈ N, q.2.length = wd.length + 1 ∧ Ed R s q.1
  has : ∀ c < k, row.getD c 0 ≠ -1 → row.getD c 0 ∈ W.map (·.1)
theorem visits (H : Aut n m R T) {W₀ : Met} {s : Int} {wd row : List Int} (hs : 0 ≤ s ∧ s < n) (hrow : R.getD s.toNat [] = row) (hm : (s, wd) ∈ W₀) (ok : MetOK n W₀) (k : Nat) (hk : k ≤ m) : VInv n R W₀ ((List.range k).foldl (visit row wd) W₀) s wd row k := by
  induction k with
  | zero => exact ⟨ok, ⟨[], by simp, fun _ h => nomatch h⟩, fun c h => absurd h (Nat.not_lt_zero _)⟩
  | succ k ih =>
    have V := ih (by lia)
    rw [List.range_succ, List.foldl_append]
    show VInv n R W₀ (visit row wd _ k) s wd row (k + 1)
    generalize (List.range k).foldl (visit row wd) W₀ = W at *
    obtain ⟨r, q1, q2, q3, q4⟩ := H.rowAt (i := s.toNat) (by lia)
    rw [hrow] at q2
    subst q2
    have hkr : k < row.length := by lia
    have eg : row.getD k 0 = row[k] := by rw [List.getD_eq_getElem?_getD, List.getElem?_eq_getElem hkr]; rfl
    have hg := q4 _ (List.getElem_mem hkr)
    obtain ⟨N, e1, e2⟩ := V.app
    have hw : wd.length + 1 ≤ W.length := V.ok.wl (s, wd) (by rw [e1]; exact List.mem_append_left _ hm)
    have okv := visit_ok (wd := wd) (c := k) V.ok (row := row) (by rw [eg]; exact hg) hw
    unfold visit at okv ⊢
    split
    · rename_i hc
      rw [if_pos hc] at okv
      simp only [Bool.and_eq_true, bne_iff_ne, ne_eq, Bool.not_eq_true', List.contains_eq_mem, decide_eq_false_iff_not] at hc
      have ed : Ed R s (row.getD k 0) := ⟨by rw [hrow, eg]; exact List.getElem_mem hkr, by have := hc.1; rw [eg] at this ⊢; lia⟩
      refine ⟨okv, ⟨N ++ [(row.getD k 0, wd ++ [(k : Int)])], by rw [e1, List.append_assoc], fun q hq => ?_⟩, fun c hcl hne => ?_⟩
      · rcases List.mem_append.mp hq with hq | hq
        · exact e2 q hq
        · rw [List.mem_singleton.mp hq]; exact ⟨by simp, ed⟩
      · rw [List.map_append]
        by_cases hck : c = k
        · subst hck; exact List.mem_append_right _ (by simp)
        · exact List.mem_append_left _ (V.has c (by lia) hne)
    · rename_i hc
      rw [if_neg hc] at okv
      refine ⟨V.ok, V.app, fun c hcl hne => ?_⟩
      by_cases hck : c = k
      · subst hck
        simp only [Bool.and_eq_true, bne_iff_ne, ne_eq, Bool.not_eq_true', List.contains_eq_mem, decide_eq_false_iff_not, not_and, Decidable.not_not] at hc
        exact hc hne
      · exact V.has c (by lia) hne
theorem BInv.step (H : Aut n m R T) {W : Met} {i : Nat} {s : Int} {wd : List Int} (I : BInv n R T W i) (hi : W[i]? = some (s, wd)) (ht : T.getD s.toNat [] = []) : BInv n R T ((List.range m).foldl (visit (R.getD s.toNat []) wd) W) (i + 1) ∧ i + 1 ≤ ((List.range m).foldl (visit (R.getD s.toNat []) wd) W).length := by
  have hm := List.mem_of_getElem? hi
  have hs : 0 ≤ s ∧ s < n := I.ok.rng s (List.mem_map.mpr ⟨_, hm, rfl⟩)
  have hil := (List.getElem?_eq_some_iff.mp hi).1
  have V := visits H hs rfl hm I.ok m (Nat.le_refl _)
  generalize hW' : (List.range m).foldl (visit (R.getD s.toNat []) wd) W = W' at *
  obtain ⟨N, rfl, e2⟩ := V.app
  have len_of : ∀ (b : Nat) (q : Int × List Int), (W ++ N)[b]? = some q → (b < W.length ∧ W[b]? = some q ∧ q.2.length ≤ wd.length + 1) ∨ (W.length ≤ b ∧ q.2.length = wd.length + 1) := fun b q hb => by
    by_cases hbl : b < W.length
    · rw [List.getElem?_append_left hbl] at hb
      exact .inl ⟨hbl, hb, I.top _ q hi (List.mem_of_getElem? hb)⟩
    · rw [List.getElem?_append_right (by lia)] at hb
      exact .inr ⟨by lia, (e2 q (List.mem_of_getElem? hb)).1⟩
  have mono' : ∀ (a b : Nat) (p q : Int × List Int), a ≤ b → (W ++ N)[a]? = some p → (W ++ N)[b]? = some q → p.2.length ≤ q.2.length := fun a b p q hab ha hb => by
    rcases len_of a p ha with ⟨a1, a2, a3⟩ | ⟨a1, a2⟩ <;> rcases len_of b q hb with ⟨b1, b2, b3⟩ | ⟨b1, b2⟩
    · exact I.mono a b p q hab a2 b2
    · lia
    · lia
    · lia
  have hi' : (W ++ N)[i]? = some (s, wd) := by rw [List.getElem?_append_left hil]; exact hi
  refine ⟨⟨V.ok, ?_, fun p hp => ?_, mono', fun p q hp hq => ?_, fun a ha p hp => ?_⟩, by rw [List.length_append]; lia⟩
  · rw [List.getElem?_append_left (by lia)]; exact I.start
  · rcases List.mem_append.mp hp with hp | hp
    · exact I.path p hp
    · obtain ⟨f1, f2⟩ := e2 p hp
      rw [f1]
      exact .snoc (I.path _ hm) f2
  · have h1 := mono' i (i + 1) _ _ (by lia) hi' hp
    have h2 : q.2.length ≤ wd.length + 1 := by
      rcases List.mem_append.mp hq with hq | hq
      · exact I.top _ q hi hq
      · exact Nat.le_of_eq (e2 q hq).1
    dsimp only at h1
    lia
  · by_cases hai : a = i
    · subst hai
      rw [hi'] at hp
      cases hp
      refine ⟨ht, fun g hg => ?_⟩
      obtain ⟨r, q1, q2, q3, q4⟩ := H.rowAt (i := s.toNat) (by lia)
      have hg1 := hg.1
      rw [q2] at hg1
      obtain ⟨c, hc, hcg⟩ := List.getElem_of_mem hg1
      have hgd : (R.getD s.toNat []).getD c 0 = g := by rw [q2, List.getD_eq_getElem?_getD, List.getElem?_eq_getElem hc, hcg]; rfl
      have := V.has c (by lia) (by rw [hgd]; have := hg.2; lia)
      rw [hgd] at this
      obtain ⟨q, hq, rfl⟩ := List.mem_map.mp this
      refine ⟨q, hq, rfl, ?_⟩
      rcases List.mem_append.mp hq with hq | hq
      · exact I.top _ q hi hq
      · exact Nat.le_of_eq (e2 q hq).1
    · have hal : a < W.length := by lia
      rw [List.getElem?_append_left hal] at hp
      obtain ⟨c1, c2⟩ := I.closed a (by lia) p hp
      refine ⟨c1, fun g hg => ?_⟩
      obtain ⟨q, hq, h⟩ := c2 g hg
      exact ⟨q, List.mem_append_left _ hq, h⟩
/-- what is reached early has been looked at -/
theorem BInv.early (H : Aut n m R T) {W : Met} {i d : Nat} (I : BInv n R T W i) (hd : ∀ p ∈ W, p.2.length < d → ∃ a < i, W[a]? = some p) : ∀ l s, l < d → Pth R l 0 s → ∃ a < i, ∃ p : Int × List Int, W[a]? = some p ∧ p.1 = s ∧ p.2.length ≤ l
  | 0, s, hl, p => by
    cases p
    have hm := List.mem_of_getElem? I.start
    obtain ⟨a, ha, e⟩ := hd _ hm hl
    exact ⟨a, ha, _, e, rfl, Nat.le_refl _⟩
  | l + 1, s, hl, p => by
    cases p with
    | @snoc _ _ v _ p e =>
      obtain ⟨a, ha, q, e1, rfl, e2⟩ := BInv.early H I hd l v (by lia) p
      obtain ⟨q', hq', rfl, e3⟩ := (I.closed a ha q e1).2 s e
      obtain ⟨a', ha', e4⟩ := hd q' hq' (by lia)
      exact ⟨a', ha', q', e4, rfl, by lia⟩
noncomputable abbrev BfsP (n : Nat) (R T : List (List Int)) (r : Option (List Int)) : Prop := match r with
    | none => ∀ l s, Pth R l 0 s → T.getD s.toNat [] = []
    | some wd => wd.length < n ∧ (∃ s, Pth R wd.length 0 s ∧ T.getD s.toNat [] ≠ []) ∧ ∀ l s, l < wd.length → Pth R l 0 s → T.getD s.toNat [] = []
theorem bfs_spec (H : Aut n m R T) (f : Nat) : ∀ W i, f + i = 10 → i ≤ W.length → BInv n R T W i → BfsP n R T (bfsF m R T f W i) := by
  induction f with
  | zero =>
    intro W i hf hi I
    have := I.ok.len
    have := H.n5
    lia
  | succ f ih =>
    intro W i hf hi I
    unfold bfsF
    cases hW : W[i]? with
    | none =>
      dsimp only
      intro l s p
      have hil : W.length ≤ i := List.getElem?_eq_none_iff.mp hW
      obtain ⟨a, ha, q, e1, rfl, e2⟩ := I.early H (d := l + 1) (fun p hp _ => by
        obtain ⟨a, ha, e⟩ := List.getElem_of_mem hp
        exact ⟨a, by lia, by rw [← e]; exact List.getElem?_eq_getElem ha⟩) l s (by lia) p
      exact (I.closed a ha q e1).1
    | some sw =>
      obtain ⟨s, wd⟩ := sw
      dsimp only
      cases ht : (T.getD s.toNat []).isEmpty with
      | true =>
        rw [if_pos rfl]
        have ht' : T.getD s.toNat [] = [] := List.isEmpty_iff.mp ht
        obtain ⟨I', hl'⟩ := I.step H hW ht'
        exact ih _ (i + 1) (by lia) hl' I'
      | false =>
        rw [if_neg (by simp)]
        have hm := List.mem_of_getElem? hW
        have h1 := I.ok.wl _ hm
        have h2 := I.ok.len
        refine ⟨by dsimp only at h1; lia, ⟨s, I.path _ hm, fun q => by rw [q] at ht; cases ht⟩, fun l u hl p => ?_⟩
        obtain ⟨a, ha, q, e1, rfl, e2⟩ := I.early H (d := wd.length) (fun p hp hlt => by
          obtain ⟨a, ha, e⟩ := List.getElem_of_mem hp
          have e' : W[a]? = some p := by rw [← e]; exact List.getElem?_eq_getElem ha
          refine ⟨a, ?_, e'⟩
          apply Nat.lt_of_not_le
          intro hia
          have := I.mono i a _ _ hia hW e'
          dsimp only at this
          lia) l u hl p
        exact (I.closed a ha q e1).1
theorem binv0 (H : Aut n m R T) : BInv n R T [(0, [])] 0 := by
  have n1 := H.n1
  refine ⟨⟨by simp, fun x hx => by simp at hx; lia, by simp⟩, rfl, fun p hp => ?_, fun a b p q hab ha hb => ?_, fun p q hp hq => ?_, fun a ha => absurd ha (Nat.not_lt_zero _)⟩
  · rw [List.mem_singleton.mp hp]; exact .nil 0
  · have := List.mem_singleton.mp (List.mem_of_getElem? ha)
    rw [this]; exact Nat.zero_le _
  · rw [List.mem_singleton.mp hq]; exact Nat.zero_le _
theorem good_short (H : Aut n m R T) (n4 : n ≤ 4) : match shortF m R T with
    | none => ((List.range (2 * n + 3)).map (countW n R T)).sum = 0
    | some wd => wd.length < 2 * n + 3 ∧ 0 < countW n R T wd.length ∧ ((List.range wd.length).map (countW n R T)).sum = 0 := by
  have S := bfs_spec H 10 [(0, [])] 0 rfl (by simp) (binv0 H)
  have e : ∀ j, ((List.range j).map (countW n R T)).sum = ((List.range j).map fun i => countW n R T (0 + i)).sum := fun j => by simp
  unfold shortF
  cases hb : bfsF m R T 10 [(0, [])] 0 with
  | none =>
    rw [hb] at S
    dsimp only at S ⊢
    rw [e, sum_zero_iff H]
    exact fun i _ => (countW_pth H _).mpr fun s p => S _ s p
  | some wd =>
    rw [hb] at S
    dsimp only at S ⊢
    obtain ⟨s1, ⟨s, p, ht⟩, s3⟩ := S
    refine ⟨by lia, ?_, ?_⟩
    · have h0 := countW_nonneg H (T := T) wd.length
      have h1 : countW n R T wd.length ≠ 0 := fun q => ht ((countW_pth H _).mp q s p)
      lia
    · rw [e, sum_zero_iff H]
      exact fun i hi => (countW_pth H _).mpr fun s p => s3 (0 + i) s (by lia) p
end
end Mine
end
section
namespace Mine
section
variable {n m : Nat} {R T : List (List Int)} {L : List (List Int)} {us : List Bool}
theorem incW_get {n : Nat} {a : List Int} {g : Int} (hl : a.length = n) (hg : 0 ≤ g ∧ g < n) {j : Nat} (hj : j < n) : (incW a g).getD j 0 = a.getD j 0 + if g = (j : Int) then 1 else 0 := by
  unfold incW
  rw [getD_set2]
  by_cases h2 : g = (j : Int)
  · subst h2
    rw [if_pos ⟨by simp, by simp; lia⟩, if_pos rfl]; simp
  · rw [if_neg (fun q => h2 (by lia)), if_neg h2]; lia
theorem incWs_get {n : Nat} : ∀ (gs : List Int) {a : List Int}, a.length = n → (∀ g ∈ gs, 0 ≤ g ∧ g < n) → ∀ {j : Nat}, j < n → (gs.foldl incW a).getD j 0 = a.getD j 0 + (gs.count (j : Int) : Nat)
  | [], a, _, _, j, _ => by simp
  | g :: gs, a, hl, hg, j, hj => by
    rw [List.foldl_cons, incWs_get gs (by rw [incW_len]; exact hl) (fun x hx => hg x (.tail _ hx)) hj, incW_get hl (hg g (.head _)) hj, List.count_cons]
    by_cases h : g = (j : Int)
    · rw [if_pos h, if_pos (by simpa using h)]; lia
    · rw [if_neg h, if_neg (by simpa using h)]; lia
noncomputable abbrev cnt (L : List (List Int)) (u g : Nat) : Int := ((L.getD u []).count (g : Int) : Nat)
theorem cnt_nonneg (L : List (List Int)) (u g : Nat) : 0 ≤ cnt L u g := by unfold cnt; lia
theorem arrPs_get (hL : ∀ u < n, ∀ g ∈ L.getD u [], 0 ≤ g ∧ g < n) {a : List Int} (hl : a.length = n) {j : Nat} (hj : j < n) : ∀ k ≤ n, ((List.range k).foldl (arrP L us) a).getD j 0 = a.getD j 0 + sumR k fun u => if us.getD u false then cnt L u j else 0
  | 0, _ => by simp [sumR]
  | k + 1, hk => by
    rw [List.range_succ, List.foldl_append]
    show (arrP L us ((List.range k).foldl (arrP L us) a) k).getD j 0 = _
    have ih := arrPs_get hL hl hj k (by lia)
    rw [sumR_succ]
    unfold arrP at ih ⊢
    split
    · rename_i h
      rw [incWs_get (n := n) _ (by have := arrPs_len L us (List.range k) a; unfold arrP at this; lia) (hL k (by lia)) hj, ih]; simp only [cnt]; lia
    · rename_i h
      rw [ih]; lia
/-- what still comes in -/
noncomputable def baseK (n : Nat) (L : List (List Int)) (us : List Bool) (D : List Int) (g : Nat) : Int := sumR n fun u => if us.getD u false = true ∧ (u : Int) ∉ D then cnt L u g else 0
structure KInv (n : Nat) (L : List (List Int)) (us : List Bool) (D wt arr rest : List Int) : Prop where
  la : arr.length = n
  arrEq : ∀ g : Nat, g < n → arr.getD g 0 = baseK n L us D g + (rest.count (g : Int) : Nat)
  rng : ∀ x ∈ D ++ wt, (0 ≤ x ∧ x < n) ∧ us.getD x.toNat false = true
  nd : (D ++ wt).Nodup
  zero : ∀ g : Nat, g < n → us.getD g false = true → (arr.getD g 0 = 0 ↔ (g : Int) ∈ D ++ wt)
  topo : ∀ v ∈ D, ∀ u : Nat, u < n → us.getD u false = true → v ∈ L.getD u [] → (u : Int) ∈ D ∧ D.idxOf (u : Int) < D.idxOf v
theorem baseK_nonneg (D : List Int) (g : Nat) : 0 ≤ baseK n L us D g := sumR_nonneg fun u _ => by have := cnt_nonneg L u g; split <;> lia
theorem KInv.pop {D wt arr : List Int} {p : Int} (I : KInv n L us D (wt ++ [p]) arr []) : KInv n L us (D ++ [p]) wt arr (L.getD p.toNat []) := by
  obtain ⟨hp, hup⟩ := I.rng p (by simp)
  have hnd := I.nd
  have pD : p ∉ D := fun q => by
    rw [List.nodup_append] at hnd
    exact hnd.2.2 p q p (by simp) rfl
  have perm : ∀ x, x ∈ D ++ (wt ++ [p]) ↔ x ∈ (D ++ [p]) ++ wt := fun x => by
    simp only [List.mem_append, List.mem_singleton]
    exact ⟨fun h => by rcases h with a | a | a <;> simp [a], fun h => by rcases h with (a | a) | a <;> simp [a]⟩
  refine ⟨I.la, fun g hg => ?_, fun x hx => I.rng x ((perm x).mpr hx), ?_, fun g hg hu => (I.zero g hg hu).trans (perm _), fun v hv u hu huu hvu => ?_⟩
  · rw [I.arrEq g hg]
    have e : baseK n L us D g = baseK n L us (D ++ [p]) g + cnt L p.toNat g := by
      unfold baseK
      rw [← sumR_pick (fun u => cnt L u g) (show p.toNat < n by lia), ← sumR_add]
      refine sumR_congr fun u hu => ?_
      by_cases h : u = p.toNat
      · have hup' : (u : Int) = p := by lia
        rw [if_pos ⟨by rw [h]; exact hup, by rw [hup']; exact pD⟩, if_neg (fun q => q.2 (by rw [hup']; simp)), if_pos h]; lia
      · have hne : (u : Int) ≠ p := by lia
        rw [if_neg h]
        by_cases h2 : us.getD u false = true ∧ (u : Int) ∉ D
        · rw [if_pos h2, if_pos ⟨h2.1, by simp [h2.2, hne]⟩]; lia
        · rw [if_neg h2, if_neg (fun q => h2 ⟨q.1, fun r => q.2 (by simp [r])⟩)]; lia
    rw [e, List.count_nil]; simp only [cnt]; lia
  · refine (List.Perm.nodup_iff ?_).mp hnd
    rw [List.append_assoc]
    exact List.perm_append_comm.append_left D
  · have inD : ∀ x ∈ D, (D ++ [p]).idxOf x = D.idxOf x := fun x hx => by rw [List.idxOf_append, if_pos hx]
    rcases List.mem_append.mp hv with hv | hv
    · obtain ⟨a, b⟩ := I.topo v hv u hu huu hvu
      exact ⟨List.mem_append_left _ a, by rw [inD _ a, inD _ hv]; exact b⟩
    · have hvp := List.mem_singleton.mp hv
      subst hvp
      -- nothing comes in any more
      have hz := (I.zero v.toNat (by lia) hup).mpr (by rw [show ((v.toNat : Nat) : Int) = v by lia]; simp)
      rw [I.arrEq _ (by lia)] at hz
      have hb : baseK n L us D v.toNat = 0 := by have := baseK_nonneg (n := n) (L := L) (us := us) D v.toNat; lia
      have hall := (sumR_eq_zero (fun u _ => by have := cnt_nonneg L u v.toNat; split <;> lia)).mp hb u hu
      have uD : (u : Int) ∈ D := by
        apply Classical.byContradiction
        intro q
        rw [if_pos ⟨huu, q⟩] at hall
        have h0 : (L.getD u []).count ((v.toNat : Nat) : Int) = 0 := by unfold cnt at hall; lia
        rw [show ((v.toNat : Nat) : Int) = v by lia] at h0
        exact (List.count_eq_zero.mp h0) hvu
      refine ⟨List.mem_append_left _ uD, ?_⟩
      rw [inD _ uD, List.idxOf_append, if_neg pD]
      have := List.idxOf_lt_length_of_mem uD
      lia
theorem KInv.dec {D wt arr rest : List Int} {g₀ : Int} (I : KInv n L us D wt arr (g₀ :: rest)) (hg : 0 ≤ g₀ ∧ g₀ < n) : KInv n L us D (decW us (arr, wt) g₀).2 (decW us (arr, wt) g₀).1 rest := by
  have hl := I.la
  have hgn : g₀.toNat < arr.length := by lia
  have eg : ((g₀.toNat : Nat) : Int) = g₀ := by lia
  have e0 := I.arrEq g₀.toNat (by lia)
  rw [eg, List.count_cons_self] at e0
  have hb := baseK_nonneg (n := n) (L := L) (us := us) D g₀.toNat
  have hne : arr.getD g₀.toNat 0 ≠ 0 := by lia
  have hself := getD_set_self arr g₀.toNat (arr.getD g₀.toNat 0 - 1) hgn
  have arrEq' : ∀ g : Nat, g < n → (arr.set g₀.toNat (arr.getD g₀.toNat 0 - 1)).getD g 0 = baseK n L us D g + (rest.count (g : Int) : Nat) := fun g hgn => by
    by_cases h : g = g₀.toNat
    · subst h
      rw [hself, eg]; lia
    · rw [getD_set_ne _ _ _ _ (fun q => h q.symm), I.arrEq g hgn, List.count_cons]
      have : (g₀ == (g : Int)) = false := by rw [beq_eq_false_iff_ne]; lia
      rw [this]; simp
  have fresh : us.getD g₀.toNat false = true → g₀ ∉ D ++ wt := fun hu q => hne ((I.zero g₀.toNat (by lia) hu).mpr (by rw [eg]; exact q))
  unfold decW
  dsimp only
  rw [hself]
  by_cases hc : arr.getD g₀.toNat 0 - 1 = 0 ∧ us.getD g₀.toNat false = true
  · rw [if_pos (by simp only [Bool.and_eq_true, beq_iff_eq]; exact hc)]
    have hf := fresh hc.2
    refine ⟨by rw [List.length_set]; exact hl, arrEq', fun x hx => ?_, ?_, fun g hgn hu => ?_, I.topo⟩
    · rw [← List.append_assoc] at hx
      rcases List.mem_append.mp hx with hx | hx
      · exact I.rng x hx
      · rw [List.mem_singleton.mp hx]; exact ⟨hg, hc.2⟩
    · rw [← List.append_assoc, List.nodup_append]
      exact ⟨I.nd, by simp, fun a ha b hb q => hf (by rw [← List.mem_singleton.mp hb, ← q]; exact ha)⟩
    · rw [← List.append_assoc]
      by_cases h : g = g₀.toNat
      · subst h
        rw [hself, eg]
        exact ⟨fun _ => by simp, fun _ => hc.1⟩
      · rw [getD_set_ne _ _ _ _ (fun q => h q.symm), I.zero g hgn hu]
        have : (g : Int) ≠ g₀ := by lia
        simp [this]
  · rw [if_neg (by simp only [Bool.and_eq_true, beq_iff_eq]; exact hc)]
    refine ⟨by rw [List.length_set]; exact hl, arrEq', I.rng, I.nd, fun g hgn hu => ?_, I.topo⟩
    by_cases h : g = g₀.toNat
    · subst h
      rw [hself, eg]
      exact ⟨fun q => absurd ⟨q, hu⟩ hc, fun q => absurd q (fresh hu)⟩
    · rw [getD_set_ne _ _ _ _ (fun q => h q.symm)]
      exact I.zero g hgn hu
theorem KInv.decs {D : List Int} : ∀ (gs : List Int) {wt arr : List Int}, (∀ g ∈ gs, 0 ≤ g ∧ g < n) → KInv n L us D wt arr gs → KInv n L us D (gs.foldl (decW us) (arr, wt)).2 (gs.foldl (decW us) (arr, wt)).1 []
  | [], _, _, _, I => I
  | g :: gs, wt, arr, h, I => by
    rw [List.foldl_cons]
    exact KInv.decs gs (fun x hx => h x (.tail _ hx)) (I.dec (h g (.head _)))
theorem kahn_spec (hL : ∀ u < n, ∀ g ∈ L.getD u [], 0 ≤ g ∧ g < n) (f : Nat) : ∀ (D wt arr : List Int) (t : Int), kM (arr, wt) < f → t = (D.length : Nat) → KInv n L us D wt arr [] → ∃ D' arr', kahnF L us f (arr, wt) t = (D'.length : Nat) ∧ KInv n L us D' [] arr' [] := by
  induction f with
  | zero => intro _ _ _ _ h; exact absurd h (Nat.not_lt_zero _)
  | succ f ih =>
    intro D wt arr t h ht I
    unfold kahnF
    rcases List.eq_nil_or_concat wt with e | ⟨ws, p, e⟩
    · subst e
      exact ⟨D, arr, ht, I⟩
    · rw [List.concat_eq_append] at e
      subst e
      rw [List.getLast?_concat]
      dsimp only
      rw [List.dropLast_concat]
      have I' := I.pop
      have hp := (I.rng p (by simp)).1
      have hg := hL p.toNat (by lia)
      have I'' := I'.decs _ hg
      have hk := decWs_kM us (L.getD p.toNat []) (arr, ws) fun g hg' => by
        have := hg g hg'
        show g.toNat < arr.length
        rw [I.la]; lia
      have hk2 : kM (arr, ws) + 1 = kM (arr, ws ++ [p]) := by simp only [kM, List.length_append, List.length_singleton]; lia
      exact ih (D ++ [p]) _ _ (t + 1) (by
        generalize (L.getD p.toNat []).foldl (decW us) (arr, ws) = st at *
        show kM st < f
        lia) (by rw [List.length_append, List.length_singleton]; lia) I''
theorem kinv0 (hL : ∀ u < n, ∀ g ∈ L.getD u [], 0 ≤ g ∧ g < n) : KInv n L us [] (waitF n us (arrF n L us)) (arrF n L us) [] := by
  have hz : ∀ g : Nat, g < n → (arrF n L us).getD g 0 = sumR n fun u => if us.getD u false then cnt L u g else 0 := fun g hg => by
    unfold arrF
    rw [arrPs_get hL (by simp) hg n (Nat.le_refl _), List.getD_eq_getElem?_getD, List.getElem?_replicate, if_pos hg]; simp
  have hm : ∀ g : Nat, (g : Int) ∈ waitF n us (arrF n L us) ↔ g < n ∧ us.getD g false = true ∧ (arrF n L us).getD g 0 = 0 := fun g => by
    unfold waitF
    rw [List.mem_map]
    constructor
    · rintro ⟨i, hi, e⟩
      have e : i = g := by lia
      subst e
      obtain ⟨a, b⟩ := List.mem_filter.mp hi
      simp only [Bool.and_eq_true, beq_iff_eq] at b
      exact ⟨List.mem_range.mp a, b⟩
    · rintro ⟨a, b, c⟩
      exact ⟨g, List.mem_filter.mpr ⟨List.mem_range.mpr a, by simp only [Bool.and_eq_true, beq_iff_eq]; exact ⟨b, c⟩⟩, rfl⟩
  refine ⟨by unfold arrF; rw [arrPs_len]; simp, fun g hg => ?_, fun x hx => ?_, ?_, fun g hg hu => ?_, fun v hv => nomatch hv⟩
  · rw [hz g hg]
    unfold baseK
    simp
  · rw [List.nil_append] at hx
    obtain ⟨i, hi, rfl⟩ := List.mem_map.mp hx
    obtain ⟨a, b⟩ := List.mem_filter.mp hi
    have a := List.mem_range.mp a
    simp only [Bool.and_eq_true, beq_iff_eq] at b
    exact ⟨⟨by lia, by lia⟩, by rw [Int.toNat_natCast]; exact b.1⟩
  · rw [List.nil_append]
    unfold waitF
    have : ((List.range n).filter fun s => us.getD s false && (arrF n L us).getD s 0 == 0).Nodup := List.nodup_range.filter _
    rw [List.nodup_iff_pairwise_ne] at this ⊢
    rw [List.pairwise_map]
    exact this.imp fun h q => h (by lia)
  · rw [List.nil_append, hm g]
    exact ⟨fun q => ⟨hg, hu, q⟩, fun q => q.2.2⟩
end
end Mine
end
section
namespace Mine
theorem sub_len : ∀ (l l' : List Int), l.Nodup → (∀ x ∈ l, x ∈ l') → l.length ≤ l'.length
  | [], _, _, _ => Nat.zero_le _
  | x :: l, l', nd, h => by
    rw [List.nodup_cons] at nd
    have hx := h x (.head _)
    have := sub_len l (l'.erase x) nd.2 fun y hy => by
      have hne : y ≠ x := fun q => nd.1 (q ▸ hy)
      exact (List.mem_erase_of_ne hne).mpr (h y (.tail _ hy))
    rw [List.length_erase_of_mem hx] at this
    have hpos := List.length_pos_of_mem hx
    rw [List.length_cons]; lia
theorem count_true : ∀ (f : Nat → Bool) (n : Nat), ((List.range n).map f).count true = ((List.range n).filter f).length
  | f, 0 => rfl
  | f, n + 1 => by
    rw [List.range_succ, List.map_append, List.count_append, List.filter_append, List.length_append, count_true f n]
    congr 1
    cases h : f n <;> simp [h]
section
variable {n m : Nat} {R T : List (List Int)}
theorem useful_get (H : Aut n m R T) {v : Nat} (hv : v < n) : (usefulF n R T).getD v false = true ↔ (∃ l, Pth R l 0 v) ∧ ∃ l s, Pth R l v s ∧ (0 ≤ s ∧ s < n) ∧ T.getD s.toNat [] ≠ [] := by
  unfold usefulF
  rw [List.getD_eq_getElem?_getD, List.getElem?_map, List.getElem?_range hv]
  show ((spreadF (linksF R) [0]).getD v false && (aliveF n R T).getD v false) = true ↔ _
  rw [Bool.and_eq_true, reach_get H hv, alive_get H hv]
theorem links_rng (H : Aut n m R T) : ∀ u < n, ∀ g ∈ (linksF R).getD u [], 0 ≤ g ∧ g < n := fun u hu g hg => by
  have := (links_mem H (u : Int) g).mp (by simpa using hg)
  exact this.rng H
theorem good_finite (H : Aut n m R T) (n4 : n ≤ 4) : finiteF n R T = (((List.range n).map fun i => countW n R T (n + i)).sum == 0) := by
  have hL := links_rng H
  have I₀ := kinv0 (us := usefulF n R T) hL
  obtain ⟨D, arr, hK, I⟩ := kahn_spec hL _ [] _ _ 0 (Nat.lt_succ_self _) rfl I₀
  have hfin : finiteF n R T = ((D.length : Int) == ((usefulF n R T).count true : Nat)) := by
    unfold finiteF takenF
    rw [hK]
  have hcount : (usefulF n R T).count true = ((List.range n).filter fun u => (usefulF n R T).getD u false).length := by
    have e : (List.range n).filter (fun u => (usefulF n R T).getD u false) = (List.range n).filter fun i => (spreadF (linksF R) [0]).getD i false && (aliveF n R T).getD i false := by
      apply List.filter_congr
      intro u hu
      have hu := List.mem_range.mp hu
      unfold usefulF
      rw [List.getD_eq_getElem?_getD, List.getElem?_map, List.getElem?_range hu]; rfl
    rw [e]
    exact count_true _ n
  let Us : List Int := ((List.range n).filter fun u => (usefulF n R T).getD u false).map fun u : Nat => (u : Int)
  have hUs : (usefulF n R T).count true = Us.length := by rw [hcount, List.length_map]
  have mUs : ∀ u : Nat, u < n → (usefulF n R T).getD u false = true → (u : Int) ∈ Us := fun u hu hx => List.mem_map.mpr ⟨u, List.mem_filter.mpr ⟨List.mem_range.mpr hu, hx⟩, rfl⟩
  have Umem : ∀ x ∈ Us, ∃ u : Nat, x = u ∧ u < n ∧ (usefulF n R T).getD u false = true := fun x hx => by
    obtain ⟨u, hu, rfl⟩ := List.mem_map.mp hx
    obtain ⟨a, b⟩ := List.mem_filter.mp hu
    exact ⟨u, rfl, List.mem_range.mp a, b⟩
  have ndU : Us.Nodup := by
    have : ((List.range n).filter fun u => (usefulF n R T).getD u false).Nodup := List.nodup_range.filter _
    rw [List.nodup_iff_pairwise_ne] at this ⊢
    rw [List.pairwise_map]
    exact this.imp fun h q => h (by lia)
  have rD : ∀ x ∈ D, (0 ≤ x ∧ x < n) ∧ (usefulF n R T).getD x.toNat false = true := fun x hx => I.rng x (List.mem_append_left _ hx)
  have ndD : D.Nodup := by have := I.nd; rwa [List.append_nil] at this
  have DU : ∀ x ∈ D, x ∈ Us := fun x hx => by
    obtain ⟨h1, h2⟩ := rD x hx
    have := mUs x.toNat (by lia) h2
    rwa [show ((x.toNat : Nat) : Int) = x by lia] at this
  have hDU := sub_len D Us ndD DU
  have hDn : D.length ≤ n := nodup_le n D ndD fun x hx => (rD x hx).1
  rw [hfin, hUs, Bool.eq_iff_iff, beq_iff_eq, beq_iff_eq, sum_zero_iff H]
  constructor
  · -- every useful state was taken: no long word
    intro hlen
    have all : ∀ u : Nat, u < n → (usefulF n R T).getD u false = true → (u : Int) ∈ D := fun u hu hx => by
      apply Classical.byContradiction
      intro q
      have := sub_len ((u : Int) :: D) Us (List.nodup_cons.mpr ⟨q, ndD⟩) fun x hx' => by
        rcases List.mem_cons.mp hx' with rfl | hx'
        · exact mUs u hu hx
        · exact DU x hx'
      rw [List.length_cons] at this
      lia
    have climb : ∀ l v, Pth R l 0 v → (∃ l s, Pth R l v s ∧ (0 ≤ s ∧ s < n) ∧ T.getD s.toNat [] ≠ []) → v ∈ D ∧ l ≤ D.idxOf v := by
      intro l
      induction l with
      | zero =>
        intro v p ha
        have hv := p.rng H
        have hu := (useful_get H (v := v.toNat) (by lia)).mpr ⟨⟨0, by rw [show ((v.toNat : Nat) : Int) = v by lia]; exact p⟩, by rw [show ((v.toNat : Nat) : Int) = v by lia]; exact ha⟩
        have := all v.toNat (by lia) hu
        rw [show ((v.toNat : Nat) : Int) = v by lia] at this
        exact ⟨this, Nat.zero_le _⟩
      | succ l ih =>
        intro w p ha
        have hw := p.rng H
        have hu := (useful_get H (v := w.toNat) (by lia)).mpr ⟨⟨_, by rw [show ((w.toNat : Nat) : Int) = w by lia]; exact p⟩, by rw [show ((w.toNat : Nat) : Int) = w by lia]; exact ha⟩
        have hwD := all w.toNat (by lia) hu
        rw [show ((w.toNat : Nat) : Int) = w by lia] at hwD
        cases p with
        | @snoc _ _ v _ p e =>
          have hv := p.rng H
          obtain ⟨l', s, q, hs⟩ := ha
          have ha' : ∃ l s, Pth R l v s ∧ (0 ≤ s ∧ s < n) ∧ T.getD s.toNat [] ≠ [] := ⟨l' + 1, s, .cons e q, hs⟩
          obtain ⟨i1, i2⟩ := ih v p ha'
          have huv := (rD v i1).2
          obtain ⟨t1, t2⟩ := I.topo w hwD v.toNat (by lia) huv ((links_mem H v w).mpr e)
          rw [show ((v.toNat : Nat) : Int) = v by lia] at t2
          exact ⟨hwD, by lia⟩
    intro i _
    rw [countW_pth H]
    intro s p
    apply Classical.byContradiction
    intro ht
    have hs := p.rng H
    obtain ⟨c1, c2⟩ := climb _ s p ⟨0, s, .nil s, hs, ht⟩
    have := List.idxOf_lt_length_of_mem c1
    lia
  · -- a useful state was not taken: words without end
    intro hz
    apply Classical.byContradiction
    intro hlen
    have : ∃ v : Nat, v < n ∧ (usefulF n R T).getD v false = true ∧ (v : Int) ∉ D := by
      apply Classical.byContradiction
      intro q
      have := sub_len Us D ndU fun x hx => by
        obtain ⟨u, rfl, h1, h2⟩ := Umem x hx
        apply Classical.byContradiction
        intro r
        exact q ⟨u, h1, h2, r⟩
      lia
    obtain ⟨v, hv, hvu, hvD⟩ := this
    have back : ∀ k, ∃ u : Nat, u < n ∧ (usefulF n R T).getD u false = true ∧ (u : Int) ∉ D ∧ Pth R k u v := by
      intro k
      induction k with
      | zero => exact ⟨v, hv, hvu, hvD, .nil _⟩
      | succ k ih =>
        obtain ⟨u, hu, huu, huD, p⟩ := ih
        have hne : arr.getD u 0 ≠ 0 := fun q => huD (by have := (I.zero u hu huu).mp q; rwa [List.append_nil] at this)
        rw [I.arrEq u hu, List.count_nil] at hne
        have hb : baseK n (linksF R) (usefulF n R T) D u ≠ 0 := by lia
        have : ∃ x : Nat, x < n ∧ ((usefulF n R T).getD x false = true ∧ (x : Int) ∉ D) ∧ cnt (linksF R) x u ≠ 0 := by
          apply Classical.byContradiction
          intro q
          apply hb
          unfold baseK
          rw [sumR_congr (g := fun _ => 0), sumR_zero]
          intro x hx
          split
          · rename_i hc
            apply Classical.byContradiction
            intro r
            exact q ⟨x, hx, hc, r⟩
          · rfl
        obtain ⟨x, hx, ⟨hxu, hxD⟩, hc⟩ := this
        have hmem : (u : Int) ∈ (linksF R).getD x [] := by
          apply Classical.byContradiction
          intro r
          apply hc
          unfold cnt
          rw [List.count_eq_zero.mpr r]; rfl
        exact ⟨x, hx, hxu, hxD, .cons ((links_mem H (x : Int) u).mp (by simpa using hmem)) p⟩
    obtain ⟨u, hu, huu, _, p⟩ := back n
    obtain ⟨⟨j, q⟩, _⟩ := (useful_get H hu).mp huu
    obtain ⟨_, i, s, r, hs, ht⟩ := (useful_get H hv).mp hvu
    have allz := noughts H n4 (T := T) (k := n) hz (j + i)
    rw [countW_pth H, show n + (j + i) = j + n + i by lia] at allz
    exact ht (allz s ((q.trans p).trans r))
theorem good (n m : Nat) (R T : List (List Int)) (H : Aut n m R T) (n4 : n ≤ 4) : Good n m R T where
  tried l _ := count_tried H l
  recur l _ := good_rec H n4 l
  compl l _ := good_compl H n4 l
  nothing := good_nothing H n4
  finite := good_finite H n4
  short := good_short H n4
end
end Mine
end
theorem PySem.Challenge.cw_pq0553_01_holds : PySem.Challenge.rw_pq0553_01.Holds := by
  exact Mine.law_holds Mine.good
