import PyProof.Rows.All
import Wide.All
import OpenK.AllK
import Wide.FinOn
import Lean
import PySem.Challenge.RW_nn0262_01
set_option Elab.async false

section
open PySem PySem.W PyProof.Rows
set_option maxRecDepth 100000
set_option linter.unusedVariables false

namespace Mine

/-! ### pure values -/

inductive PV where
  | none
  | bool (b : Bool)
  | int (i : Int)
  | str (x : Str)
  | tup (l : List PV)
  | lst (l : List PV)
  | ptr (a : Addr)
  | rng (a b : Int)
  | told (l : List ((Int × Int) × Int))

/-- what an owned, mutable object holds -/
inductive Cont where
  | lst (l : List PV)
  | met (l : List (Int × Int))
  | told (l : List ((Int × Int) × Int))
  | draws (g m : Int)

abbrev Lk := Addr → Option Obj

noncomputable def PairAt (look : Lk) (a : Addr) (x : Int × Int) : Prop := ∃ n t u, look a = some { cls := .type "tuple", dict := none, data := .seq #[.int x.1 t, .int x.2 u] n, slots := #[] }
noncomputable def toldEntry (x : List Int × Addr × Value) : DictEntry := ⟨reduceHash (Builtin.Tuple.tupleHashOf (x.1.map hashInt)), .ref x.2.1, x.2.2⟩
/-- a frozen dict from pairs of ints to ints -/
noncomputable def ToldAt (look : Lk) (a : Addr) (l : List ((Int × Int) × Int)) : Prop := (a == sysModules) = false ∧ ∃ (es : Array DictEntry) (ep : Nat) (xs : List (List Int × Addr × Value)), look a = some { cls := .type "dict", dict := none, data := .dict es ep, slots := #[] } ∧
  es.toList = xs.map toldEntry ∧ xs.map (fun x => x.1) = l.map (fun x => [x.1.1, x.1.2]) ∧ (xs.map (fun x => x.1)).Nodup ∧
  ∀ (i : Nat) (x : List Int × Addr × Value) (y : (Int × Int) × Int), xs[i]? = some x → l[i]? = some y → PairAt look x.2.1 y.1 ∧ ∃ t, x.2.2 = Value.int y.2 t

mutual
inductive Rep (look : Lk) : Value → PV → Prop
  | none : Rep look .none .none
  | bool (b : Bool) : Rep look (.bool b) (.bool b)
  | int (i : Int) (t : Tok) : Rep look (.int i t) (.int i)
  | str (x : Str) (t : Tok) : Rep look (.str x t) (.str x)
  | tup {a : Addr} {items : Array Value} {n : Nat} {l : List PV} (h : look a = some { cls := .type "tuple", dict := none, data := .seq items n, slots := #[] }) (hs : Reps look items.toList l) : Rep look (.ref a) (.tup l)
  | lst {a : Addr} {items : Array Value} {n : Nat} {l : List PV} (h : look a = some { cls := .type "list", dict := none, data := .seq items n, slots := #[] }) (hs : Reps look items.toList l) : Rep look (.ref a) (.lst l)
  | ptr (a : Addr) : Rep look (.ref a) (.ptr a)
  | rng {r : Addr} {a b : Int} {t u v : Tok} (h : look r = some { cls := .type "range", dict := none, data := .fields #[.int a t, .int b u, .int 1 v], slots := #[] }) : Rep look (.ref r) (.rng a b)
  | told {a : Addr} {l : List ((Int × Int) × Int)} (h : ToldAt look a l) : Rep look (.ref a) (.told l)
inductive Reps (look : Lk) : List Value → List PV → Prop
  | nil : Reps look [] []
  | cons {v : Value} {p : PV} {vs : List Value} {ps : List PV} (h : Rep look v p) (hs : Reps look vs ps) : Reps look (v :: vs) (p :: ps)
end

noncomputable def Le (a b : Lk) : Prop := ∀ x o, a x = some o → b x = some o
theorem Le.refl (a : Lk) : Le a a := fun _ _ h => h
theorem Le.trans {a b c : Lk} (h : Le a b) (k : Le b c) : Le a c := fun x o e => k x o (h x o e)

theorem PairAt.mono {a b : Lk} (h : Le a b) {x : Addr} {y : Int × Int} (k : PairAt a x y) : PairAt b x y := let ⟨n, t, u, e⟩ := k; ⟨n, t, u, h _ _ e⟩
theorem ToldAt.mono {a b : Lk} (h : Le a b) {x : Addr} {l : List ((Int × Int) × Int)} (k : ToldAt a x l) : ToldAt b x l :=
  let ⟨q, es, ep, xs, e1, e2, e3, e4, e5⟩ := k
  ⟨q, es, ep, xs, h _ _ e1, e2, e3, e4, fun i x y h1 h2 => ⟨(e5 i x y h1 h2).1.mono h, (e5 i x y h1 h2).2⟩⟩
mutual
theorem Rep.mono {a b : Lk} (h : Le a b) : ∀ {v : Value} {p : PV}, Rep a v p → Rep b v p
  | _, _, .none => .none
  | _, _, .bool x => .bool x
  | _, _, .int i t => .int i t
  | _, _, .str x t => .str x t
  | _, _, .tup e hs => .tup (h _ _ e) (Reps.mono h hs)
  | _, _, .lst e hs => .lst (h _ _ e) (Reps.mono h hs)
  | _, _, .ptr x => .ptr x
  | _, _, .rng e => .rng (h _ _ e)
  | _, _, .told e => .told (e.mono h)
theorem Reps.mono {a b : Lk} (h : Le a b) : ∀ {vs : List Value} {ps : List PV}, Reps a vs ps → Reps b vs ps
  | _, _, .nil => .nil
  | _, _, .cons x xs => .cons (x.mono h) (xs.mono h)
end

theorem Reps.length {a : Lk} {vs : List Value} {ps : List PV} (h : Reps a vs ps) : vs.length = ps.length := by
  induction vs generalizing ps with
  | nil => cases h; rfl
  | cons v vs ih => cases h with | cons h hs => simp [ih hs]
theorem Reps.append {a : Lk} {vs us : List Value} {ps qs : List PV} (h : Reps a vs ps) (k : Reps a us qs) : Reps a (vs ++ us) (ps ++ qs) := by
  induction vs generalizing ps with
  | nil => cases h; exact k
  | cons v vs ih => cases h with | cons h hs => exact .cons h (ih hs)
theorem Reps.snoc {a : Lk} {vs : List Value} {v : Value} {ps : List PV} {p : PV} (h : Reps a vs ps) (k : Rep a v p) : Reps a (vs ++ [v]) (ps ++ [p]) := h.append (.cons k .nil)
theorem Reps.get {a : Lk} {vs : List Value} {ps : List PV} (h : Reps a vs ps) {i : Nat} {p : PV} (e : ps[i]? = some p) : ∃ v, vs[i]? = some v ∧ Rep a v p := by
  induction vs generalizing ps i with
  | nil => cases h; simp at e
  | cons v vs ih =>
    cases h with
    | cons h hs =>
      cases i with
      | zero => simp at e; subst e; exact ⟨v, rfl, h⟩
      | succ i => simp at e; simpa using ih hs e
theorem Reps.get' {a : Lk} {vs : List Value} {ps : List PV} (h : Reps a vs ps) {i : Nat} {v : Value} (e : vs[i]? = some v) : ∃ p, ps[i]? = some p ∧ Rep a v p := by
  induction vs generalizing ps i with
  | nil => simp at e
  | cons v vs ih =>
    cases h with
    | cons h hs =>
      cases i with
      | zero => simp at e; subst e; exact ⟨_, rfl, h⟩
      | succ i => simp at e; simpa using ih hs e
theorem Reps.take {a : Lk} {vs : List Value} {ps : List PV} (h : Reps a vs ps) (i : Nat) : Reps a (vs.take i) (ps.take i) := by
  induction vs generalizing ps i with
  | nil => cases h; simp; exact .nil
  | cons v vs ih =>
    cases h with
    | cons h hs => cases i with
      | zero => simp; exact .nil
      | succ i => simp; exact .cons h (ih hs i)
theorem Reps.drop {a : Lk} {vs : List Value} {ps : List PV} (h : Reps a vs ps) (i : Nat) : Reps a (vs.drop i) (ps.drop i) := by
  induction vs generalizing ps i with
  | nil => cases h; simp; exact .nil
  | cons v vs ih =>
    cases h with
    | cons h hs => cases i with
      | zero => simp; exact .cons h hs
      | succ i => simp; exact ih hs i
theorem Reps.reverse {a : Lk} {vs : List Value} {ps : List PV} (h : Reps a vs ps) : Reps a vs.reverse ps.reverse := by
  induction vs generalizing ps with
  | nil => cases h; exact .nil
  | cons v vs ih => cases h with | cons h hs => simpa using (ih hs).snoc h
theorem Reps.set {a : Lk} {vs : List Value} {ps : List PV} (h : Reps a vs ps) {v : Value} {p : PV} (k : Rep a v p) (i : Nat) : Reps a (vs.set i v) (ps.set i p) := by
  induction vs generalizing ps i with
  | nil => cases h; simp; exact .nil
  | cons v vs ih =>
    cases h with
    | cons h hs => cases i with
      | zero => simp; exact .cons k hs
      | succ i => simp; exact .cons h (ih hs i)
theorem Reps.ints {a : Lk} {vs : List Value} {ns : List Int} (h : Reps a vs (ns.map PV.int)) : IntsAre vs ns := by
  induction vs generalizing ns with
  | nil =>
    cases ns with
    | nil => exact .nil
    | cons n ns => cases h
  | cons v vs ih =>
    cases ns with
    | nil => cases h
    | cons n ns =>
      cases h with
      | cons h hs =>
        cases h with
        | int i t => exact .cons n t (ih hs)

/-! ### the surroundings -/

noncomputable def myDefs : List DefRec := PySem.Challenge.pw_nn0262_01.main.body.filterMap fun st => match st with
  | .FunctionDef name args body _ _ _ scope _ _ pos => some ⟨name, args, body, scope, pos⟩
  | _ => none

structure GE where
  prog : Program
  w : World
  p : Program
  loose : List Str
  mean : ExcName → Option Value
  mg : Str → Option Value
  mb : Str → Option Value
  h₀ : Heap
  top : Top p loose mean mg mb h₀
  nob : ∀ x ∈ (["abs", "len", "max", "range", "list", "sorted", "reversed", "enumerate", "sum"] : List Str), mg x = none
  fns : ∀ d ∈ myDefs, d ∈ recsOf p

abbrev intK (G : GE) : KeyKind G.prog G.w Int := intKind G.prog G.w
abbrev tupK (G : GE) : HeapKind G.prog G.w (List Int) := tupleKind (intK G)

noncomputable def ContAt (G : GE) (look : Lk) (h : Heap) (a : Addr) : Cont → Prop
  | .lst l => ∃ items n, h.get? a = some { cls := .type "list", dict := none, data := .seq items n, slots := #[] } ∧ Reps look items.toList l
  | .met l => (a == sysModules) = false ∧ ∃ xs, h.DictOfH (tupK G) a xs ∧ xs.map (fun x => x.1) = l.map (fun x => [x.1, x.2]) ∧ ∀ (i : Nat) (x : List Int × Addr × Value) (y : Int × Int), xs[i]? = some x → l[i]? = some y → PairAt look x.2.1 y ∧ x.2.2 = Value.bool true
  | .told l => (a == sysModules) = false ∧ ∃ xs, h.DictOfH (tupK G) a xs ∧ xs.map (fun x => x.1) = l.map (fun x => [x.1.1, x.1.2]) ∧ ∀ (i : Nat) (x : List Int × Addr × Value) (y : (Int × Int) × Int), xs[i]? = some x → l[i]? = some y → PairAt look x.2.1 y.1 ∧ ∃ t, x.2.2 = Value.int y.2 t
  | .draws g m => (a == sysModules) = false ∧ ∃ kvs : List (Str × Value), h.DictOf (strKind G.prog G.w) a kvs ∧ ∃ t u, kvs = [(Str.ofString "great", .int g t), (Str.ofString "mixed", .int m u)]

noncomputable def vget : List (Str × PV) → Str → Option PV
  | [], _ => none
  | (y, v) :: r, x => if y == x then some v else vget r x
noncomputable def vset : List (Str × PV) → Str → PV → List (Str × PV)
  | [], x, v => [(x, v)]
  | (y, u) :: r, x, v => if y == x then (y, v) :: r else (y, u) :: vset r x v
theorem vget_vset (l : List (Str × PV)) (x y : Str) (v : PV) : vget (vset l x v) y = if x = y then some v else vget l y := by
  induction l with
  | nil => by_cases h : x = y <;> simp [vset, vget, h]
  | cons p r ih =>
    obtain ⟨z, u⟩ := p
    by_cases hz : z = x
    · subst hz
      by_cases h : z = y <;> simp [vset, vget, h]
    · by_cases h : z = y
      · subst h
        have : ¬ x = z := fun e => hz e.symm
        simp [vset, vget, hz, this]
      · simp [vset, vget, hz, h, ih]

structure Store where
  vs : List (Str × PV)
  cel : List (Addr × Cont) := []
noncomputable def Store.var (S : Store) (x : Str) : Option PV := vget S.vs x
noncomputable def Store.set (S : Store) (x : Str) (v : PV) : Store := { S with vs := vset S.vs x v }
theorem Store.var_set (S : Store) (x y : Str) (v : PV) : (S.set x v).var y = if x = y then some v else S.var y := vget_vset _ _ _ _

structure Cx where
  G : GE
  A : Around
  env : Env
  s₀ : Shared
  /-- may the frame's cells be stored into -/
  wc : Bool := true

noncomputable def Free (base look : Lk) (a : Addr) : Prop := look a = none ∧ base a = none

/-- what is known of the state: `base` is kept as it is, `look` is frozen -/
structure St (C : Cx) (base : Lk) (S : Store) (look : Lk) (s : Shared) : Prop where
  same : ∃ h tk, s = { C.s₀ with heap := h, toks := tk }
  top : ∀ b o, C.G.h₀.get? b = some o → base b = some o
  keep : ∀ b o, base b = some o → s.heap.get? b = some o
  sub : ∀ b o, look b = some o → s.heap.get? b = some o
  vars : ∃ m, s.heap.Ns C.env.locals m ∧ ∀ x pv, S.var x = some pv → C.env.kindOf x = some .local → ∃ v, m x = some v ∧ Rep look v pv
  cellv : ∀ x c, C.env.cells.lookup x = some c → ∃ ov, s.heap.IsCell c ov ∧ (C.env.kindOf x ≠ some .local → ∀ pv, S.var x = some pv → ∃ v, ov = some v ∧ Rep look v pv)
  own : ∀ a k, (a, k) ∈ S.cel → ContAt C.G look s.heap a k
  nodup : (S.cel.map (·.1)).Nodup
  ownFree : ∀ a k, (a, k) ∈ S.cel → Free base look a ∧ a ≠ C.env.locals ∧ ∀ x c, C.env.cells.lookup x = some c → a ≠ c
  locFree : Free base look C.env.locals
  cellFree : C.wc = true → ∀ x c, C.env.cells.lookup x = some c → C.env.kindOf x = some .cell → Free base look c ∧ c ≠ C.env.locals ∧ ∀ y d, C.env.cells.lookup y = some d → c = d → x = y

/-- what holds of a context all the time -/
structure Cx.Ok (C : Cx) (k : Nat) : Prop where
  kind : C.env.scope.kind = .function
  glob : C.env.globals = mainGlobals
  bltn : C.env.builtins = builtinsNs
  hand : C.A.handled = none
  depth : C.A.depth + k ≤ 900
  units : C.A.units + 16 * k ≤ 9000

/-- the frozen part grows, never inside the base -/
noncomputable def Ext (base a b : Lk) : Prop := Le a b ∧ ∀ x o, b x = some o → a x = some o ∨ base x = none
theorem Ext.refl (base a : Lk) : Ext base a a := ⟨Le.refl a, fun _ _ e => .inl e⟩
theorem Ext.trans {base a b c : Lk} (h : Ext base a b) (k : Ext base b c) : Ext base a c :=
  ⟨h.1.trans k.1, fun x o e => (k.2 x o e).elim (fun e' => h.2 x o e') .inr⟩

noncomputable def Post (C : Cx) (base look : Lk) (K : PV → Store → Prop) : Value → Shared → Prop := fun v s' =>
  ∃ pv S' look', K pv S' ∧ Ext base look look' ∧ St C base S' look' s' ∧ Rep look' v pv
noncomputable def NoE : Value → Shared → Prop := fun _ _ => False

structure wpE (C : Cx) (e : Expr) (K : PV → Store → Prop) (S : Store) : Prop where
  run : ∀ s look base, St C base S look s → wpAny (model C.G.prog C.G.w) C.A (eval e C.env) (Post C base look K) NoE s

noncomputable def PostL (C : Cx) (base look : Lk) (K : List PV → Store → Prop) : List Value → Shared → Prop := fun vs s' =>
  ∃ pvs S' look', K pvs S' ∧ Ext base look look' ∧ St C base S' look' s' ∧ Reps look' vs pvs
structure wpL (C : Cx) (es : List Expr) (K : List PV → Store → Prop) (S : Store) : Prop where
  run : ∀ s look base pos, St C base S look s → wpAny (model C.G.prog C.G.w) C.A (spliced (backTo pos (starEach es C.env))) (PostL C base look K) NoE s

noncomputable def PostB (C : Cx) (base look : Lk) (K : Bool → Store → Prop) : Bool → Shared → Prop := fun b s' =>
  ∃ S' look', K b S' ∧ Ext base look look' ∧ St C base S' look' s'
structure wpT (C : Cx) (e : Expr) (K : Bool → Store → Prop) (S : Store) : Prop where
  run : ∀ s look base, St C base S look s → wpAny (model C.G.prog C.G.w) C.A (isTrue e C.env (eval e C.env)) (PostB C base look K) NoE s

inductive Fl where
  | next | brk | cont | ret (v : PV)
noncomputable def FlRep (look : Lk) : Flow → Fl → Prop
  | .next, .next => True
  | .brk, .brk => True
  | .cont, .cont => True
  | .ret v, .ret p => Rep look v p
  | _, _ => False
noncomputable def PostF (C : Cx) (base look : Lk) (K : Fl → Store → Prop) : Flow → Shared → Prop := fun f s' =>
  ∃ fl S' look', K fl S' ∧ Ext base look look' ∧ St C base S' look' s' ∧ FlRep look' f fl
structure wpX (C : Cx) (st : Stmt) (K : Fl → Store → Prop) (S : Store) : Prop where
  run : ∀ s look base, St C base S look s → wpAny (model C.G.prog C.G.w) C.A (exec st C.env) (PostF C base look K) NoE s
structure wpB (C : Cx) (sts : List Stmt) (K : Fl → Store → Prop) (S : Store) : Prop where
  run : ∀ s look base, St C base S look s → wpAny (model C.G.prog C.G.w) C.A (execs sts C.env) (PostF C base look K) NoE s

/-! ### the state moves -/

section
variable {C : Cx} {base : Lk} {S : Store} {look : Lk} {s : Shared}

theorem St.tok (h : St C base S look s) (t : Nat) : St C base S look { s with toks := t } :=
  ⟨let ⟨h', tk, e⟩ := h.same; ⟨h', t, by rw [e]⟩, h.top, h.keep, h.sub, h.vars, h.cellv, h.own, h.nodup, h.ownFree, h.locFree, h.cellFree⟩

theorem St.lookFresh (h : St C base S look s) : look s.heap.objs.size = none := by
  cases e : look s.heap.objs.size with
  | none => rfl
  | some o => exact absurd (Heap.lt_size (h.sub _ _ e)) (Nat.lt_irrefl _)
theorem St.baseFresh (h : St C base S look s) : base s.heap.objs.size = none := by
  cases e : base s.heap.objs.size with
  | none => rfl
  | some o => exact absurd (Heap.lt_size (h.keep _ _ e)) (Nat.lt_irrefl _)
theorem St.locLt (h : St C base S look s) : C.env.locals < s.heap.objs.size := let ⟨_, n, _⟩ := h.vars; n.lt

theorem DictOfH_keeps {G : GE} {h h' : Heap} {d : Addr} {xs : List (List Int × Addr × Value)} (x : h.DictOfH (tupK G) d xs) (hd : ∀ o, h.get? d = some o → h'.get? d = some o)
    (hk : ∀ y ∈ xs, ∀ o, h.get? y.2.1 = some o → h'.get? y.2.1 = some o) : h'.DictOfH (tupK G) d xs := by
  obtain ⟨o, es, ep, ho, he, hdt, hes, hm, hn⟩ := x
  refine ⟨o, es, ep, hd _ ho, he, hdt, hes, fun y hy => ?_, hn⟩
  obtain ⟨o', items, n, ho', r⟩ := hm y hy
  exact ⟨o', items, n, hk y hy _ ho', r⟩

theorem PairAt.ref {look : Lk} {a : Addr} {y : Int × Int} (h : PairAt look a y) : ∃ o, look a = some o := let ⟨_, _, _, e⟩ := h; ⟨_, e⟩

theorem ContAt.keeps {G : GE} {look look' : Lk} {h h' : Heap} {a : Addr} {c : Cont} (x : ContAt G look h a c) (hl : Le look look') (hs : ∀ b o, look b = some o → h.get? b = some o)
    (ha : ∀ o, h.get? a = some o → h'.get? a = some o) (hk : ∀ b o, look b = some o → h'.get? b = some o) : ContAt G look' h' a c := by
  cases c with
  | lst l => obtain ⟨items, n, e, r⟩ := x; exact ⟨items, n, ha _ e, r.mono hl⟩
  | met l =>
    obtain ⟨q, xs, hx, hl', hr⟩ := x
    refine ⟨q, xs, DictOfH_keeps hx ha fun y hy o e => ?_, hl', fun i x y e1 e2 => ⟨(hr i x y e1 e2).1.mono hl, (hr i x y e1 e2).2⟩⟩
    obtain ⟨i, hi⟩ := List.mem_iff_getElem?.mp hy
    have hlen : xs.length = l.length := by simpa using congrArg List.length hl'
    obtain ⟨z, hz⟩ : ∃ z, l[i]? = some z := ⟨l[i]'(by rw [← hlen]; exact (List.getElem?_eq_some_iff.mp hi).1), List.getElem?_eq_getElem _⟩
    obtain ⟨o', ho'⟩ := (hr i y z hi hz).1.ref
    rw [hs _ _ ho'] at e; cases e
    exact hk _ _ ho'
  | told l =>
    obtain ⟨q, xs, hx, hl', hr⟩ := x
    refine ⟨q, xs, DictOfH_keeps hx ha fun y hy o e => ?_, hl', fun i x y e1 e2 => ⟨(hr i x y e1 e2).1.mono hl, (hr i x y e1 e2).2⟩⟩
    obtain ⟨i, hi⟩ := List.mem_iff_getElem?.mp hy
    have hlen : xs.length = l.length := by simpa using congrArg List.length hl'
    obtain ⟨z, hz⟩ : ∃ z, l[i]? = some z := ⟨l[i]'(by rw [← hlen]; exact (List.getElem?_eq_some_iff.mp hi).1), List.getElem?_eq_getElem _⟩
    obtain ⟨o', ho'⟩ := (hr i y z hi hz).1.ref
    rw [hs _ _ ho'] at e; cases e
    exact hk _ _ ho'
  | draws g m =>
    obtain ⟨q, kvs, ⟨o, es, ep, ho, r⟩, hx⟩ := x
    exact ⟨q, kvs, ⟨o, es, ep, ha _ ho, r⟩, hx⟩

theorem ContAt.some {G : GE} {look : Lk} {h : Heap} {a : Addr} {k : Cont} (x : ContAt G look h a k) : ∃ o, h.get? a = some o := by
  cases k with
  | lst l => obtain ⟨_, _, e, _⟩ := x; exact ⟨_, e⟩
  | met l => obtain ⟨_, _, ⟨o, _, _, ho, _⟩, _⟩ := x; exact ⟨o, ho⟩
  | told l => obtain ⟨_, _, ⟨o, _, _, ho, _⟩, _⟩ := x; exact ⟨o, ho⟩
  | draws l => obtain ⟨_, _, ⟨o, _, _, ho, _⟩, _⟩ := x; exact ⟨o, ho⟩

/-- the heap grows; nothing that stood is lost -/
theorem St.move (h : St C base S look s) (wr : List Addr) (w1 : ∀ b ∈ wr, base b = none) (w2 : ∀ b ∈ wr, look b = none) (w4 : ∀ a k, (a, k) ∈ S.cel → a ∉ wr)
    (w5 : ∀ x c, C.env.cells.lookup x = some c → c ∉ wr) {h' : Heap} {tk : Nat} {look' : Lk} (hns : ∀ m, s.heap.Ns C.env.locals m → h'.Ns C.env.locals m) (hk' : ∀ b o, b ≠ C.env.locals → b ∉ wr → s.heap.get? b = some o → h'.get? b = some o) (hl : Le look look')
    (hs : ∀ b o, look' b = some o → h'.get? b = some o) (hn : ∀ b o, look' b = some o → (∃ o', look b = some o') ∨ s.heap.get? b = none) : St C base S look' { s with heap := h', toks := tk } := by
  have hk : ∀ b o, (look b = some o ∨ base b = some o) → s.heap.get? b = some o → h'.get? b = some o := fun b o q e => by
    refine hk' b o ?_ ?_ e
    · rcases q with q | q
      · rintro rfl; rw [h.locFree.1] at q; cases q
      · rintro rfl; rw [h.locFree.2] at q; cases q
    · rcases q with q | q
      · intro w; rw [w2 b w] at q; cases q
      · intro w; rw [w1 b w] at q; cases q
  have nl : ∀ {a}, look a = none → (∃ o, s.heap.get? a = some o) → look' a = none := fun {a} e ⟨o, ho⟩ => by
    cases q : look' a with
    | none => rfl
    | some o' =>
      rcases hn a o' q with ⟨o'', h2⟩ | h2
      · rw [e] at h2; cases h2
      · rw [ho] at h2; cases h2
  refine ⟨?_, h.top, fun b o e => hk b o (.inr e) (h.keep b o e), hs, ?_, ?_, ?_, h.nodup, ?_, ?_, ?_⟩
  · obtain ⟨h₁, tk₁, e⟩ := h.same; exact ⟨h', tk, by rw [e]⟩
  · obtain ⟨m, hn, hv⟩ := h.vars
    exact ⟨m, hns m hn, fun x pv e1 e2 => let ⟨v, e3, r⟩ := hv x pv e1 e2; ⟨v, e3, r.mono hl⟩⟩
  · intro x c e
    obtain ⟨ov, hc, hv⟩ := h.cellv x c e
    have hcl : c ≠ C.env.locals := by
      rintro rfl
      obtain ⟨m, ⟨o, es, ep, ho, hd, _⟩, _⟩ := h.vars
      obtain ⟨o', ho', hd'⟩ := hc
      rw [ho] at ho'; cases ho'
      rw [hd] at hd'; cases hd'
    exact ⟨ov, let ⟨o, ho, hd⟩ := hc; ⟨o, hk' c o hcl (w5 x c e) ho, hd⟩, fun nl pv e1 => let ⟨v, e3, r⟩ := hv nl pv e1; ⟨v, e3, r.mono hl⟩⟩
  · exact fun a k e => (h.own a k e).keeps hl h.sub (fun o q => hk' a o (h.ownFree a k e).2.1 (w4 a k e) q) fun b o q => hk _ _ (.inl q) (h.sub _ _ q)
  · intro a k e
    obtain ⟨⟨f1, f2⟩, r⟩ := h.ownFree a k e
    exact ⟨⟨nl f1 (h.own a k e).some, f2⟩, r⟩
  · exact ⟨nl h.locFree.1 (let ⟨_, n, _⟩ := h.vars; let ⟨o, _, _, ho, _⟩ := n; ⟨o, ho⟩), h.locFree.2⟩
  · intro wc x c e e2
    obtain ⟨⟨f1, f2⟩, r⟩ := h.cellFree wc x c e e2
    obtain ⟨ov, ⟨o, ho, _⟩, _⟩ := h.cellv x c e
    exact ⟨⟨nl f1 ⟨o, ho⟩, f2⟩, r⟩

theorem St.grow2 (h : St C base S look s) {h' : Heap} {tk : Nat} {look' : Lk} (hns : ∀ m, s.heap.Ns C.env.locals m → h'.Ns C.env.locals m) (hk' : ∀ b o, b ≠ C.env.locals → s.heap.get? b = some o → h'.get? b = some o) (hl : Le look look')
    (hs : ∀ b o, look' b = some o → h'.get? b = some o) (hn : ∀ b o, look' b = some o → (∃ o', look b = some o') ∨ s.heap.get? b = none) : St C base S look' { s with heap := h', toks := tk } :=
  h.move [] (fun _ q => nomatch q) (fun _ q => nomatch q) (fun _ _ _ q => nomatch q) (fun _ _ _ q => nomatch q) hns (fun b o h1 _ e => hk' b o h1 e) hl hs hn

theorem St.grow (h : St C base S look s) {h' : Heap} {tk : Nat} {look' : Lk} (hk : ∀ b o, s.heap.get? b = some o → h'.get? b = some o) (hl : Le look look')
    (hs : ∀ b o, look' b = some o → h'.get? b = some o) (hn : ∀ b o, look' b = some o → (∃ o', look b = some o') ∨ s.heap.get? b = none) : St C base S look' { s with heap := h', toks := tk } :=
  h.grow2 (fun _ n => n.keeps hk) (fun b o _ e => hk b o e) hl hs hn

/-- a new object, frozen at once -/
theorem St.push (h : St C base S look s) (o : Obj) (hf : o.isFreed = false) {tk : Nat} :
    St C base S (fun b => if b = s.heap.objs.size then some o else look b) { s with heap := s.heap.push o, toks := tk } ∧ Ext base look (fun b => if b = s.heap.objs.size then some o else look b) := by
  have le : Le look (fun b => if b = s.heap.objs.size then some o else look b) := fun b o' e => by
    show (if b = s.heap.objs.size then some o else look b) = some o'
    rw [if_neg, e]
    rintro rfl
    rw [h.lookFresh] at e; cases e
  have fr : s.heap.get? s.heap.objs.size = none := by
    cases e : s.heap.get? s.heap.objs.size with
    | none => rfl
    | some o => exact absurd (Heap.lt_size e) (Nat.lt_irrefl _)
  refine ⟨h.grow (fun b o' e => Heap.get?_push_of_some _ e) le (fun b o' e => ?_) (fun b o' e => ?_), le, fun b o' e => ?_⟩
  · by_cases hb : b = s.heap.objs.size
    · subst hb; simp at e; subst e; exact Heap.get?_push_size _ hf
    · simp [hb] at e; exact Heap.get?_push_of_some _ (h.sub _ _ e)
  · by_cases hb : b = s.heap.objs.size
    · subst hb; exact .inr fr
    · simp [hb] at e; exact .inl ⟨_, e⟩
  · by_cases hb : b = s.heap.objs.size
    · subst hb; exact .inr h.baseFresh
    · simp [hb] at e; exact .inl e

/-- a new object that nobody looks at -/
theorem St.pushDrop (h : St C base S look s) (o : Obj) {tk : Nat} : St C base S look { s with heap := s.heap.push o, toks := tk } :=
  h.grow (fun _ _ e => Heap.get?_push_of_some _ e) (Le.refl _) (fun _ _ e => Heap.get?_push_of_some _ (h.sub _ _ e)) fun _ _ e => .inl ⟨_, e⟩

theorem St.ownSome (h : St C base S look s) {a : Addr} {k : Cont} (e : (a, k) ∈ S.cel) : ∃ o, s.heap.get? a = some o := (h.own a k e).some

/-- a new object, owned -/
theorem St.own1 (h : St C base S look s) (o : Obj) (k : Cont) {tk : Nat} (hc : ContAt C.G look (s.heap.push o) s.heap.objs.size k) :
    St C base { S with cel := (s.heap.objs.size, k) :: S.cel } look { s with heap := s.heap.push o, toks := tk } := by
  have g := h.pushDrop o (tk := tk)
  have lt : ∀ {a o}, s.heap.get? a = some o → a ≠ s.heap.objs.size := fun e q => by subst q; exact absurd (Heap.lt_size e) (Nat.lt_irrefl _)
  refine ⟨g.same, g.top, g.keep, g.sub, g.vars, g.cellv, ?_, ?_, ?_, g.locFree, g.cellFree⟩
  · intro a k' e
    rcases List.mem_cons.mp e with e | e
    · cases e; exact hc
    · exact g.own a k' e
  · rw [List.map_cons, List.nodup_cons]
    refine ⟨fun q => ?_, h.nodup⟩
    obtain ⟨⟨a, k'⟩, hm, rfl⟩ := List.mem_map.mp q
    obtain ⟨o', ho'⟩ := h.ownSome hm
    exact lt ho' rfl
  · intro a k' e
    rcases List.mem_cons.mp e with e | e
    · cases e
      refine ⟨⟨h.lookFresh, h.baseFresh⟩, fun q => Nat.lt_irrefl _ (q ▸ h.locLt), fun x c hx q => ?_⟩
      obtain ⟨ov, ⟨o', ho', _⟩, _⟩ := h.cellv x c hx
      exact lt ho' q.symm
    · exact h.ownFree a k' e

/-- fewer owned objects -/
theorem St.drop (h : St C base S look s) (cel : List (Addr × Cont)) (hs : cel.Sublist S.cel) : St C base { S with cel := cel } look s :=
  ⟨h.same, h.top, h.keep, h.sub, h.vars, h.cellv, fun a k e => h.own a k (hs.subset e), h.nodup.sublist (hs.map _), fun a k e => h.ownFree a k (hs.subset e), h.locFree, h.cellFree⟩
/-- fewer known variables -/
theorem St.forget (h : St C base S look s) (vs : List (Str × PV)) (hs : ∀ x pv, vget vs x = some pv → S.var x = some pv) : St C base { S with vs := vs } look s :=
  ⟨h.same, h.top, h.keep, h.sub, let ⟨m, n, v⟩ := h.vars; ⟨m, n, fun x pv e1 e2 => v x pv (hs x pv e1) e2⟩,
    fun x c e => let ⟨ov, a, b⟩ := h.cellv x c e; ⟨ov, a, fun nl pv e1 => b nl pv (hs x pv e1)⟩, h.own, h.nodup, h.ownFree, h.locFree, h.cellFree⟩
end

end Mine
end

section
open PySem PySem.W PyProof.Rows
set_option maxRecDepth 100000
set_option linter.unusedVariables false

namespace Mine
variable {C : Cx} {S : Store} {base : Lk}

theorem if_yes {c : Bool} {A B : Prop} (h : c = true) (x : A) : if c = true then A else B := (if_pos h).symm ▸ x
theorem if_no {c : Bool} {A B : Prop} (h : c = false) (x : B) : if c = true then A else B := (if_neg (h ▸ Bool.false_ne_true)).symm ▸ x
/-! ### weakening -/
theorem Post.mono {look : Lk} {K K' : PV → Store → Prop} (h : ∀ p S, K p S → K' p S) {v : Value} {s : Shared} (x : Post C base look K v s) : Post C base look K' v s :=
  let ⟨p, S', l', k, r⟩ := x; ⟨p, S', l', h _ _ k, r⟩
theorem wpE.mono {e : Expr} {K K' : PV → Store → Prop} (x : wpE C e K S) (h : ∀ p S, K p S → K' p S) : wpE C e K' S :=
  .mk fun s look base hs => wpAny_mono (x.run s look base hs) (fun _ _ q => q.mono h) fun _ _ q => q
theorem wpT.mono {e : Expr} {K K' : Bool → Store → Prop} (x : wpT C e K S) (h : ∀ p S, K p S → K' p S) : wpT C e K' S :=
  .mk fun s look base hs => wpAny_mono (x.run s look base hs) (fun _ _ ⟨S', l', k, r⟩ => ⟨S', l', h _ _ k, r⟩) fun _ _ q => q
theorem wpL.mono {e : List Expr} {K K' : List PV → Store → Prop} (x : wpL C e K S) (h : ∀ p S, K p S → K' p S) : wpL C e K' S :=
  .mk fun s look base pos hs => wpAny_mono (x.run s look base pos hs) (fun _ _ ⟨p, S', l', k, r⟩ => ⟨p, S', l', h _ _ k, r⟩) fun _ _ q => q
theorem wpX.mono {e : Stmt} {K K' : Fl → Store → Prop} (x : wpX C e K S) (h : ∀ p S, K p S → K' p S) : wpX C e K' S :=
  .mk fun s look base hs => wpAny_mono (x.run s look base hs) (fun _ _ ⟨p, S', l', k, r⟩ => ⟨p, S', l', h _ _ k, r⟩) fun _ _ q => q
theorem wpB.mono {e : List Stmt} {K K' : Fl → Store → Prop} (x : wpB C e K S) (h : ∀ p S, K p S → K' p S) : wpB C e K' S :=
  .mk fun s look base hs => wpAny_mono (x.run s look base hs) (fun _ _ ⟨p, S', l', k, r⟩ => ⟨p, S', l', h _ _ k, r⟩) fun _ _ q => q

theorem Post.intro {look look' : Lk} {K : PV → Store → Prop} {v : Value} {s : Shared} {p : PV} {S' : Store} (k : K p S') (hl : Ext base look look') (hs : St C base S' look' s) (r : Rep look' v p) : Post C base look K v s := ⟨p, S', look', k, hl, hs, r⟩
theorem Post.le {look look' : Lk} (hl : Ext base look look') {K : PV → Store → Prop} {v : Value} {s : Shared} (x : Post C base look' K v s) : Post C base look K v s :=
  let ⟨p, S', l', k, h, r⟩ := x; ⟨p, S', l', k, hl.trans h, r⟩

/-! ### constants, names -/
theorem e_int {i : Int} {k : Nat} {pos : Pos} {K : PV → Store → Prop} (h : K (.int i) S) : wpE C (.Constant (.int i) k pos) K S :=
  .mk fun s look base hs => wpAny_Constant_int ⟨_, S, look, h, Ext.refl _ _, hs.tok _, .int _ _⟩
theorem e_bool {b : Bool} {k : Nat} {pos : Pos} {K : PV → Store → Prop} (h : K (.bool b) S) : wpE C (.Constant (.bool b) k pos) K S :=
  .mk fun s look base hs => wpAny_Constant_bool ⟨_, S, look, h, Ext.refl _ _, hs, .bool _⟩
theorem e_none {k : Nat} {pos : Pos} {K : PV → Store → Prop} (h : K .none S) : wpE C (.Constant .none k pos) K S :=
  .mk fun s look base hs => wpAny_Constant_none ⟨_, S, look, h, Ext.refl _ _, hs, .none⟩
theorem e_str {x : Str} {k : Nat} {pos : Pos} {K : PV → Store → Prop} (h : K (.str x) S) : wpE C (.Constant (.str x) k pos) K S :=
  .mk fun s look base hs => wpAny_Constant_str ⟨_, S, look, h, Ext.refl _ _, hs.tok _, .str _ _⟩

theorem load_local {n : Nat} (ok : C.Ok n) {x : Str} {pv : PV} {look : Lk} {s : Shared} (hs : St C base S look s) (hv : S.var x = some pv) (hx : C.env.kindOf x = some .local)
    {Q : Value → Shared → Prop} (h : ∀ v, Rep look v pv → Q v s) : wpAny (model C.G.prog C.G.w) C.A (loadName C.env x) Q NoE s := by
  obtain ⟨m, hn, hm⟩ := hs.vars
  obtain ⟨v, e, r⟩ := hm x pv hv hx
  exact wpAny_loadName_local ok.kind hx hn e (h v r)
theorem load_cell {n : Nat} (ok : C.Ok n) {x : Str} {c : Addr} {pv : PV} {look : Lk} {s : Shared} (hs : St C base S look s) (hv : S.var x = some pv) (hx : C.env.kindOf x = some .cell) (hc : C.env.cells.lookup x = some c)
    {Q : Value → Shared → Prop} (h : ∀ v, Rep look v pv → Q v s) : wpAny (model C.G.prog C.G.w) C.A (loadName C.env x) Q NoE s := by
  obtain ⟨ov, hcell, hm⟩ := hs.cellv x c hc
  obtain ⟨v, e, r⟩ := hm (by rw [hx]; simp) pv hv
  subst e
  exact wpAny_loadName_cell ok.kind hx hc hcell (h v r)
theorem load_free {n : Nat} (ok : C.Ok n) {x : Str} {c : Addr} {pv : PV} {look : Lk} {s : Shared} (hs : St C base S look s) (hv : S.var x = some pv) (hx : C.env.kindOf x = some .free) (hc : C.env.cells.lookup x = some c)
    (hd : (x == ("__classdict__" : Str)) = false) {Q : Value → Shared → Prop} (h : ∀ v, Rep look v pv → Q v s) : wpAny (model C.G.prog C.G.w) C.A (loadName C.env x) Q NoE s := by
  obtain ⟨ov, hcell, hm⟩ := hs.cellv x c hc
  obtain ⟨v, e, r⟩ := hm (by rw [hx]; simp) pv hv
  subst e
  exact wpAny_loadName_free ok.kind hx hc hcell (h v r) hd

/-- how a name of the frame is read -/
inductive Reads1 (C : Cx) (x : Str) : Prop
  | loc (h : C.env.kindOf x = some .local)
  | cell (c : Addr) (h : C.env.kindOf x = some .cell) (hc : C.env.cells.lookup x = some c)
  | free (c : Addr) (h : C.env.kindOf x = some .free) (hc : C.env.cells.lookup x = some c) (hd : (x == ("__classdict__" : Str)) = false)
theorem load_var {n : Nat} (ok : C.Ok n) {x : Str} {pv : PV} {look : Lk} {s : Shared} (hs : St C base S look s) (hv : S.var x = some pv) (hx : Reads1 C x)
    {Q : Value → Shared → Prop} (h : ∀ v, Rep look v pv → Q v s) : wpAny (model C.G.prog C.G.w) C.A (loadName C.env x) Q NoE s := by
  cases hx with
  | loc h1 => exact load_local ok hs hv h1 h
  | cell c h1 h2 => exact load_cell ok hs hv h1 h2 h
  | free c h1 h2 h3 => exact load_free ok hs hv h1 h2 h3 h
theorem e_var {n : Nat} (ok : C.Ok n) {x : Str} {pos : Pos} {pv : PV} {K : PV → Store → Prop} (hx : Reads1 C x) (hd : (x == ("__debug__" : Str)) = false) (hv : S.var x = some pv) (h : K pv S) : wpE C (.Name x pos) K S :=
  .mk fun s look base hs => wpAny_Name (load_var ok hs hv hx fun v r => ⟨pv, S, look, h, Ext.refl _ _, hs, r⟩) hd

/-! ### operators -/
noncomputable def OpPost (C : Cx) (base : Lk) (S : Store) (look : Lk) (c : PV) : Value → Shared → Prop := fun r s' => ∃ look', Ext base look look' ∧ St C base S look' s' ∧ Rep look' r c
structure BinOk (C : Cx) (S : Store) (op : Operator) (a b c : PV) : Prop where
  run : ∀ s look base v u, St C base S look s → Rep look v a → Rep look u b → wpAny (model C.G.prog C.G.w) C.A (binaryOp op v u) (OpPost C base S look c) NoE s
structure CmpOk (C : Cx) (S : Store) (op : CmpOp) (a b : PV) (c : Bool) : Prop where
  run : ∀ s look base v u, St C base S look s → Rep look v a → Rep look u b → wpAny (model C.G.prog C.G.w) C.A (compareOp op v u) (fun r s' => r = .bool c ∧ ∃ look', Ext base look look' ∧ St C base S look' s') NoE s

theorem OpPost.post {look look₀ : Lk} {c : PV} {K : PV → Store → Prop} {v : Value} {s : Shared} (hl : Ext base look₀ look) (k : K c S) (x : OpPost C base S look c v s) : Post C base look₀ K v s :=
  let ⟨l', h1, h2, h3⟩ := x; ⟨c, S, l', k, hl.trans h1, h2, h3⟩

abbrev KBin2 (C : Cx) (op : Operator) (a : PV) (K : PV → Store → Prop) : PV → Store → Prop := fun b S2 => ∃ c, BinOk C S2 op a b c ∧ K c S2
abbrev KBin (C : Cx) (r : Expr) (op : Operator) (K : PV → Store → Prop) : PV → Store → Prop := fun a S1 => wpE C r (KBin2 C op a K) S1
abbrev KCmp2 (C : Cx) (op : CmpOp) (a : PV) (K : PV → Store → Prop) : PV → Store → Prop := fun b S2 => ∃ c, CmpOk C S2 op a b c ∧ K (.bool c) S2
abbrev KCmp (C : Cx) (r : Expr) (op : CmpOp) (K : PV → Store → Prop) : PV → Store → Prop := fun a S1 => wpE C r (KCmp2 C op a K) S1
abbrev KCmpT2 (C : Cx) (op : CmpOp) (a : PV) (K : Bool → Store → Prop) : PV → Store → Prop := fun b S2 => ∃ c, CmpOk C S2 op a b c ∧ K c S2
abbrev KCmpT (C : Cx) (r : Expr) (op : CmpOp) (K : Bool → Store → Prop) : PV → Store → Prop := fun a S1 => wpE C r (KCmpT2 C op a K) S1
theorem e_bin {l r : Expr} {op : Operator} {pos : Pos} {K : PV → Store → Prop}
    (h : wpE C l (KBin C r op K) S) : wpE C (.BinOp l op r pos) K S := by
  refine .mk fun s look base hs => ?_
  refine wpAny_BinOp (wpAny_mono (h.run s look base hs) ?_ fun _ _ x => x)
  rintro v s1 ⟨a, S1, l1, k1, le1, st1, r1⟩
  refine wpAny_mono (k1.run s1 l1 base st1) ?_ fun _ _ x => x
  rintro u s2 ⟨b, S2, l2, ⟨c, ok, k⟩, le2, st2, r2⟩
  exact wpAny_mono (ok.run s2 l2 base v u st2 (r1.mono le2.1) r2) (fun _ _ x => x.post (le1.trans le2) k) fun _ _ x => x
theorem e_cmp {l r : Expr} {op : CmpOp} {pos : Pos} {K : PV → Store → Prop} (hm : behindInMarks op r = false)
    (h : wpE C l (KCmp C r op K) S) : wpE C (.Compare l [op] [r] pos) K S := by
  refine .mk fun s look base hs => ?_
  refine wpAny_Compare1 (wpAny_mono (h.run s look base hs) ?_ fun _ _ x => x) hm
  rintro v s1 ⟨a, S1, l1, k1, le1, st1, r1⟩
  refine wpAny_mono (k1.run s1 l1 base st1) ?_ fun _ _ x => x
  rintro u s2 ⟨b, S2, l2, ⟨c, ok, k⟩, le2, st2, r2⟩
  refine wpAny_mono (ok.run s2 l2 base v u st2 (r1.mono le2.1) r2) ?_ fun _ _ x => x
  rintro _ s3 ⟨rfl, l3, le3, st3⟩
  exact ⟨.bool c, S2, l3, k, le1.trans (le2.trans le3), st3, .bool c⟩
theorem t_cmp {l r : Expr} {op : CmpOp} {pos : Pos} {K : Bool → Store → Prop} (hm : behindInMarks op r = false)
    (h : wpE C l (KCmpT C r op K) S) : wpT C (.Compare l [op] [r] pos) K S := by
  refine .mk fun s look base hs => ?_
  refine wpAny_isTrue_Compare1 (wpAny_mono (h.run s look base hs) ?_ fun _ _ x => x) hm
  rintro v s1 ⟨a, S1, l1, k1, le1, st1, r1⟩
  refine wpAny_mono (k1.run s1 l1 base st1) ?_ fun _ _ x => x
  rintro u s2 ⟨b, S2, l2, ⟨c, ok, k⟩, le2, st2, r2⟩
  refine wpAny_mono (ok.run s2 l2 base v u st2 (r1.mono le2.1) r2) ?_ fun _ _ x => x
  rintro _ s3 ⟨rfl, l3, le3, st3⟩
  exact wpAny_truthy_bool ⟨S2, l3, k, le1.trans (le2.trans le3), st3⟩
theorem t_and {x y : Expr} {pos : Pos} {K : Bool → Store → Prop}
    (h : wpT C x (fun a S1 => if a then wpT C y K S1 else K false S1) S) : wpT C (.BoolOp .And [x, y] pos) K S := by
  refine .mk fun s look base hs => ?_
  refine wpAny_isTrue_BoolOp (wpAny_allTrue_And_cons (wpAny_mono (h.run s look base hs) ?_ fun _ _ x => x))
  rintro b s1 ⟨S1, l1, k1, le1, st1⟩
  cases b with
  | false => exact ⟨S1, l1, by simpa using k1, le1, st1⟩
  | true =>
    simp only [if_true] at k1 ⊢
    refine wpAny_allTrue_And_cons (wpAny_mono (k1.run s1 l1 base st1) ?_ fun _ _ x => x)
    rintro b s2 ⟨S2, l2, k2, le2, st2⟩
    cases b with
    | false => exact ⟨S2, l2, k2, le1.trans le2, st2⟩
    | true => exact wpAny_allTrue_And_nil ⟨S2, l2, k2, le1.trans le2, st2⟩
theorem t_or {x y : Expr} {pos : Pos} {K : Bool → Store → Prop}
    (h : wpT C x (fun a S1 => if a then K true S1 else wpT C y K S1) S) : wpT C (.BoolOp .Or [x, y] pos) K S := by
  refine .mk fun s look base hs => ?_
  refine wpAny_isTrue_BoolOp (wpAny_allTrue_Or_cons (wpAny_mono (h.run s look base hs) ?_ fun _ _ x => x))
  rintro b s1 ⟨S1, l1, k1, le1, st1⟩
  cases b with
  | true => exact ⟨S1, l1, by simpa using k1, le1, st1⟩
  | false =>
    simp only [Bool.false_eq_true, if_false] at k1 ⊢
    refine wpAny_allTrue_Or_cons (wpAny_mono (k1.run s1 l1 base st1) ?_ fun _ _ x => x)
    rintro b s2 ⟨S2, l2, k2, le2, st2⟩
    cases b with
    | true => exact ⟨S2, l2, k2, le1.trans le2, st2⟩
    | false => exact wpAny_allTrue_Or_nil ⟨S2, l2, k2, le1.trans le2, st2⟩
theorem e_ifexp {t b o : Expr} {pos : Pos} {K : PV → Store → Prop}
    (h : wpT C t (fun a S1 => if a then wpE C b K S1 else wpE C o K S1) S) : wpE C (.IfExp t b o pos) K S := by
  refine .mk fun s look base hs => ?_
  refine wpAny_IfExp (wpAny_mono (h.run s look base hs) ?_ fun _ _ x => x)
  rintro a s1 ⟨S1, l1, k1, le1, st1⟩
  cases a with
  | true => exact wpAny_mono ((by simpa using k1 : wpE C b K S1).run s1 l1 base st1) (fun _ _ x => x.le le1) fun _ _ x => x
  | false => exact wpAny_mono ((by simpa using k1 : wpE C o K S1).run s1 l1 base st1) (fun _ _ x => x.le le1) fun _ _ x => x
theorem e_and_bool {x y : Expr} {pos : Pos} {K : PV → Store → Prop}
    (h : wpE C x (fun a S1 => ∃ b, a = .bool b ∧ if b then wpE C y K S1 else K (.bool false) S1) S) : wpE C (.BoolOp .And [x, y] pos) K S := by
  refine .mk fun s look base hs => ?_
  refine wpAny_And2 (wpAny_mono (h.run s look base hs) ?_ fun _ _ x => x)
  rintro v s1 ⟨a, S1, l1, ⟨b, rfl, k1⟩, le1, st1, r1⟩
  cases r1
  refine wpAny_truthy_bool ?_
  cases b with
  | true => exact wpAny_mono ((by simpa using k1 : wpE C y K S1).run s1 l1 base st1) (fun _ _ x => x.le le1) fun _ _ x => x
  | false => exact ⟨.bool false, S1, l1, by simpa using k1, le1, st1, .bool _⟩

/-! instances -/
theorem bin_tok {op : Operator} {a b : PV} {c : PV} (h : ∀ s look base v u, St C base S look s → Rep look v a → Rep look u b → ∀ Q : Value → Shared → Prop, (∀ r t, (∀ look, Rep look r c) → Q r { s with toks := t }) → wpAny (model C.G.prog C.G.w) C.A (binaryOp op v u) Q NoE s) : BinOk C S op a b c :=
  .mk fun s look base v u hs ha hb => h s look base v u hs ha hb _ fun r t hr => ⟨look, Ext.refl _ _, hs.tok t, hr look⟩
theorem bin_add {i j : Int} : BinOk C S .Add (.int i) (.int j) (.int (i + j)) := bin_tok fun s look base v u hs ha hb Q h => by
  cases ha; cases hb; exact PyProof.Rows.add_int (h _ _ fun _ => .int _ _)
theorem bin_sub {i j : Int} : BinOk C S .Sub (.int i) (.int j) (.int (i - j)) := bin_tok fun s look base v u hs ha hb Q h => by
  cases ha; cases hb; exact PyProof.Rows.sub_int (h _ _ fun _ => .int _ _)
theorem bin_mul {i j : Int} (hm : IntMulOk i j) : BinOk C S .Mult (.int i) (.int j) (.int (i * j)) := bin_tok fun s look base v u hs ha hb Q h => by
  cases ha; cases hb; exact PySem.P.mul_int (h _ _ fun _ => .int _ _) hm
theorem bin_div {i j : Int} (hm : j ≠ 0) (hj : j.natAbs < 1073741824) : BinOk C S .FloorDiv (.int i) (.int j) (.int (i.fdiv j)) := bin_tok fun s look base v u hs ha hb Q h => by
  cases ha; cases hb; exact PyProof.Rows.floordiv_int hm (h _ _ fun _ => .int _ _) (.inl (PyProof.noPylong_small hj))
theorem bin_mod {i j : Int} (hm : j ≠ 0) : BinOk C S .Mod (.int i) (.int j) (.int (i.fmod j)) := bin_tok fun s look base v u hs ha hb Q h => by
  cases ha; cases hb; exact PyProof.Rows.mod_int hm (h _ _ fun _ => .int _ _)
theorem bin_pow {i j : Int} (h0 : 0 ≤ j) (hsz : (Builtin.Int.intBits i : Int) * j ≤ 2 ^ 27) : BinOk C S .Pow (.int i) (.int j) (.int (i ^ j.toNat)) := bin_tok fun s look base v u hs ha hb Q h => by
  cases ha; cases hb; exact PyProof.Rows.pow_int h0 hsz (h _ _ fun _ => .int _ _)
theorem bin_subB {i j : Bool} : BinOk C S .Sub (.bool i) (.bool j) (.int ((if i then 1 else 0) - (if j then 1 else 0))) := bin_tok fun s look base v u hs ha hb Q h => by
  cases ha; cases hb; exact PyProof.Rows.sub_bool (h _ _ fun _ => by cases i <;> cases j <;> exact .int _ _)

theorem cmp_same {op : CmpOp} {a b : PV} {c : Bool} (h : ∀ s look base v u, St C base S look s → Rep look v a → Rep look u b → ∀ Q : Value → Shared → Prop, Q (.bool c) s → wpAny (model C.G.prog C.G.w) C.A (compareOp op v u) Q NoE s) : CmpOk C S op a b c :=
  .mk fun s look base v u hs ha hb => h s look base v u hs ha hb _ ⟨rfl, look, Ext.refl _ _, hs⟩
theorem cmp_eq {i j : Int} : CmpOk C S .Eq (.int i) (.int j) (i == j) := cmp_same fun s look base v u hs ha hb Q h => by
  cases ha; cases hb; exact PySem.P.eq_int h
theorem cmp_ne {i j : Int} : CmpOk C S .NotEq (.int i) (.int j) (i != j) := cmp_same fun s look base v u hs ha hb Q h => by
  cases ha; cases hb; exact PySem.P.ne_int h
theorem cmp_lt {i j : Int} : CmpOk C S .Lt (.int i) (.int j) (decide (i < j)) := cmp_same fun s look base v u hs ha hb Q h => by
  cases ha; cases hb; exact PySem.P.lt_int h
theorem cmp_le {i j : Int} : CmpOk C S .LtE (.int i) (.int j) (decide (i ≤ j)) := cmp_same fun s look base v u hs ha hb Q h => by
  cases ha; cases hb; exact PySem.P.le_int h
theorem cmp_gt {i j : Int} : CmpOk C S .Gt (.int i) (.int j) (decide (i > j)) := cmp_same fun s look base v u hs ha hb Q h => by
  cases ha; cases hb; exact PySem.P.gt_int h
theorem cmp_ge {i j : Int} : CmpOk C S .GtE (.int i) (.int j) (decide (i ≥ j)) := cmp_same fun s look base v u hs ha hb Q h => by
  cases ha; cases hb; exact PySem.P.ge_int h

abbrev KNeg (K : PV → Store → Prop) : PV → Store → Prop := fun a S1 => ∃ i, a = .int i ∧ K (.int (-i)) S1
theorem e_neg {x : Expr} {pos : Pos} {K : PV → Store → Prop} (h : wpE C x (KNeg K) S) : wpE C (.UnaryOp .USub x pos) K S := by
  refine .mk fun s look base hs => ?_
  refine wpAny_UnaryOp (wpAny_mono (h.run s look base hs) ?_ fun _ _ x => x)
  rintro v s1 ⟨a, S1, l1, ⟨i, rfl, k⟩, le1, st1, r1⟩
  cases r1
  exact PySem.P.neg_int ⟨_, S1, l1, k, le1, st1.tok _, .int _ _⟩

/-! ### lists of expressions, displays -/
theorem l_nil {K : List PV → Store → Prop} (h : K [] S) : wpL C [] K S := .mk fun s look base pos hs => wpAny_items_nil ⟨[], S, look, h, Ext.refl _ _, hs, .nil⟩
abbrev KCons2 (a : PV) (K : List PV → Store → Prop) : List PV → Store → Prop := fun as S2 => K (a :: as) S2
abbrev KCons (C : Cx) (es : List Expr) (K : List PV → Store → Prop) : PV → Store → Prop := fun a S1 => wpL C es (KCons2 a K) S1
theorem l_cons {e : Expr} {es : List Expr} {K : List PV → Store → Prop} (he : starEach (e :: es) C.env = (false, eval e C.env) :: starEach es C.env)
    (h : wpE C e (KCons C es K) S) : wpL C (e :: es) K S := by
  refine .mk fun s look base pos hs => ?_
  refine wpAny_items_cons (wpAny_mono (h.run s look base hs) ?_ fun _ _ x => x) he
  rintro v s1 ⟨a, S1, l1, k1, le1, st1, r1⟩
  refine wpAny_mono (k1.run s1 l1 base pos st1) ?_ fun _ _ x => x
  rintro vs s2 ⟨as, S2, l2, k2, le2, st2, r2⟩
  exact ⟨a :: as, S2, l2, k2, le1.trans le2, st2, .cons (r1.mono le2.1) r2⟩

theorem look_new {look : Lk} {a : Addr} {o : Obj} : (fun b => if b = a then some o else look b) a = some o := if_pos rfl

abbrev KTup (K : PV → Store → Prop) : List PV → Store → Prop := fun as S1 => as.length ≤ 1000 ∧ K (.tup as) S1
abbrev KLst (K : PV → Store → Prop) : List PV → Store → Prop := fun as S1 => as.length ≤ 1000 ∧ K (.lst as) S1
theorem e_tup {es : List Expr} {k : Nat} {pos : Pos} {K : PV → Store → Prop} (h : wpL C es (KTup K) S) : wpE C (.Tuple es k pos) K S := by
  refine .mk fun s look base hs => ?_
  refine wpAny_Tuple (wpAny_mono (h.run s look base pos hs) ?_ fun _ _ x => x)
  rintro vs s1 ⟨as, S1, l1, ⟨hz, k1⟩, le1, st1, r1⟩
  refine ⟨by rw [r1.length, sizeLine_eq]; omega, ?_⟩
  have p := st1.push { cls := .type "tuple", data := .seq vs.toArray } rfl (tk := s1.toks)
  exact ⟨_, S1, _, k1, le1.trans p.2, p.1, .tup look_new (r1.mono p.2.1)⟩
/-- a list display, frozen at once -/
theorem e_list {es : List Expr} {pos : Pos} {K : PV → Store → Prop} (h : wpL C es (KLst K) S) : wpE C (.List es pos) K S := by
  refine .mk fun s look base hs => ?_
  refine wpAny_List (wpAny_mono (h.run s look base pos hs) ?_ fun _ _ x => x)
  rintro vs s1 ⟨as, S1, l1, ⟨hz, k1⟩, le1, st1, r1⟩
  refine ⟨by rw [r1.length, sizeLine_eq]; omega, ?_⟩
  have p := st1.push { cls := .type "list", data := .seq vs.toArray } rfl (tk := s1.toks)
  exact ⟨_, S1, _, k1, le1.trans p.2, p.1, .lst look_new (r1.mono p.2.1)⟩
/-- a list display, owned -/
theorem e_listO {es : List Expr} {pos : Pos} {K : PV → Store → Prop} (h : wpL C es (fun as S1 => as.length ≤ 1000 ∧ ∀ a, K (.ptr a) { S1 with cel := (a, .lst as) :: S1.cel }) S) : wpE C (.List es pos) K S := by
  refine .mk fun s look base hs => ?_
  refine wpAny_List (wpAny_mono (h.run s look base pos hs) ?_ fun _ _ x => x)
  rintro vs s1 ⟨as, S1, l1, ⟨hz, k1⟩, le1, st1, r1⟩
  refine ⟨by rw [r1.length, sizeLine_eq]; omega, ?_⟩
  have p := st1.own1 { cls := .type "list", data := .seq vs.toArray } (.lst as) (tk := s1.toks) ⟨_, _, Heap.get?_push_size _ rfl, r1⟩
  exact ⟨_, _, l1, k1 _, le1, p, .ptr _⟩
end Mine
end

section
open PySem PySem.W PyProof.Rows
set_option maxRecDepth 100000
set_option linter.unusedVariables false

namespace Mine
variable {C : Cx} {S : Store} {base : Lk}

/-! ### stores -/
theorem St.setLocal {look : Lk} {s : Shared} (h : St C base S look s) {x : Str} {v : Value} {pv : PV} (hx : C.env.kindOf x = some .local) (hr : Rep look v pv) {h' : Heap}
    (hn : ∀ m, s.heap.Ns C.env.locals m → h'.Ns C.env.locals (fun y => if y = x then some v else m y)) (hs : Heap.SameBut C.env.locals s.heap h') {tk : Nat} : St C base (S.set x pv) look { s with heap := h', toks := tk } := by
  have hk : ∀ b, b ≠ C.env.locals → ∀ o, s.heap.get? b = some o → h'.get? b = some o := fun b hb o e => (hs.2 b hb).trans e
  have nb : ∀ {b o}, look b = some o → b ≠ C.env.locals := fun e q => by subst q; rw [h.locFree.1] at e; cases e
  obtain ⟨m, hm, hv⟩ := h.vars
  refine ⟨?_, h.top, fun b o e => hk b (fun q => by subst q; rw [h.locFree.2] at e; cases e) _ (h.keep b o e), fun b o e => hk b (nb e) _ (h.sub b o e), ⟨_, hn m hm, fun y p e1 e2 => ?_⟩, fun y c e => ?_, fun a k e => ?_, h.nodup, h.ownFree, h.locFree, h.cellFree⟩
  · obtain ⟨h₁, tk₁, e⟩ := h.same; exact ⟨h', tk, by rw [e]⟩
  · rw [Store.var_set] at e1
    by_cases hy : x = y
    · subst hy
      rw [if_pos rfl] at e1; cases e1
      exact ⟨v, if_pos rfl, hr⟩
    · rw [if_neg hy] at e1
      obtain ⟨u, e3, r⟩ := hv y p e1 e2
      exact ⟨u, by rw [if_neg (fun q => hy q.symm)]; exact e3, r⟩
  · obtain ⟨ov, ⟨o, ho, hd⟩, hc⟩ := h.cellv y c e
    have hcl : c ≠ C.env.locals := by
      rintro rfl
      obtain ⟨o', es, ep, ho', hd', _⟩ := hm
      rw [ho] at ho'; cases ho'
      rw [hd] at hd'; cases hd'
    refine ⟨ov, ⟨o, hk c hcl _ ho, hd⟩, fun nl p e1 => ?_⟩
    rw [Store.var_set, if_neg (fun q => nl (by rw [← q]; exact hx))] at e1
    exact hc nl p e1
  · exact (h.own a k e).keeps (Le.refl _) h.sub (fun o q => hk a (h.ownFree a k e).2.1 o q) fun b o q => hk b (nb q) _ (h.sub _ _ q)

theorem St.setCell {look : Lk} {s : Shared} (h : St C base S look s) (wc : C.wc = true) {x : Str} {c : Addr} {v : Value} {pv : PV} (hx : C.env.kindOf x = some .cell) (hc : C.env.cells.lookup x = some c) (hr : Rep look v pv) {h' : Heap}
    (hn : h'.IsCell c (some v)) (hs : Heap.SameBut c s.heap h') {tk : Nat} : St C base (S.set x pv) look { s with heap := h', toks := tk } := by
  obtain ⟨⟨cf1, cf2⟩, cf3, cf4⟩ := h.cellFree wc x c hc hx
  have hk : ∀ b, b ≠ c → ∀ o, s.heap.get? b = some o → h'.get? b = some o := fun b hb o e => (hs.2 b hb).trans e
  have nb : ∀ {b o}, look b = some o → b ≠ c := fun e q => by subst q; rw [cf1] at e; cases e
  obtain ⟨m, hm, hv⟩ := h.vars
  refine ⟨?_, h.top, fun b o e => hk b (fun q => by subst q; rw [cf2] at e; cases e) _ (h.keep b o e), fun b o e => hk b (nb e) _ (h.sub b o e), ⟨m, hm.at' fun o e => hk _ (Ne.symm cf3) o e, fun y p e1 e2 => ?_⟩, fun y d e => ?_, fun a k e => ?_, h.nodup, h.ownFree, h.locFree, h.cellFree⟩
  · obtain ⟨h₁, tk₁, e⟩ := h.same; exact ⟨h', tk, by rw [e]⟩
  · rw [Store.var_set] at e1
    by_cases hy : x = y
    · subst hy; rw [hx] at e2; cases e2
    · rw [if_neg hy] at e1; exact hv y p e1 e2
  · obtain ⟨ov, ho, hcv⟩ := h.cellv y d e
    by_cases hd : c = d
    · subst hd
      have := cf4 y c e rfl
      subst this
      refine ⟨some v, hn, fun _ p e1 => ?_⟩
      rw [Store.var_set, if_pos rfl] at e1; cases e1
      exact ⟨v, rfl, hr⟩
    · obtain ⟨o, ho, hdd⟩ := ho
      refine ⟨ov, ⟨o, hk d (Ne.symm hd) _ ho, hdd⟩, fun nl p e1 => ?_⟩
      rw [Store.var_set] at e1
      by_cases hy : x = y
      · subst hy; rw [hc] at e; cases e; exact absurd rfl hd
      · rw [if_neg hy] at e1; exact hcv nl p e1
  · exact (h.own a k e).keeps (Le.refl _) h.sub (fun o q => hk a ((h.ownFree a k e).2.2 x c hc) o q) fun b o q => hk b (nb q) _ (h.sub _ _ q)

/-- how a name of the frame is stored -/
inductive Wr1 (C : Cx) (x : Str) : Prop
  | loc (h : C.env.kindOf x = some .local)
  | cell (c : Addr) (h : C.env.kindOf x = some .cell) (hc : C.env.cells.lookup x = some c) (wc : C.wc = true)

theorem store_var {n : Nat} (ok : C.Ok n) {x : Str} {v : Value} {pv : PV} {look : Lk} {s : Shared} (hs : St C base S look s) (hx : Wr1 C x) (hr : Rep look v pv)
    {Q : Unit → Shared → Prop} (h : ∀ s', St C base (S.set x pv) look s' → Q () s') : wpAny (model C.G.prog C.G.w) C.A (storeName C.env x v) Q NoE s := by
  cases hx with
  | loc hx =>
    obtain ⟨m, hn, hm⟩ := hs.vars
    refine wpAny_storeName_local hx hn (fun h' hn' hsb => h _ (hs.setLocal hx hr (fun m₁ hm₁ => ?_) hsb)) (by rw [ok.kind]; rfl)
    have : m₁ = m := by
      funext y
      obtain ⟨o, es, ep, ho, hd, _, hf⟩ := hm₁
      obtain ⟨o', es', ep', ho', hd', _, hf'⟩ := hn
      rw [ho] at ho'; cases ho'
      rw [hd] at hd'; cases hd'
      rw [← hf, ← hf']
    rw [this]; exact hn'
  | cell c hx hc wc =>
    obtain ⟨ov, hcell, _⟩ := hs.cellv x c hc
    exact wpAny_storeName_cell ok.kind hx hc hcell fun h' hn hsb => h _ (hs.setCell wc hx hc hr hn hsb)

theorem PostF.le {look look' : Lk} (hl : Ext base look look') {K : Fl → Store → Prop} {v : Flow} {s : Shared} (x : PostF C base look' K v s) : PostF C base look K v s :=
  let ⟨p, S', l', k, h, r⟩ := x; ⟨p, S', l', k, hl.trans h, r⟩

/-! ### statements -/
theorem b_nil {K : Fl → Store → Prop} (h : K .next S) : wpB C [] K S := .mk fun s look base hs => wpAny_execs_nil ⟨.next, S, look, h, Ext.refl _ _, hs, trivial⟩
/-- what follows a statement -/
abbrev KSeq (C : Cx) (rest : List Stmt) (K : Fl → Store → Prop) : Fl → Store → Prop := fun f S1 => match f with | .next => wpB C rest K S1 | f => K f S1
theorem b_cons {st : Stmt} {rest : List Stmt} {K : Fl → Store → Prop} (h : wpX C st (KSeq C rest K) S) : wpB C (st :: rest) K S := by
  refine .mk fun s look base hs => ?_
  refine wpAny_execs_cons (wpAny_mono (h.run s look base hs) ?_ fun _ _ x => x)
  rintro f s1 ⟨fl, S1, l1, k1, le1, st1, r1⟩
  cases f <;> cases fl <;> first | (exact absurd r1 id) | skip
  · exact wpAny_mono (k1.run s1 l1 base st1) (fun _ _ x => x.le le1) fun _ _ x => x
  · exact ⟨_, S1, l1, k1, le1, st1, r1⟩
  · exact ⟨_, S1, l1, k1, le1, st1, r1⟩
  · exact ⟨_, S1, l1, k1, le1, st1, r1⟩

abbrev KAsg (x : Str) (K : Fl → Store → Prop) : PV → Store → Prop := fun a S1 => K .next (S1.set x a)
theorem x_assign {n : Nat} (ok : C.Ok n) {x : Str} {p pos : Pos} {value : Expr} {K : Fl → Store → Prop} (hx : Wr1 C x) (hsw : swapsWith value (some (.Name x p)) pos.line C.env = pure false)
    (h : wpE C value (KAsg x K) S) : wpX C (.Assign [.Name x p] value pos) K S := by
  refine .mk fun s look base hs => ?_
  refine wpAny_Assign_Name (wpAny_mono (h.run s look base hs) ?_ fun _ _ x => x) hsw
  rintro v s1 ⟨a, S1, l1, k1, le1, st1, r1⟩
  exact store_var ok st1 hx r1 fun s2 st2 => ⟨.next, _, l1, k1, le1, st2, trivial⟩

abbrev KRet (K : Fl → Store → Prop) : PV → Store → Prop := fun a S1 => K (.ret a) S1
theorem x_ret {e : Expr} {pos : Pos} {K : Fl → Store → Prop} (h : wpE C e (KRet K) S) : wpX C (.Return (some e) pos) K S := by
  refine .mk fun s look base hs => ?_
  refine wpAny_Return_some (wpAny_mono (h.run s look base hs) ?_ fun _ _ x => x)
  rintro v s1 ⟨a, S1, l1, k1, le1, st1, r1⟩
  exact ⟨.ret a, S1, l1, k1, le1, st1, r1⟩
theorem x_cont {pos : Pos} {K : Fl → Store → Prop} (h : K .cont S) : wpX C (.Continue pos) K S := .mk fun s look base hs => wpAny_Continue ⟨.cont, S, look, h, Ext.refl _ _, hs, trivial⟩

abbrev KIf (C : Cx) (b o : List Stmt) (K : Fl → Store → Prop) : Bool → Store → Prop := fun a S1 => if a then wpB C b K S1 else wpB C o K S1
theorem x_if {t : Expr} {b o : List Stmt} {pos : Pos} {K : Fl → Store → Prop} (h : wpT C t (KIf C b o K) S) : wpX C (.If t b o pos) K S := by
  refine .mk fun s look base hs => ?_
  refine wpAny_If (wpAny_mono (h.run s look base hs) ?_ fun _ _ x => x)
  rintro a s1 ⟨S1, l1, k1, le1, st1⟩
  cases a with
  | true => simp only [if_true] at k1 ⊢; exact wpAny_mono (k1.run s1 l1 base st1) (fun _ _ x => x.le le1) fun _ _ x => x
  | false => simp only [Bool.false_eq_true, if_false] at k1 ⊢; exact wpAny_mono (k1.run s1 l1 base st1) (fun _ _ x => x.le le1) fun _ _ x => x

end Mine
end

section
open PySem PySem.W PyProof.Rows
set_option maxRecDepth 100000
set_option linter.unusedVariables false

namespace Mine
variable {C : Cx} {S : Store} {base : Lk}

/-! ### while -/
/-- what follows a turn of a loop -/
abbrev KTurn (J : Store → Prop) (K : Fl → Store → Prop) : Fl → Store → Prop := fun f S3 => match f with
  | .next => J S3
  | .cont => J S3
  | .brk => K .next S3
  | .ret v => K (.ret v) S3
abbrev KLess (I : Nat → Store → Prop) (n : Nat) : Store → Prop := fun S2 => ∃ m, m < n ∧ I m S2
abbrev KWhile (C : Cx) (body : List Stmt) (I : Nat → Store → Prop) (n : Nat) (K : Fl → Store → Prop) : Bool → Store → Prop := fun b S1 => if b then wpB C body (KTurn (KLess I n) K) S1 else K .next S1
theorem x_while {test : Expr} {body : List Stmt} {pos : Pos} {K : Fl → Store → Prop} (I : Nat → Store → Prop) (n₀ : Nat) (h0 : I n₀ S)
    (turn : ∀ n S, I n S → wpT C test (KWhile C body I n K) S) : wpX C (.While test body [] pos) K S := by
  refine .mk fun s look base hs => ?_
  refine wpAny_While (codeAny_whileLoop (fun n s' => ∃ S' look', I n S' ∧ Ext base look look' ∧ St C base S' look' s') ?_ n₀ ⟨S, look, h0, Ext.refl _ _, hs⟩)
  rintro n s1 ⟨S1, l1, hI, le1, st1⟩
  refine wpAny_mono ((turn n S1 hI).run s1 l1 base st1) ?_ fun _ _ x => x.elim
  rintro b s2 ⟨S2, l2, k2, le2, st2⟩
  cases b with
  | false =>
    simp only [Bool.false_eq_true, if_false] at k2 ⊢
    exact wpAny_execs_nil ⟨.next, S2, l2, k2, le1.trans le2, st2, trivial⟩
  | true =>
    simp only [if_true] at k2 ⊢
    refine wpAny_mono (k2.run s2 l2 base st2) ?_ fun _ _ x => x.elim
    rintro f s3 ⟨fl, S3, l3, k3, le3, st3, r3⟩
    have le := le1.trans (le2.trans le3)
    cases f <;> cases fl <;> first | (exact absurd r3 id) | skip
    · obtain ⟨m, hm, hI⟩ := k3; exact ⟨m, hm, S3, l3, hI, le, st3⟩
    · exact ⟨.next, S3, l3, k3, le, st3, trivial⟩
    · obtain ⟨m, hm, hI⟩ := k3; exact ⟨m, hm, S3, l3, hI, le, st3⟩
    · exact ⟨_, S3, l3, k3, le, st3, r3⟩

/-! ### the state under an iterator that turns -/
/-- the base takes more in -/
theorem St.moreBase {look : Lk} {s : Shared} (h : St C base S look s) {base' : Lk} (hb : ∀ b o, base b = some o → base' b = some o) (hk : ∀ b o, base' b = some o → s.heap.get? b = some o)
    (h3 : base' C.env.locals = none) (h4 : ∀ a k, (a, k) ∈ S.cel → base' a = none) (h5 : C.wc = true → ∀ x c, C.env.cells.lookup x = some c → C.env.kindOf x = some .cell → base' c = none) : St C base' S look s :=
  ⟨h.same, fun b o e => hb b o (h.top b o e), hk, h.sub, h.vars, h.cellv, h.own, h.nodup, fun a k e => ⟨⟨(h.ownFree a k e).1.1, h4 a k e⟩, (h.ownFree a k e).2⟩, ⟨h.locFree.1, h3⟩,
    fun wc x c e q => ⟨⟨(h.cellFree wc x c e q).1.1, h5 wc x c e q⟩, (h.cellFree wc x c e q).2⟩⟩
/-- the base gives some back -/
theorem St.lessBase {look : Lk} {s : Shared} {base' : Lk} (h : St C base' S look s) (hb : ∀ b o, base b = some o → base' b = some o) (ht : ∀ b o, C.G.h₀.get? b = some o → base b = some o) : St C base S look s := by
  have nb : ∀ {a}, base' a = none → base a = none := fun {a} e => by
    cases q : base a with
    | none => rfl
    | some o => rw [hb _ _ q] at e; cases e
  exact ⟨h.same, ht, fun b o e => h.keep b o (hb b o e), h.sub, h.vars, h.cellv, h.own, h.nodup, fun a k e => ⟨⟨(h.ownFree a k e).1.1, nb (h.ownFree a k e).1.2⟩, (h.ownFree a k e).2⟩, ⟨h.locFree.1, nb h.locFree.2⟩,
    fun wc x c e q => ⟨⟨(h.cellFree wc x c e q).1.1, nb (h.cellFree wc x c e q).1.2⟩, (h.cellFree wc x c e q).2⟩⟩

/-- how a target takes a value: `AsgOk t a S S'` -/
structure AsgOk (C : Cx) (t : Expr) (a : PV) (S S' : Store) : Prop where
  run : ∀ s look base v, St C base S look s → Rep look v a → wpAny (model C.G.prog C.G.w) C.A (assign t C.env v) (fun _ s' => ∃ look', Ext base look look' ∧ St C base S' look' s') NoE s
theorem asg_name {n : Nat} (ok : C.Ok n) {x : Str} {p : Pos} {a : PV} (hx : Wr1 C x) : AsgOk C (.Name x p) a S (S.set x a) := by
  refine .mk fun s look base v hs hr => ?_
  exact PyProof.Rows.assign_Name (store_var ok hs hx hr fun s' st => ⟨look, Ext.refl _ _, st⟩)

/-- an iterator that hands out the items; `t` is the target that takes them -/
structure Itr (C : Cx) (look₁ : Lk) (I : Addr) (fp wr : List Addr) (items : List PV) (t : Expr) (Sn : Nat → Heap → Prop) : Prop where
  sub : ∀ b ∈ wr, b ∈ fp
  frame : ∀ i h h', Sn i h → (∀ b ∈ fp, ∀ o, h.get? b = some o → h'.get? b = some o) → Sn i h'
  ex : ∀ i h, Sn i h → ∀ b ∈ wr, ∃ o, h.get? b = some o
  item : ∀ i (s : Shared) (look : Lk) (p : PV) (Q : Value → Shared → Prop), items[i]? = some p → Sn i s.heap → Le look₁ look → (∀ b o, look b = some o → s.heap.get? b = some o) → (∀ b ∈ wr, look b = none) →
    (∀ v h' tk look', Sn (i + 1) h' → (∀ b o, b ∉ wr → s.heap.get? b = some o → h'.get? b = some o) → Le look look' → (∀ b o, look' b = some o → look b = some o ∨ s.heap.get? b = none) →
      (∀ b o, look' b = some o → h'.get? b = some o) → Rep look' v p → Q v { s with heap := h', toks := tk }) →
    wpAny (model C.G.prog C.G.w) C.A (pyNext (.ref I)) (fun r s1 => match r with | some v => wpAny (model C.G.prog C.G.w) C.A (letOwnedTupleGo t (.ref I) v) (fun _ s2 => Q v s2) NoE s1 | none => False) NoE s
  self : ∀ i (s : Shared) (Q : Value → Shared → Prop), Sn i s.heap → Q (.ref I) s → wpAny (model C.G.prog C.G.w) C.A (pyIter (.ref I)) Q NoE s
  done : ∀ (s : Shared) (Q : Option Value → Shared → Prop), Sn items.length s.heap → (∀ h' tk, (∀ b o, b ∉ wr → s.heap.get? b = some o → h'.get? b = some o) → Q none { s with heap := h', toks := tk }) →
    wpAny (model C.G.prog C.G.w) C.A (pyNext (.ref I)) Q NoE s

/-- an iterator stands ready: it will hand out the items -/
noncomputable def ItAt (C : Cx) (base look : Lk) (S : Store) (items : List PV) (t : Expr) (it : Value) (s : Shared) : Prop :=
  ∃ (I : Addr) (fp wr : List Addr) (Sn : Nat → Heap → Prop), it = .ref I ∧ St C base S look s ∧ Itr C look I fp wr items t Sn ∧ Sn 0 s.heap ∧
    (∀ b ∈ wr, base b = none ∧ look b = none ∧ C.env.locals ≠ b ∧ (∀ a k, (a, k) ∈ S.cel → a ≠ b) ∧ ∀ x c, C.env.cells.lookup x = some c → c ≠ b) ∧
    (∀ b ∈ fp, b ∈ wr ∨ ∃ o, look b = some o)

open Classical in
/-- the base with the iterator's things in it -/
noncomputable def withFp (base : Lk) (fp : List Addr) (h : Heap) : Lk := fun b => if b ∈ fp then h.get? b else base b

theorem for_walk {target : Expr} {body : List Stmt} {K : Fl → Store → Prop} {items : List PV} {it : Value} {s : Shared} {look : Lk} (hit : ItAt C base look S items target it s)
    (I : Nat → Store → Prop) (h0 : I 0 S) (hcel : ∀ i S', I i S' → S'.cel.map (·.1) = S.cel.map (·.1))
    (turn : ∀ i p S1, items[i]? = some p → I i S1 → ∃ S2, AsgOk C target p S1 S2 ∧ wpB C body (KTurn (I (i + 1)) K) S2)
    (done : ∀ S1, I items.length S1 → K .next S1) :
    codeAny (model C.G.prog C.G.w) C.A (.forLoop target it body [] C.env) (fun r s' => match r with | .ok f => PostF C base look K f s' | .error e => cameBackBy (model C.G.prog C.G.w) C.A C.env NoE e s') s := by
  obtain ⟨I₀, fp, wr, Sn, rfl, st, W, hsn, hwr, hfp⟩ := hit
  refine codeAny_forLoop_any (fun k s' => ∃ i S' look', Sn i s'.heap ∧ I i S' ∧ Ext base look look' ∧ St C base S' look' s' ∧ (∀ b ∈ wr, look' b = none) ∧ i ≤ items.length ∧ k = items.length + 1 - i) ?_ (items.length + 1)
    ⟨0, S, look, hsn, h0, Ext.refl _ _, st, fun b hb => (hwr b hb).2.1, Nat.zero_le _, rfl⟩
  rintro k s1 ⟨i, S1, l1, hsn1, hI, le1, st1, hl1, hi, rfl⟩
  have keepOwn : ∀ a k, (a, k) ∈ S1.cel → ∃ k', (a, k') ∈ S.cel := fun a k e => by
    have : a ∈ S.cel.map (·.1) := by rw [← hcel i S1 hI]; exact List.mem_map.mpr ⟨_, e, rfl⟩
    obtain ⟨⟨a', k'⟩, hm, rfl⟩ := List.mem_map.mp this
    exact ⟨k', hm⟩
  have w1 : ∀ b ∈ wr, base b = none := fun b hb => (hwr b hb).1
  have w3 : C.env.locals ∉ wr := fun hb => (hwr _ hb).2.2.1 rfl
  have w4 : ∀ a k, (a, k) ∈ S1.cel → a ∉ wr := fun a k e hb => let ⟨k', hm⟩ := keepOwn a k e; (hwr a hb).2.2.2.1 a k' hm rfl
  have w5 : ∀ x c, C.env.cells.lookup x = some c → c ∉ wr := fun x c e hb => (hwr c hb).2.2.2.2 x c e rfl
  by_cases hlt : i < items.length
  · obtain ⟨p, hp⟩ : ∃ p, items[i]? = some p := ⟨items[i], by simp [hlt]⟩
    refine wpAny_mono (W.item i s1 l1 p (fun v s2 => ∃ h' tk look', s2 = { s1 with heap := h', toks := tk } ∧ Sn (i + 1) h' ∧ (∀ b o, b ∉ wr → s1.heap.get? b = some o → h'.get? b = some o) ∧ Le l1 look' ∧ (∀ b o, look' b = some o → l1 b = some o ∨ s1.heap.get? b = none) ∧
      (∀ b o, look' b = some o → h'.get? b = some o) ∧ Rep look' v p) hp hsn1 le1.1 st1.sub hl1 fun v h' tk look' a b c d e f => ⟨h', tk, look', rfl, a, b, c, d, e, f⟩) ?_ fun _ _ x => x.elim
    rintro (_ | v) s1a hq
    · exact hq.elim
    refine wpAny_mono hq ?_ fun _ _ x => x.elim
    rintro _ _ ⟨h', tk, l1', rfl, hsn2, hk, hl, hg, hs', hr⟩
    have st2 : St C base S1 l1' { s1 with heap := h', toks := tk } := st1.move wr w1 hl1 w4 w5 (fun m hm => hm.at' fun o e => hk _ o w3 e) (fun b o _ hb e => hk b o hb e) hl hs' fun b o e => (hg b o e).imp (fun x => ⟨o, x⟩) id
    have ext1 : Ext base l1 l1' := ⟨hl, fun b o e => (hg b o e).imp id fun q => by
      cases q' : base b with
      | none => rfl
      | some o' => rw [st1.keep b o' q'] at q; cases q⟩
    have hl1' : ∀ b ∈ wr, l1' b = none := fun b hb => by
      cases q : l1' b with
      | none => rfl
      | some o =>
        rcases hg b o q with h1 | h1
        · rw [hl1 b hb] at h1; cases h1
        · obtain ⟨o', ho'⟩ := W.ex i s1.heap hsn1 b hb
          rw [ho'] at h1; cases h1
    obtain ⟨S2, hasg, hbody⟩ := turn i p S1 hp hI
    -- the iterator goes into the base for the turn
    have fpH : ∀ b ∈ fp, ∃ o, h'.get? b = some o := fun b hb => by
      rcases hfp b hb with h1 | ⟨o, ho⟩
      · exact W.ex _ _ hsn2 b h1
      · exact ⟨o, st2.sub b o (hl b o (le1.1 b o ho))⟩
    have fpN : ∀ b, l1' b = none → b ∉ wr → b ∉ fp := fun b e hw hb => by
      rcases hfp b hb with h1 | ⟨o, ho⟩
      · exact hw h1
      · rw [hl b o (le1.1 b o ho)] at e; cases e
    have bn : ∀ b, b ∉ fp → withFp base fp h' b = base b := fun b hb => by unfold withFp; rw [if_neg hb]
    have by_ : ∀ b, b ∈ fp → withFp base fp h' b = h'.get? b := fun b hb => by unfold withFp; rw [if_pos hb]
    have hb1 : ∀ b o, base b = some o → withFp base fp h' b = some o := fun b o e => by
      by_cases hb : b ∈ fp
      · rw [by_ b hb]; exact st2.keep b o e
      · rw [bn b hb]; exact e
    have hb0 : ∀ b, withFp base fp h' b = none → base b = none := fun b e => by
      cases q : base b with
      | none => rfl
      | some o => rw [hb1 b o q] at e; cases e
    have st3 : St C (withFp base fp h') S1 l1' { s1 with heap := h', toks := tk } := st2.moreBase hb1 (fun b o e => by
        by_cases hb : b ∈ fp
        · rw [by_ b hb] at e; exact e
        · rw [bn b hb] at e; exact st2.keep b o e)
      (by rw [bn _ (fpN _ st2.locFree.1 w3)]; exact st2.locFree.2)
      (fun a k e => by rw [bn _ (fpN _ (st2.ownFree a k e).1.1 (w4 a k e))]; exact (st2.ownFree a k e).1.2)
      (fun wc x c e q => by rw [bn _ (fpN _ (st2.cellFree wc x c e q).1.1 (w5 x c e))]; exact (st2.cellFree wc x c e q).1.2)
    refine wpAny_mono (hasg.run _ l1' _ v st3 hr) ?_ fun _ _ x => x.elim
    rintro _ s2 ⟨l2, le2, st4⟩
    refine wpAny_mono (hbody.run s2 l2 _ st4) ?_ fun _ _ x => x.elim
    rintro f s3 ⟨fl, S3, l3, k3, le3, st5, r3⟩
    have leB := le2.trans le3
    have leO : Ext base l1 l3 := ext1.trans ⟨leB.1, fun x o e => (leB.2 x o e).imp id fun q => hb0 x q⟩
    have st6 : St C base S3 l3 s3 := st5.lessBase hb1 st.top
    have lw : ∀ b ∈ wr, l3 b = none := fun b hb => by
      cases q : l3 b with
      | none => rfl
      | some o =>
        exfalso
        rcases leB.2 b o q with h1 | h1
        · rw [hl1' b hb] at h1; cases h1
        · rw [by_ b (W.sub b hb)] at h1
          obtain ⟨o', ho'⟩ := fpH b (W.sub b hb)
          rw [ho'] at h1; cases h1
    have again : I (i + 1) S3 → ∃ m, m < items.length + 1 - i ∧ ∃ i' S' look', Sn i' s3.heap ∧ I i' S' ∧ Ext base look look' ∧ St C base S' look' s3 ∧ (∀ b ∈ wr, look' b = none) ∧ i' ≤ items.length ∧ m = items.length + 1 - i' := fun hI' =>
      ⟨items.length + 1 - (i + 1), by omega, i + 1, S3, l3, W.frame _ _ _ hsn2 (fun b hb o e => st5.keep b o (by rw [by_ b hb]; exact e)), hI', le1.trans leO, st6, lw, hlt, rfl⟩
    cases f <;> cases fl <;> first | (exact absurd r3 id) | skip
    · exact again k3
    · exact ⟨.next, S3, l3, k3, le1.trans leO, st6, trivial⟩
    · exact again k3
    · exact ⟨_, S3, l3, k3, le1.trans leO, st6, r3⟩
  · have hin : i = items.length := by omega
    subst hin
    refine wpAny_mono (W.done s1 (fun r s' => r = none ∧ ∃ h' tk, s' = { s1 with heap := h', toks := tk } ∧ (∀ b o, b ∉ wr → s1.heap.get? b = some o → h'.get? b = some o)) hsn1 fun h' tk hk => ⟨rfl, h', tk, rfl, hk⟩) ?_ fun _ _ x => x.elim
    rintro _ _ ⟨rfl, h', tk, rfl, hk⟩
    refine wpAny_execs_nil ?_
    exact ⟨.next, S1, l1, done S1 hI, le1, st1.move wr w1 hl1 w4 w5 (fun m hm => hm.at' fun o e => hk _ o w3 e) (fun b o _ hb e => hk b o hb e) (Le.refl _) (fun b o e => hk b o (fun w => by rw [hl1 b w] at e; cases e) (st1.sub b o e)) fun b o e => .inl ⟨o, e⟩, trivial⟩

/-- the head of a for: an expression and its iterator -/
structure wpI (C : Cx) (iter t : Expr) (K : List PV → Store → Prop) (S : Store) : Prop where
  run : ∀ s look base, St C base S look s → wpAny (model C.G.prog C.G.w) C.A (eval iter C.env) (fun v s1 => wpAny (model C.G.prog C.G.w) C.A (pyIter v) (fun it s2 => ∃ items S' look', K items S' ∧ Ext base look look' ∧ ItAt C base look' S' items t it s2) NoE s1) NoE s

abbrev KFor (C : Cx) (target : Expr) (body : List Stmt) (K : Fl → Store → Prop) : List PV → Store → Prop := fun items S0 => ∃ I : Nat → Store → Prop, I 0 S0 ∧ (∀ i S', I i S' → S'.cel.map (·.1) = S0.cel.map (·.1)) ∧
  (∀ i p S1, items[i]? = some p → I i S1 → ∃ S2, AsgOk C target p S1 S2 ∧ wpB C body (KTurn (I (i + 1)) K) S2) ∧
  ∀ S1, I items.length S1 → K .next S1
theorem x_for {target iter : Expr} {body : List Stmt} {pos : Pos} {K : Fl → Store → Prop} (hs : ∀ x, foldedSetIterable iter C.env x = pure x)
    (h : wpI C iter target (KFor C target body K) S) : wpX C (.For target iter body [] pos) K S := by
  refine .mk fun s look base hs' => ?_
  refine wpAny_For (wpAny_mono (h.run s look base hs') ?_ fun _ _ x => x) hs
  intro v s1 h1
  refine wpAny_mono h1 ?_ fun _ _ x => x
  rintro it s2 ⟨items, S2, l2, ⟨I, h0, hc, turn, done⟩, le2, hat⟩
  refine codeAny_mono (for_walk hat I h0 hc turn done) ?_
  intro r s' hr
  cases r with
  | ok f => exact hr.le le2
  | error e => exact hr

/-- the value iterates -/
structure IterOk (C : Cx) (S : Store) (t : Expr) (a : PV) (items : List PV) : Prop where
  run : ∀ s look base v, St C base S look s → Rep look v a → wpAny (model C.G.prog C.G.w) C.A (pyIter v) (fun it s' => ∃ look', Ext base look look' ∧ ItAt C base look' S items t it s') NoE s
theorem i_val {iter t : Expr} {K : List PV → Store → Prop} (h : wpE C iter (fun a S0 => ∃ items, IterOk C S0 t a items ∧ K items S0) S) : wpI C iter t K S := by
  refine .mk fun s look base hs => ?_
  refine wpAny_mono (h.run s look base hs) ?_ fun _ _ x => x
  rintro v s1 ⟨a, S1, l1, ⟨items, hit, k⟩, le1, st1, r1⟩
  refine wpAny_mono (hit.run s1 l1 base v st1 r1) ?_ fun _ _ x => x
  rintro it s2 ⟨l2, le2, hat⟩
  exact ⟨items, S1, l2, k, le1.trans le2, hat⟩

/-! iterations -/
theorem go_plain {t : Expr} {I : Addr} {v : Value} {s : Shared} {Q : Unit → Shared → Prop} {T : String} {o : Obj} (ho : s.heap.get? I = some o) (hc : o.cls = .type T)
    (hT : (["enumerate", "zip", "dict_itemiterator", "dict_reverseitemiterator", "odict_iterator", "itertools.zip_longest", "itertools.pairwise"] : List String).contains T = false) (h : Q () s) :
    wpAny (model C.G.prog C.G.w) C.A (letOwnedTupleGo t (.ref I) v) Q NoE s := by
  unfold letOwnedTupleGo
  split
  all_goals first
    | exact wpAny_pure h
    | (cases v <;> first
        | exact wpAny_pure h
        | (refine wpAny_bind (wpAny_load ho ?_)
           rw [hc]
           split
           · rename_i n vs hcls hd
             cases hcls
             rw [hT]
             simp only [Bool.false_and, Bool.false_eq_true, if_false]
             exact wpAny_pure h
           · exact wpAny_pure h))

theorem Itr.of_walks {look : Lk} {I : Addr} {fp wr : List Addr} {items : List PV} {t : Expr} {P : Nat → Value → Prop} {Sn : Nat → Heap → Prop} (W : Walks C.G.prog C.G.w C.A I fp wr items.length P Sn)
    (hex : ∀ i h, Sn i h → ∀ b ∈ wr, ∃ o, h.get? b = some o) (hrep : ∀ i v look' p, P i v → Le look look' → items[i]? = some p → Rep look' v p) (T : String)
    (hI : ∀ i h, Sn i h → ∃ o, h.get? I = some o ∧ o.cls = .type T) (hT : (["enumerate", "zip", "dict_itemiterator", "dict_reverseitemiterator", "odict_iterator", "itertools.zip_longest", "itertools.pairwise"] : List String).contains T = false) :
    Itr C look I fp wr items t Sn where
  sub := W.sub
  frame := W.frame
  ex := hex
  item := fun i s look' p Q hp hsn hl hs hw hQ => by
    refine W.item i s _ _ (by exact (List.getElem?_eq_some_iff.mp hp).1) hsn fun v h' tk hP hsn' hk => ?_
    obtain ⟨o, ho, hc⟩ := hI _ _ hsn'
    refine go_plain ho hc hT ?_
    exact hQ v h' tk look' hsn' hk (Le.refl _) (fun _ _ e => .inl e) (fun b o e => hk b o (fun q => by rw [hw b q] at e; cases e) (hs b o e)) (hrep i v look' p hP hl hp)
  self := fun i s Q hsn hQ => W.self i s Q NoE hsn hQ
  done := fun s Q hsn hQ => W.done s Q NoE hsn hQ

/-- what is new stands apart -/
theorem St.newApart {look : Lk} {s : Shared} (st : St C base S look s) {b : Addr} (hb : s.heap.get? b = none) : base b = none ∧ look b = none ∧ C.env.locals ≠ b ∧ (∀ a k, (a, k) ∈ S.cel → a ≠ b) ∧ ∀ x c, C.env.cells.lookup x = some c → c ≠ b := by
  refine ⟨?_, ?_, ?_, ?_, ?_⟩
  · cases q : base b with
    | none => rfl
    | some o => rw [st.keep b o q] at hb; cases hb
  · cases q : look b with
    | none => rfl
    | some o => rw [st.sub b o q] at hb; cases hb
  · rintro rfl
    obtain ⟨m, ⟨o, _, _, ho, _⟩, _⟩ := st.vars
    rw [ho] at hb; cases hb
  · rintro a k e rfl
    obtain ⟨o, ho⟩ := st.ownSome e
    rw [ho] at hb; cases hb
  · rintro x c e rfl
    obtain ⟨ov, ⟨o, ho, _⟩, _⟩ := st.cellv x c e
    rw [ho] at hb; cases hb
theorem get_size (h : Heap) : h.get? h.objs.size = none := by
  cases e : h.get? h.objs.size with
  | none => rfl
  | some o => exact absurd (Heap.lt_size e) (Nat.lt_irrefl _)

theorem iter_lst {n : Nat} (ok : C.Ok n) {t : Expr} {l : List PV} : IterOk C S t (.lst l) l := by
  refine .mk fun s look base v hs hr => ?_
  cases hr with
  | @lst a items m _ h hrs =>
    have hl : s.heap.IsList a items := ⟨_, hs.sub _ _ h, rfl, _, rfl⟩
    have hlen : items.size = l.length := by simpa using hrs.length
    refine wpAny_pyIter_list hl ?_
    have W := Walks.list (prog := C.G.prog) (w := C.G.w) ok.hand s.heap.objs.size a (Nat.ne_of_lt (Heap.lt_size (hs.sub _ _ h))) items
    rw [hlen] at W
    refine ⟨look, Ext.refl _ _, s.heap.objs.size, [s.heap.objs.size, a], [s.heap.objs.size], _, rfl, hs.pushDrop (tk := s.toks) _, Itr.of_walks W ?_ ?_ "list_iterator" ?_ (by decide), ⟨⟨_, Heap.get?_push_size _ rfl, rfl, rfl⟩, hl.push _⟩, ?_, ?_⟩
    · rintro i h' ⟨⟨o, ho, _⟩, _⟩ b hb; rw [List.mem_singleton.mp hb]; exact ⟨o, ho⟩
    · intro i v look' p hv hle hp
      obtain ⟨u, hu, hru⟩ := hrs.get hp
      rw [← Array.getElem?_toList] at hv
      rw [hu] at hv; cases hv
      exact hru.mono hle
    · rintro i h' ⟨⟨o, ho, hc, _⟩, _⟩; exact ⟨o, ho, hc⟩
    · intro b hb; rw [List.mem_singleton.mp hb]; exact hs.newApart (get_size _)
    · intro b hb
      rcases List.mem_cons.mp hb with hb | hb
      · exact .inl (by rw [hb]; exact List.mem_singleton.mpr rfl)
      · rw [List.mem_singleton.mp hb]; exact .inr ⟨_, h⟩
theorem iter_tup {n : Nat} (ok : C.Ok n) {t : Expr} {l : List PV} : IterOk C S t (.tup l) l := by
  refine .mk fun s look base v hs hr => ?_
  cases hr with
  | @tup a items m _ h hrs =>
    have hl : s.heap.IsTuple a items := ⟨_, hs.sub _ _ h, rfl, _, rfl⟩
    have hlen : items.size = l.length := by simpa using hrs.length
    refine wpAny_pyIter_tuple hl ?_
    have W := Walks.tuple (prog := C.G.prog) (w := C.G.w) ok.hand s.heap.objs.size a (Nat.ne_of_lt (Heap.lt_size (hs.sub _ _ h))) items
    rw [hlen] at W
    refine ⟨look, Ext.refl _ _, s.heap.objs.size, [s.heap.objs.size, a], [s.heap.objs.size], _, rfl, hs.pushDrop (tk := s.toks) _, Itr.of_walks W ?_ ?_ "tuple_iterator" ?_ (by decide), ⟨⟨_, Heap.get?_push_size _ rfl, rfl, rfl⟩, hl.push _⟩, ?_, ?_⟩
    · rintro i h' ⟨⟨o, ho, _⟩, _⟩ b hb; rw [List.mem_singleton.mp hb]; exact ⟨o, ho⟩
    · intro i v look' p hv hle hp
      obtain ⟨u, hu, hru⟩ := hrs.get hp
      rw [← Array.getElem?_toList] at hv
      rw [hu] at hv; cases hv
      exact hru.mono hle
    · rintro i h' ⟨⟨o, ho, hc, _⟩, _⟩; exact ⟨o, ho, hc⟩
    · intro b hb; rw [List.mem_singleton.mp hb]; exact hs.newApart (get_size _)
    · intro b hb
      rcases List.mem_cons.mp hb with hb | hb
      · exact .inl (by rw [hb]; exact List.mem_singleton.mpr rfl)
      · rw [List.mem_singleton.mp hb]; exact .inr ⟨_, h⟩
/-- range(a, b) with small ends -/
theorem iter_rng {n : Nat} (ok : C.Ok n) {t : Expr} {a b : Int} (ha : -(2 ^ 40) < a ∧ a < 2 ^ 40) (hb : -(2 ^ 40) < b ∧ b < 2 ^ 40) :
    IterOk C S t (.rng a b) ((List.range (b - a).toNat).map fun i : Nat => PV.int (a + (i : Int))) := by
  refine .mk fun s look base v hs hr => ?_
  cases hr with
  | @rng r _ _ t₁ u₁ v₁ h =>
    have hr : IsRange s.heap r a b 1 t₁ u₁ v₁ := hs.sub _ _ h
    have hsz : Builtin.Range.rangeSize a b 1 = ((b - a).toNat : Int) := by rw [rangeSize_one]; split <;> omega
    refine wpAny_pyIter_range hr ?_ ?_
    · unfold Builtin.Range.small
      rw [hsz]
      simp only [Builtin.Range.rangeFitsLong, Bool.and_eq_true, Bool.or_eq_true, decide_eq_true_eq, beq_iff_eq]
      refine ⟨⟨⟨⟨?_, ?_⟩, ?_⟩, ?_⟩, ?_⟩
      all_goals first | omega | (right; simp; omega) | (constructor <;> omega) | skip
    · have W := Walks.range (prog := C.G.prog) (w := C.G.w) ok.hand s.heap.objs.size a 1 (b - a).toNat
      have hlen : ((List.range (b - a).toNat).map fun i : Nat => PV.int (a + (i : Int))).length = (b - a).toNat := by simp
      rw [← hlen] at W
      refine ⟨look, Ext.refl _ _, s.heap.objs.size, [s.heap.objs.size], [s.heap.objs.size], _, rfl, hs.pushDrop (tk := s.toks) _, Itr.of_walks W ?_ ?_ "range_iterator" ?_ (by decide), ?_, ?_, ?_⟩
      · intro i h' e b hb; rw [List.mem_singleton.mp hb]; exact ⟨_, e⟩
      · rintro i v look' p ⟨t, rfl⟩ hle hp
        simp only [List.getElem?_map, Option.map_eq_some_iff] at hp
        obtain ⟨j, hj, rfl⟩ := hp
        have : j = i := by
          have := List.getElem?_eq_some_iff.mp hj
          obtain ⟨_, e⟩ := this
          simpa using e.symm
        subst this
        rw [Int.mul_one]
        exact .int _ _
      · intro i h' e; exact ⟨_, e, rfl⟩
      · have e : Heap.get? (s.heap.push { cls := .type "range_iterator", data := .fields #[rawInt a, rawInt (Builtin.Range.rangeSize a b 1), rawInt 1] }) s.heap.objs.size = some _ := Heap.get?_push_size _ rfl
        show IsRangeIter _ _ _ _ _
        rw [hlen]
        simpa [hsz] using e
      · intro b hb; rw [List.mem_singleton.mp hb]; exact hs.newApart (get_size _)
      · intro b hb; exact .inl hb

end Mine
end

section
open PySem PySem.W PyProof.Rows
set_option maxRecDepth 100000
set_option linter.unusedVariables false

namespace Mine
variable {C : Cx} {S : Store} {base : Lk}

/-! ### owned objects change -/
inductive CUpd (a : Addr) (k k' : Cont) : List (Addr × Cont) → List (Addr × Cont) → Prop
  | head {r} : CUpd a k k' ((a, k) :: r) ((a, k') :: r)
  | tail {p r r'} : CUpd a k k' r r' → CUpd a k k' (p :: r) (p :: r')
theorem CUpd.mem {a : Addr} {k k' : Cont} {c c' : List (Addr × Cont)} (u : CUpd a k k' c c') : (a, k) ∈ c := by
  induction u with
  | head => exact .head _
  | tail _ ih => exact .tail _ ih
theorem CUpd.addrs {a : Addr} {k k' : Cont} {c c' : List (Addr × Cont)} (u : CUpd a k k' c c') : c'.map (·.1) = c.map (·.1) := by
  induction u with
  | head => rfl
  | tail _ ih => simp [ih]
theorem CUpd.back {a : Addr} {k k' : Cont} {c c' : List (Addr × Cont)} (u : CUpd a k k' c c') (hn : (c.map (·.1)).Nodup) {b : Addr} {j : Cont} (h : (b, j) ∈ c') : (b = a ∧ j = k') ∨ (b ≠ a ∧ (b, j) ∈ c) := by
  induction u with
  | head =>
    rw [List.map_cons, List.nodup_cons] at hn
    rcases List.mem_cons.mp h with e | e
    · cases e; exact .inl ⟨rfl, rfl⟩
    · refine .inr ⟨?_, .tail _ e⟩
      rintro rfl
      exact hn.1 (List.mem_map.mpr ⟨_, e, rfl⟩)
  | @tail p r r' u ih =>
    rw [List.map_cons, List.nodup_cons] at hn
    rcases List.mem_cons.mp h with e | e
    · refine .inr ⟨?_, e ▸ .head _⟩
      subst e
      rintro rfl
      exact hn.1 (List.mem_map.mpr ⟨_, u.mem, rfl⟩)
    · rcases ih hn.2 e with h1 | ⟨h1, h2⟩
      · exact .inl h1
      · exact .inr ⟨h1, .tail _ h2⟩

theorem St.upd {look : Lk} {s : Shared} (h : St C base S look s) {a : Addr} {k k' : Cont} {cel' : List (Addr × Cont)} (u : CUpd a k k' S.cel cel') {h' : Heap} {tk : Nat} (hs : Heap.SameBut a s.heap h')
    (hk : ContAt C.G look h' a k') : St C base { S with cel := cel' } look { s with heap := h', toks := tk } := by
  have free := h.ownFree a k u.mem
  have keep : ∀ b o, b ≠ a → s.heap.get? b = some o → h'.get? b = some o := fun b o hb e => (hs.2 b hb).trans e
  have hl : ∀ {b o}, look b = some o → b ≠ a := fun e q => by subst q; rw [free.1.1] at e; cases e
  refine ⟨?_, h.top, fun b o e => keep b o (fun q => by subst q; rw [free.1.2] at e; cases e) (h.keep b o e), fun b o e => keep b o (hl e) (h.sub b o e), ?_, ?_, ?_, ?_, ?_, h.locFree, h.cellFree⟩
  · obtain ⟨h₁, tk₁, e⟩ := h.same; exact ⟨h', tk, by rw [e]⟩
  · obtain ⟨m, hn, hv⟩ := h.vars
    exact ⟨m, hn.at' fun o e => keep _ o (Ne.symm free.2.1) e, hv⟩
  · intro x c e
    obtain ⟨ov, ⟨o, ho, hd⟩, hv⟩ := h.cellv x c e
    exact ⟨ov, ⟨o, keep c o (Ne.symm (free.2.2 x c e)) ho, hd⟩, hv⟩
  · intro b j hb
    rcases u.back h.nodup hb with ⟨rfl, rfl⟩ | ⟨h1, h2⟩
    · exact hk
    · exact (h.own b j h2).keeps (Le.refl _) h.sub (fun o e => keep b o h1 e) fun b o e => keep b o (hl e) (h.sub b o e)
  · show (cel'.map (·.1)).Nodup
    rw [u.addrs]; exact h.nodup
  · intro b j hb
    rcases u.back h.nodup hb with ⟨rfl, rfl⟩ | ⟨h1, h2⟩
    · exact free
    · exact h.ownFree b j h2

/-! ### freezing -/
inductive CDel (a : Addr) (k : Cont) : List (Addr × Cont) → List (Addr × Cont) → Prop
  | head {r} : CDel a k ((a, k) :: r) r
  | tail {p r r'} : CDel a k r r' → CDel a k (p :: r) (p :: r')
theorem CDel.mem {a : Addr} {k : Cont} {c c' : List (Addr × Cont)} (u : CDel a k c c') : (a, k) ∈ c := by
  induction u with
  | head => exact .head _
  | tail _ ih => exact .tail _ ih
theorem CDel.sub {a : Addr} {k : Cont} {c c' : List (Addr × Cont)} (u : CDel a k c c') : c'.Sublist c := by
  induction u with
  | head => exact List.sublist_cons_self _ _
  | tail _ ih => exact ih.cons₂ _
theorem CDel.ne {a : Addr} {k : Cont} {c c' : List (Addr × Cont)} (u : CDel a k c c') (hn : (c.map (·.1)).Nodup) {b : Addr} {j : Cont} (h : (b, j) ∈ c') : b ≠ a := by
  induction u with
  | head =>
    rw [List.map_cons, List.nodup_cons] at hn
    rintro rfl
    exact hn.1 (List.mem_map.mpr ⟨_, h, rfl⟩)
  | @tail p r r' u ih =>
    rw [List.map_cons, List.nodup_cons] at hn
    rcases List.mem_cons.mp h with e | e
    · subst e; rintro rfl
      exact hn.1 (List.mem_map.mpr ⟨_, u.mem, rfl⟩)
    · exact ih hn.2 e

theorem St.freeze {look : Lk} {s : Shared} (h : St C base S look s) {a : Addr} {k : Cont} {cel' : List (Addr × Cont)} (u : CDel a k S.cel cel') {o : Obj} (ho : s.heap.get? a = some o) :
    St C base { S with cel := cel' } (fun b => if b = a then some o else look b) s ∧ Ext base look (fun b => if b = a then some o else look b) := by
  have free := h.ownFree a k u.mem
  have le : Le look (fun b => if b = a then some o else look b) := fun b o' e => by
    show (if b = a then some o else look b) = some o'
    rw [if_neg, e]
    rintro rfl; rw [free.1.1] at e; cases e
  have nn : ∀ {b}, b ≠ a → look b = none → (fun b => if b = a then some o else look b) b = none := fun hb e => by
    show (if _ = a then some o else look _) = none
    rw [if_neg hb, e]
  refine ⟨⟨h.same, h.top, h.keep, fun b o' e => ?_, ?_, ?_, ?_, h.nodup.sublist (u.sub.map _), ?_, ⟨nn (Ne.symm free.2.1) h.locFree.1, h.locFree.2⟩, ?_⟩, le, fun b o' e => ?_⟩
  · by_cases hb : b = a
    · subst hb; simp at e; subst e; exact ho
    · simp [hb] at e; exact h.sub b o' e
  · obtain ⟨m, hn, hv⟩ := h.vars
    exact ⟨m, hn, fun x pv e1 e2 => let ⟨v, e3, r⟩ := hv x pv e1 e2; ⟨v, e3, r.mono le⟩⟩
  · intro x c e
    obtain ⟨ov, hc, hv⟩ := h.cellv x c e
    exact ⟨ov, hc, fun nl pv e1 => let ⟨v, e3, r⟩ := hv nl pv e1; ⟨v, e3, r.mono le⟩⟩
  · exact fun b j hb => (h.own b j (u.sub.subset hb)).keeps le h.sub (fun _ e => e) fun b o q => h.sub b o q
  · intro b j hb
    have f := h.ownFree b j (u.sub.subset hb)
    exact ⟨⟨nn (u.ne h.nodup hb) f.1.1, f.1.2⟩, f.2⟩
  · intro wc x c e q
    have f := h.cellFree wc x c e q
    exact ⟨⟨nn (fun w => free.2.2 x c e w.symm) f.1.1, f.1.2⟩, f.2⟩
  · by_cases hb : b = a
    · subst hb; exact .inr free.1.2
    · simp [hb] at e; exact .inl e

/-- an owned list given away -/
theorem e_freeze {e : Expr} {K : PV → Store → Prop} (h : wpE C e (fun v S1 => ∃ a l cel', v = .ptr a ∧ CDel a (.lst l) S1.cel cel' ∧ K (.lst l) { S1 with cel := cel' }) S) : wpE C e K S := by
  refine .mk fun s look base hs => ?_
  refine wpAny_mono (h.run s look base hs) ?_ fun _ _ x => x
  rintro v s1 ⟨p, S1, l1, ⟨a, l, cel', rfl, u, k⟩, le1, st1, r1⟩
  cases r1
  obtain ⟨items, n, ho, hr⟩ := st1.own a _ u.mem
  have f := st1.freeze u ho
  exact ⟨.lst l, _, _, k, le1.trans f.2, f.1, .lst look_new (hr.mono f.2.1)⟩

/-! ### items -/
structure ItemOk (C : Cx) (S : Store) (a i c : PV) : Prop where
  run : ∀ s look base v j, St C base S look s → Rep look v a → Rep look j i → ∃ T id, s.TypeIs v T ∧ typeLookup (.type T) "__getitem__" = pure (some (.builtin id)) ∧ wpAny (model C.G.prog C.G.w) C.A (getItem v j) (OpPost C base S look c) NoE s

abbrev KItem2 (C : Cx) (a : PV) (K : PV → Store → Prop) : PV → Store → Prop := fun i S2 => ∃ c, ItemOk C S2 a i c ∧ K c S2
abbrev KItem (C : Cx) (slice : Expr) (K : PV → Store → Prop) : PV → Store → Prop := fun a S1 => wpE C slice (KItem2 C a K) S1
theorem e_item {value slice : Expr} {pos : Pos} {K : PV → Store → Prop} (hs : ∀ o i, subscripted slice false o i = operate [o, i] (getItem o i))
    (h : wpE C value (KItem C slice K) S) : wpE C (.Subscript value slice pos) K S := by
  refine .mk fun s look base hst => ?_
  refine Subscript_ (wpAny_mono (h.run s look base hst) ?_ fun _ _ x => x)
  rintro v s1 ⟨a, S1, l1, k1, le1, st1, r1⟩
  refine wpAny_mono (k1.run s1 l1 base st1) ?_ fun _ _ x => x
  rintro j s2 ⟨i, S2, l2, ⟨c, ok, k⟩, le2, st2, r2⟩
  obtain ⟨T, id, hT, hl, hg⟩ := ok.run s2 l2 base v j st2 (r1.mono le2.1) r2
  refine tail_any hT hl (wpAny_mono hg (fun _ _ x => x.post (le1.trans le2) k) fun _ _ x => x) (hs v j)

theorem item_tup {l : List PV} {k : Int} {j : Nat} {c : PV} (hlo : -(2 ^ 63) ≤ k) (hhi : k < 2 ^ 63) (hj : seqIndex? k l.length = some j) (hc : l[j]? = some c) : ItemOk C S (.tup l) (.int k) c := by
  refine .mk fun s look base v i hs ha hi => ?_
  cases ha with
  | @tup a items m _ h hrs =>
    cases hi with
    | int _ t =>
      have hlen : items.size = l.length := by simpa using hrs.length
      obtain ⟨u, hu, hr⟩ := hrs.get hc
      have ht : IsTup s.heap a items := ⟨_, hs.sub _ _ h, rfl, _, rfl⟩
      exact ⟨"tuple", _, ht.typeIs, slot_tuple_getitem.lookup, getItem_tuple ht hlo hhi (by rw [hlen]; exact hj) (by rw [← Array.getElem?_toList]; exact hu) ⟨look, Ext.refl _ _, hs, hr⟩⟩
theorem item_of_list {l : List PV} {k : Int} {c : PV} {s : Shared} {look base : Lk} {a : Addr} {items : Array Value} {t : Tok} (hs : St C base S look s) (hL : s.heap.IsList a items) (hrs : Reps look items.toList l)
    (hlo : -(2 ^ 63) ≤ k) (hhi : k < 2 ^ 63) {j : Nat} (hj : seqIndex? k l.length = some j) (hc : l[j]? = some c) :
    ∃ T id, s.TypeIs (.ref a) T ∧ typeLookup (.type T) "__getitem__" = pure (some (.builtin id)) ∧ wpAny (model C.G.prog C.G.w) C.A (getItem (.ref a) (.int k t)) (OpPost C base S look c) NoE s := by
  have hlen : items.size = l.length := by simpa using hrs.length
  obtain ⟨u, hu, hr⟩ := hrs.get hc
  refine ⟨"list", _, hL.typeIs, slot_list_getitem.lookup, ?_⟩
  unfold seqIndex? at hj
  by_cases hk : k < 0
  · simp only [hk, if_true] at hj
    split at hj
    · rename_i hq
      cases hj
      simp only [Bool.and_eq_true, decide_eq_true_eq] at hq
      exact wpAny_getItem_list_neg hL hk (by rw [hlen]; omega) hlo (by rw [hlen, ← Array.getElem?_toList]; exact hu) ⟨look, Ext.refl _ _, hs, hr⟩
    · cases hj
  · simp only [hk, if_false] at hj
    split at hj
    · cases hj
      exact wpAny_getItem_list hL (by omega) hhi (by rw [← Array.getElem?_toList]; exact hu) ⟨look, Ext.refl _ _, hs, hr⟩
    · cases hj
theorem item_lst {l : List PV} {k : Int} {j : Nat} {c : PV} (hlo : -(2 ^ 63) ≤ k) (hhi : k < 2 ^ 63) (hj : seqIndex? k l.length = some j) (hc : l[j]? = some c) : ItemOk C S (.lst l) (.int k) c := by
  refine .mk fun s look base v i hs ha hi => ?_
  cases ha with
  | @lst a items m _ h hrs =>
    cases hi with
    | int _ t => exact item_of_list hs ⟨_, hs.sub _ _ h, rfl, _, rfl⟩ hrs hlo hhi hj hc
theorem item_ptr {a : Addr} {l : List PV} {k : Int} {j : Nat} {c : PV} (hm : (a, Cont.lst l) ∈ S.cel) (hlo : -(2 ^ 63) ≤ k) (hhi : k < 2 ^ 63) (hj : seqIndex? k l.length = some j) (hc : l[j]? = some c) : ItemOk C S (.ptr a) (.int k) c := by
  refine .mk fun s look base v i hs ha hi => ?_
  cases ha with
  | ptr =>
    cases hi with
    | int _ t =>
      obtain ⟨items, n, ho, hrs⟩ := hs.own a _ hm
      exact item_of_list hs ⟨_, ho, rfl, _, rfl⟩ hrs hlo hhi hj hc

/-! slices -/
theorem slicePick_min (items : Array Value) (n : Nat) : slicePick items none (some (n : Int)) none = (items.toList.take n).toArray := by
  by_cases h : n ≤ items.size
  · exact slicePick_upto items n h
  · have e : slicePick items none (some (n : Int)) none = slicePick items none (some (items.size : Int)) none := by
      have : sliceBounds none (some (n : Int)) none items.size = sliceBounds none (some (items.size : Int)) none items.size := by
        simp only [sliceBounds, Option.getD_none]
        have h1 : ¬ ((n : Int) < 0) := by omega
        have h2 : ¬ ((items.size : Int) < 0) := by omega
        simp only [h1, h2, if_false]
        have : min (n : Int) items.size = min (items.size : Int) items.size := by omega
        simp [this]
      unfold slicePick
      rw [this]
    rw [e, slicePick_upto items items.size (Nat.le_refl _)]
    congr 1
    rw [List.take_of_length_le (by simp), List.take_of_length_le (by simp; omega)]

/-- a slice of a frozen list without a step: a new frozen list -/
theorem e_slice {value : Expr} {lower upper : Option Expr} {p pos : Pos} {K : PV → Store → Prop}
    (h : wpE C value (fun a S1 => ∃ l, a = .lst l ∧ l.length ≤ 2000000 ∧ match lower, upper with
      | none, some u => wpE C u (fun b S2 => ∃ n : Nat, b = .int n ∧ K (.lst (l.take n)) S2) S1
      | some u, none => wpE C u (fun b S2 => ∃ n : Nat, b = .int n ∧ n ≤ l.length ∧ K (.lst (l.drop n)) S2) S1
      | _, _ => False) S) : wpE C (.Subscript value (.Slice lower upper none p) pos) K S := by
  refine .mk fun s look base hst => ?_
  refine Subscript_ (wpAny_mono (h.run s look base hst) ?_ fun _ _ x => x)
  rintro v s1 ⟨a, S1, l1, ⟨l, rfl, hsz, k1⟩, le1, st1, r1⟩
  cases r1 with
  | @lst ax items m _ hax hrs =>
    have hlen : items.size = l.length := by simpa using hrs.length
    have fin : ∀ (s2 : Shared) (l2 : Lk) (S2 : Store) (vl vu : Value) (lo hi : Option Int) (q : List PV), St C base S2 l2 s2 → Ext base l1 l2 → IsPart vl lo → IsPart vu hi → Reps l2 (slicePick items lo hi none).toList q → K (.lst q) S2 →
        wpAny (model C.G.prog C.G.w) C.A (subscriptTail value (.Slice lower upper none p) (.ref ax) (.ref s2.heap.objs.size)) (Post C base look K) NoE { s2 with heap := s2.heap.push { cls := .type "slice", data := .fields #[vl, vu, .none] } } := by
      intro s2 l2 S2 vl vu lo hi q st2 le2 pl pu hq k
      have hL : s2.heap.IsList ax items := ⟨_, st2.sub _ _ (le2.1 _ _ hax), rfl, _, rfl⟩
      have st3 := st2.pushDrop { cls := .type "slice", data := .fields #[vl, vu, .none] } (tk := s2.toks)
      have pu3 := st3.push { cls := .type "list", data := .seq (slicePick items lo hi none) } rfl (tk := s2.toks)
      refine tail_any (Heap.IsList.typeIs (s := { s2 with heap := s2.heap.push { cls := .type "slice", data := .fields #[vl, vu, .none] } }) (hL.push _)) list_getitem_lookup
        (wpAny_getItem_list_slice (hL.push _) (Heap.IsSliceOf.new ..) pl pu .none (by simp) ⟨_, S2, _, k, (le1.trans le2).trans pu3.2, pu3.1, .lst look_new (hq.mono pu3.2.1)⟩ (by rw [hlen, sizeLine_eq]; omega)) rfl
    match lower, upper, k1 with
    | none, some u, k1 =>
      refine wpAny_Slice (wpAny_pure (wpAny_mono (k1.run s1 l1 base st1) ?_ fun _ _ x => x))
      rintro uv s2 ⟨b, S2, l2, ⟨n, rfl, k⟩, le2, st2, r2⟩
      refine wpAny_pure ?_
      cases r2
      exact fin s2 l2 S2 _ _ _ _ _ st2 le2 .none (.int _ _) (by rw [slicePick_min]; exact (hrs.mono le2.1).take n) k
    | some u, none, k1 =>
      refine wpAny_Slice (wpAny_mono (k1.run s1 l1 base st1) ?_ fun _ _ x => x)
      rintro uv s2 ⟨b, S2, l2, ⟨n, rfl, hn, k⟩, le2, st2, r2⟩
      refine wpAny_pure (wpAny_pure ?_)
      cases r2
      exact fin s2 l2 S2 _ _ _ _ _ st2 le2 (.int _ _) .none (by rw [slicePick_from items n (by omega)]; exact (hrs.mono le2.1).drop n) k
    | none, none, k1 => exact k1.elim
    | some _, some _, k1 => exact k1.elim

/-! ### stores into objects -/
structure SetOk (C : Cx) (S : Store) (a i v : PV) (S' : Store) : Prop where
  run : ∀ s look base x j y, St C base S look s → Rep look x a → Rep look j i → Rep look y v → wpAny (model C.G.prog C.G.w) C.A (setItem x j y) (fun _ s' => ∃ look', Ext base look look' ∧ St C base S' look' s') NoE s
theorem x_setitem {o i value : Expr} {p pos : Pos} {K : Fl → Store → Prop} (hsw : swapsWith value (some (.Subscript o i p)) pos.line C.env = pure false)
    (h : wpE C value (fun v S1 => wpE C o (fun a S2 => wpE C i (fun j S3 => ∃ S4, SetOk C S3 a j v S4 ∧ K .next S4) S2) S1) S) : wpX C (.Assign [.Subscript o i p] value pos) K S := by
  refine .mk fun s look base hs => ?_
  refine wpAny_Assign_Subscript (wpAny_mono (h.run s look base hs) ?_ fun _ _ x => x) hsw
  rintro y s1 ⟨v, S1, l1, k1, le1, st1, r1⟩
  refine wpAny_mono (k1.run s1 l1 base st1) ?_ fun _ _ x => x
  rintro x s2 ⟨a, S2, l2, k2, le2, st2, r2⟩
  refine wpAny_mono (k2.run s2 l2 base st2) ?_ fun _ _ x => x
  rintro j s3 ⟨jj, S3, l3, ⟨S4, ok, k⟩, le3, st3, r3⟩
  refine wpAny_mono (ok.run s3 l3 base x j y st3 (r2.mono le3.1) r3 (r1.mono (le2.trans le3).1)) ?_ fun _ _ x => x
  rintro _ s4 ⟨l4, le4, st4⟩
  exact ⟨.next, S4, l4, k, le1.trans (le2.trans (le3.trans le4)), st4, trivial⟩

theorem set_list {a : Addr} {l : List PV} {k : Nat} {v : PV} {cel' : List (Addr × Cont)} (u : CUpd a (.lst l) (.lst (l.set k v)) S.cel cel') (hk : k < l.length) (hsz : l.length ≤ 1000000) : SetOk C S (.ptr a) (.int k) v { S with cel := cel' } := by
  refine .mk fun s look base x j y hs hx hj hy => ?_
  cases hx; cases hj
  obtain ⟨items, n, ho, hr⟩ := hs.own a _ u.mem
  have hlen : items.size = l.length := by simpa using hr.length
  refine ki_setAt ho (by omega) (by omega) (by rw [hlen]; omega) ⟨look, Ext.refl _ _, hs.upd u (Heap.SameBut.update ..) ?_⟩
  have q := IsL.update ho (·.setIfInBounds (k : Int).toNat y)
  refine ⟨_, _, q, ?_⟩
  rw [Array.toList_setIfInBounds]
  exact hr.set hy k

end Mine
end

section
open PySem PySem.W PyProof.Rows
set_option maxRecDepth 100000
set_option linter.unusedVariables false

namespace Mine
variable {C : Cx} {S : Store} {base : Lk}

/-! ### calls of built-ins -/
structure CallOk (C : Cx) (S : Store) (f : Value) (pvs : List PV) (c : PV) (S' : Store) : Prop where
  run : ∀ s look base vs, St C base S look s → Reps look vs pvs → wpAny (model C.G.prog C.G.w) C.A (call f vs) (fun r s' => ∃ look', Ext base look look' ∧ St C base S' look' s' ∧ Rep look' r c) NoE s

noncomputable def biNames : List Str := ["abs", "len", "max", "range", "list", "sorted", "reversed", "enumerate", "sum"]

theorem load_bi {n : Nat} (ok : C.Ok n) {x : Str} {pos : Pos} {v : Value} {s : Shared} {look : Lk} (hs : St C base S look s) (hx : C.env.kindOf x = some .globalImplicit) (hb : x ∈ biNames) (hv : bootBuiltins x = some v) (hn : x ≠ "__name__")
    (hd : (x == ("__debug__" : Str)) = false) {Q : Value → Shared → Prop} (h : Q v s) : wpAny (model C.G.prog C.G.w) C.A (eval (.Name x pos) C.env) Q NoE s := by
  have T := C.G.top
  have keep : ∀ b o, C.G.h₀.get? b = some o → s.heap.get? b = some o := fun b o e => hs.keep b o (hs.top b o e)
  exact Calls.Name_function_global ok.kind hx (Calls.loadGlobal_builtin (by rw [ok.glob]; exact T.g.keeps keep) (C.G.nob x hb) (by rw [ok.bltn]; exact T.b.keeps keep) ((T.builtins x hn).trans hv) h) hd

/-- a name of a built-in function or type -/
structure BiOk (C : Cx) (x : Str) (v : Value) : Prop where
  kind : C.env.kindOf x = some .globalImplicit
  mem : x ∈ biNames
  val : bootBuiltins x = some v
  nn : x ≠ "__name__"
  nd : (x == ("__debug__" : Str)) = false

abbrev KCall (C : Cx) (f : Value) (K : PV → Store → Prop) : List PV → Store → Prop := fun pvs S1 => ∃ c S2, CallOk C S1 f pvs c S2 ∧ K c S2
theorem e_callF {n : Nat} (ok : C.Ok n) {x : Str} {p pos : Pos} {e : Expr} {rest : List Expr} {id : String} {K : PV → Store → Prop} (hb : BiOk C x (.builtin id))
    (he : starEach (e :: rest) C.env = (false, eval e C.env) :: starEach rest C.env) (hp : (backTo pos (starEach rest C.env)).any (·.1) = false)
    (h : wpL C (e :: rest) (KCall C (.builtin id) K) S) : wpE C (.Call (.Name x p) (e :: rest) [] pos) K S := by
  refine .mk fun s look base hs => ?_
  refine Call_ (load_bi ok hs hb.kind hb.mem hb.val hb.nn hb.nd ?_) rfl
  refine callWith_builtin1 (wpAny_mono (h.run s look base pos hs) ?_ fun _ _ x => x) he hp
  rintro vs s1 ⟨pvs, S1, l1, ⟨c, S2, hc, k⟩, le1, st1, r1⟩
  refine wpAny_mono (hc.run s1 l1 base vs st1 r1) ?_ fun _ _ x => x
  rintro r s2 ⟨l2, le2, st2, r2⟩
  exact ⟨c, S2, l2, k, le1.trans le2, st2, r2⟩
theorem e_callT {n : Nat} (ok : C.Ok n) {x : Str} {p pos : Pos} {e : Expr} {rest : List Expr} {T : String} {K : PV → Store → Prop} (hb : BiOk C x (.type T))
    (he : starEach (e :: rest) C.env = (false, eval e C.env) :: starEach rest C.env) (hp : (backTo pos (starEach rest C.env)).any (·.1) = false)
    (h : wpL C (e :: rest) (KCall C (.type T) K) S) : wpE C (.Call (.Name x p) (e :: rest) [] pos) K S := by
  refine .mk fun s look base hs => ?_
  refine Call_ (load_bi ok hs hb.kind hb.mem hb.val hb.nn hb.nd ?_) rfl
  refine PyProof.Rows.callWith_type1 (wpAny_mono (h.run s look base pos hs) ?_ fun _ _ x => x) he hp
  rintro vs s1 ⟨pvs, S1, l1, ⟨c, S2, hc, k⟩, le1, st1, r1⟩
  refine wpAny_mono (hc.run s1 l1 base vs st1 r1) ?_ fun _ _ x => x
  rintro r s2 ⟨l2, le2, st2, r2⟩
  exact ⟨c, S2, l2, k, le1.trans le2, st2, r2⟩

/-- cases of what stands for the arguments -/
theorem Reps.one {look : Lk} {vs : List Value} {a : PV} (h : Reps look vs [a]) : ∃ v, vs = [v] ∧ Rep look v a := by
  cases h with | cons h1 h2 => cases h2; exact ⟨_, rfl, h1⟩
theorem Reps.two {look : Lk} {vs : List Value} {a b : PV} (h : Reps look vs [a, b]) : ∃ v u, vs = [v, u] ∧ Rep look v a ∧ Rep look u b := by
  cases h with | cons h1 h2 => obtain ⟨u, rfl, h3⟩ := h2.one; exact ⟨_, _, rfl, h1, h3⟩
theorem Reps.three {look : Lk} {vs : List Value} {a b c : PV} (h : Reps look vs [a, b, c]) : ∃ v u t, vs = [v, u, t] ∧ Rep look v a ∧ Rep look u b ∧ Rep look t c := by
  cases h with | cons h1 h2 => obtain ⟨u, t, rfl, h3, h4⟩ := h2.two; exact ⟨_, _, _, rfl, h1, h3, h4⟩

theorem call_abs {i : Int} : CallOk C S (.builtin "abs") [.int i] (.int (if i < 0 then -i else i)) S := by
  refine .mk fun s look base vs hs hr => ?_
  obtain ⟨v, rfl, h⟩ := hr.one; cases h
  exact call_abs_int fun u tk => ⟨look, Ext.refl _ _, hs.tok tk, .int _ _⟩
theorem call_len_lst {l : List PV} (hsz : l.length ≤ 1000000) : CallOk C S (.builtin "len") [.lst l] (.int l.length) S := by
  refine .mk fun s look base vs hs hr => ?_
  obtain ⟨v, rfl, h⟩ := hr.one
  cases h with
  | @lst a items m _ h hrs =>
    have hlen : items.size = l.length := by simpa using hrs.length
    refine Calls.call_len_list ⟨_, hs.sub _ _ h, rfl, _, rfl⟩ (by rw [hlen]; omega) ⟨look, Ext.refl _ _, hs.tok _, ?_⟩
    rw [hlen]; exact .int _ _
theorem call_len_ptr {a : Addr} {l : List PV} (hm : (a, Cont.lst l) ∈ S.cel) (hsz : l.length ≤ 1000000) : CallOk C S (.builtin "len") [.ptr a] (.int l.length) S := by
  refine .mk fun s look base vs hs hr => ?_
  obtain ⟨v, rfl, h⟩ := hr.one
  cases h with
  | ptr =>
    obtain ⟨items, n, ho, hrs⟩ := hs.own a _ hm
    have hlen : items.size = l.length := by simpa using hrs.length
    refine Calls.call_len_list ⟨_, ho, rfl, _, rfl⟩ (by rw [hlen]; omega) ⟨look, Ext.refl _ _, hs.tok _, ?_⟩
    rw [hlen]; exact .int _ _
theorem call_max {n : Nat} (ok : C.Ok n) {i j : Int} : CallOk C S (.builtin "max") [.int i, .int j] (.int (max i j)) S := by
  refine .mk fun s look base vs hs hr => ?_
  obtain ⟨v, u, rfl, h1, h2⟩ := hr.two; cases h1; cases h2
  refine max_two_ints ok.hand fun h' tk hk => ⟨look, Ext.refl _ _, hs.grow hk (Le.refl _) (fun b o e => hk _ _ (hs.sub _ _ e)) (fun b o e => .inl ⟨o, e⟩), ?_⟩
  by_cases h : j > i
  · rw [if_pos h, Int.max_eq_right (Int.le_of_lt h)]; exact .int _ _
  · rw [if_neg h, Int.max_eq_left (by omega)]; exact .int _ _
theorem call_range1 {b : Int} : CallOk C S (.type "range") [.int b] (.rng 0 b) S := by
  refine .mk fun s look base vs hs hr => ?_
  obtain ⟨v, rfl, h⟩ := hr.one
  cases h with
  | int _ t =>
    refine call_range_1 ?_
    have p := hs.push { cls := .type "range", data := .fields #[.int 0 s.toks, .int b t, .int 1 (s.toks + 1)] } rfl (tk := s.toks + 1 + 1)
    exact ⟨_, p.2, p.1, .rng look_new⟩
theorem call_range2 {a b : Int} : CallOk C S (.type "range") [.int a, .int b] (.rng a b) S := by
  refine .mk fun s look base vs hs hr => ?_
  obtain ⟨v, u, rfl, h1, h2⟩ := hr.two
  cases h1 with
  | int _ t =>
    cases h2 with
    | int _ t' =>
      refine call_range_2 ?_
      have p := hs.push { cls := .type "range", data := .fields #[.int a t, .int b t', .int 1 s.toks] } rfl (tk := s.toks + 1)
      exact ⟨_, p.2, p.1, .rng look_new⟩
theorem call_list {l : List PV} (hsz : l.length ≤ 1000000) : CallOk C S (.type "list") [.lst l] (.lst l) S := by
  refine .mk fun s look base vs hs hr => ?_
  obtain ⟨v, rfl, h⟩ := hr.one
  cases h with
  | @lst a items m _ h hrs =>
    have hlen : items.size = l.length := by simpa using hrs.length
    refine call_list_seq a (T := "list") (.inl rfl) (hs.sub _ _ h) rfl rfl (fun h' c' hk hn => ?_) (by rw [hlen, sizeLine_eq]; omega)
    have le : Le look (fun b => if b = s.heap.objs.size then some { cls := .type "list", dict := none, data := .seq items c', slots := #[] } else look b) := fun b o' e => by
      show (if b = s.heap.objs.size then _ else look b) = some o'
      rw [if_neg, e]
      rintro rfl; rw [hs.lookFresh] at e; cases e
    refine ⟨_, ⟨le, fun b o e => ?_⟩, hs.grow hk le (fun b o e => ?_) (fun b o e => ?_), .lst (if_pos rfl) (hrs.mono le)⟩
    · by_cases hb : b = s.heap.objs.size
      · subst hb; exact .inr hs.baseFresh
      · simp [hb] at e; exact .inl e
    · by_cases hb : b = s.heap.objs.size
      · subst hb; simp at e; subst e; exact hn
      · simp [hb] at e; exact hk _ _ (hs.sub _ _ e)
    · by_cases hb : b = s.heap.objs.size
      · subst hb; exact .inr (get_size _)
      · simp [hb] at e; exact .inl ⟨_, e⟩

/-! ### methods of owned lists -/
theorem e_methL {o e : Expr} {rest : List Expr} {name : Str} {apos pos : Pos} {id : String} {K : PV → Store → Prop} (hbase : attributeBase o name C.env (eval o C.env) = eval o C.env)
    (hfew : ((backTo pos (starEach (e :: rest) C.env)).all (fun x => !x.1) && (backToKw pos (keywordEach [] C.env)).all (fun x => x.1.isSome)
      && decide ((e :: rest).length + ([] : List Keyword).length + (if ([] : List Keyword).isEmpty then 0 else 1) < 30)) = true)
    (hline : (apos.endLine == pos.line) = true) (slot : Slot "list" name id) (hty : typeOf (.builtin id) = pure (.type "method_descriptor"))
    (he : starEach (e :: rest) C.env = (false, eval e C.env) :: starEach rest C.env) (hp : (backTo pos (starEach rest C.env)).any (·.1) = false)
    (h : wpE C o (fun a S1 => ∃ ad l, a = .ptr ad ∧ (ad, Cont.lst l) ∈ S1.cel ∧ wpL C (e :: rest) (fun pvs S2 => ∃ c S3, CallOk C S2 (.builtin id) (a :: pvs) c S3 ∧ K c S3) S1) S) :
    wpE C (.Call (.Attribute o name apos) (e :: rest) [] pos) K S := by
  refine .mk fun s look base hs => ?_
  refine wpAny_Call_method hbase hfew hline PySem.F.plainAttrs_list slot hty (wpAny_mono (h.run s look base hs) ?_ fun _ _ x => x)
  rintro v s1 ⟨a, S1, l1, ⟨ad, l, rfl, hm, k1⟩, le1, st1, r1⟩
  cases r1
  obtain ⟨items, n, ho, hrs⟩ := st1.own ad _ hm
  refine ⟨⟨_, ho, rfl⟩, fun a e => by cases e; exact ⟨_, ho, rfl⟩, ?_⟩
  refine callWith_method1 (wpAny_mono (k1.run s1 l1 base pos st1) ?_ fun _ _ x => x) he hp
  rintro vs s2 ⟨pvs, S2, l2, ⟨c, S3, hc, k⟩, le2, st2, r2⟩
  refine wpAny_mono (hc.run s2 l2 base (.ref ad :: vs) st2 (.cons (.ptr _) r2)) ?_ fun _ _ x => x
  rintro r s3 ⟨l3, le3, st3, r3⟩
  exact ⟨c, S3, l3, k, le1.trans (le2.trans le3), st3, r3⟩

theorem call_append {a : Addr} {l : List PV} {v : PV} {cel' : List (Addr × Cont)} (u : CUpd a (.lst l) (.lst (l ++ [v])) S.cel cel') (hsz : l.length ≤ 1000000) : CallOk C S (.builtin "list.append") [.ptr a, v] .none { S with cel := cel' } := by
  refine .mk fun s look base vs hs hr => ?_
  obtain ⟨x, y, rfl, h1, h2⟩ := hr.two; cases h1
  obtain ⟨items, n, ho, hrs⟩ := hs.own a _ u.mem
  have hlen : items.size = l.length := by simpa using hrs.length
  refine wpAny_list_append_plain ⟨n, ho⟩ (fun h' hl hsb => ⟨look, Ext.refl _ _, hs.upd u hsb ?_, .none⟩) (by rw [hlen, sizeLine_eq]; omega)
  obtain ⟨n', hn'⟩ := hl
  refine ⟨_, n', hn', ?_⟩
  rw [Array.toList_push]; exact hrs.snoc h2
theorem insert_list {prog : Program} {w : World} {A : Around} {E : Value → Shared → Prop} {s : Shared} {a : Addr} {li : List Value} {n : Nat} {k : Int} {t : Tok} {y : Value} {Q : Value → Shared → Prop} (ho : IsL s.heap a li.toArray n)
    (hf : Builtin.List.listFitsIndex k = true) (hz : li.length ≤ sizeLine) (h : ∀ h', (∃ n', IsL h' a (kl_ins li k y).toArray n') → Heap.SameBut a s.heap h' → Q .none { s with heap := h' }) :
    wpAny (model prog w) A (call (.builtin "list.insert") [.ref a, .int k t, y]) Q E s := by
  have hex : ∃ n', IsL (s.heap.update a (Obj.mapSeq fun xs => have k' := if k < 0 then (k + (xs.size : Int)).toNat else min k.toNat xs.size; (xs.extract 0 k').push y ++ xs.extract k')) a (kl_ins li k y).toArray n' := by
    have q := IsL.update ho (fun xs => have k' := if k < 0 then (k + (xs.size : Int)).toNat else min k.toNat xs.size; (xs.extract 0 k').push y ++ xs.extract k')
    have e : ((fun xs : Array Value => have k' := if k < 0 then (k + (xs.size : Int)).toNat else min k.toNat xs.size; (xs.extract 0 k').push y ++ xs.extract k') li.toArray) = (kl_ins li k y).toArray := by
      show (li.toArray.extract 0 (if k < 0 then (k + (li.toArray.size : Int)).toNat else min k.toNat li.toArray.size)).push y ++ li.toArray.extract (if k < 0 then (k + (li.toArray.size : Int)).toNat else min k.toNat li.toArray.size) = _
      rw [kl_ins_eq, List.size_toArray]
      rfl
    rw [← e]
    exact ⟨_, q⟩
  exact call_meets PySem.F.slot_list_insert ⟨_, ho, rfl⟩ PySem.F.entry_list_insert (PySem.F.args_list_insert_3 _ _ _) (PySem.AutoSeq1.list_insert_list_int_val_1 a _ n k t y (by simp [hf]) (by rw [List.size_toArray]; exact hz)) ⟨ho, h _ hex (Heap.SameBut.update ..)⟩
theorem call_insert {a : Addr} {l : List PV} {k : Nat} {v : PV} {cel' : List (Addr × Cont)} (u : CUpd a (.lst l) (.lst (l.take k ++ v :: l.drop k)) S.cel cel') (hsz : l.length ≤ 1000000) (hk : k ≤ l.length) :
    CallOk C S (.builtin "list.insert") [.ptr a, .int k, v] .none { S with cel := cel' } := by
  refine .mk fun s look base vs hs hr => ?_
  obtain ⟨x, i, y, rfl, h1, h2, h3⟩ := hr.three; cases h1
  obtain ⟨items, n, ho, hrs⟩ := hs.own a _ u.mem
  have hlen : items.size = l.length := by simpa using hrs.length
  obtain ⟨li, rfl⟩ : ∃ li : List Value, items = li.toArray := ⟨items.toList, by rw [Array.toArray_toList]⟩
  have hli : li.length = l.length := by simpa using hlen
  cases h2 with
  | int _ t =>
    refine insert_list ho (by simp [Builtin.List.listFitsIndex]; omega) (by rw [hli, sizeLine_eq]; omega) fun h' hn hsb => ?_
    obtain ⟨n', hn'⟩ := hn
    refine ⟨look, Ext.refl _ _, hs.upd u hsb ⟨_, n', hn', ?_⟩, .none⟩
    have e : kl_ins li (k : Int) y = li.take k ++ y :: li.drop k := by
      unfold kl_ins
      have : (if (k : Int) < 0 then ((k : Int) + (li.length : Int)).toNat else min (k : Int).toNat li.length) = k := by rw [if_neg (by omega)]; omega
      rw [this]
    rw [e]
    exact (hrs.take k).append (.cons h3 (hrs.drop k))

theorem x_expr {n : Nat} (ok : C.Ok n) {e : Expr} {pos : Pos} {K : Fl → Store → Prop} (hsw : swapsWith e none pos.line C.env = pure false) (h : wpE C e (fun a S1 => a = .none ∧ K .next S1) S) : wpX C (.Expr e pos) K S := by
  refine .mk fun s look base hs => ?_
  refine wpAny_Expr (wpAny_mono (h.run s look base hs) ?_ fun _ _ x => x) (by unfold interactive; rw [ok.kind]; rfl) hsw
  rintro v s1 ⟨a, S1, l1, ⟨rfl, k⟩, le1, st1, r1⟩
  cases r1
  exact ⟨.next, S1, l1, k, le1, st1, trivial⟩

/-! ### assigning to several names at once -/
theorem x_aug {n : Nat} (ok : C.Ok n) {x : Str} {p pos : Pos} {op : Operator} {value : Expr} {K : Fl → Store → Prop} (hr : Reads1 C x) (hx : Wr1 C x) {old : PV} (hv : S.var x = some old)
    (h : wpE C value (fun b S1 => ∃ i j, old = .int i ∧ b = .int j ∧ ((op = .Add ∧ K .next (S1.set x (.int (i + j)))) ∨ (op = .Sub ∧ K .next (S1.set x (.int (i - j)))))) S) : wpX C (.AugAssign (.Name x p) op value pos) K S := by
  refine .mk fun s look base hs => ?_
  refine wpAny_AugAssign_Name (load_var ok hs hv hr fun v r => ?_)
  refine wpAny_mono (h.run s look base hs) ?_ fun _ _ x => x
  rintro u s1 ⟨b, S1, l1, ⟨i, j, rfl, rfl, k⟩, le1, st1, r1⟩
  cases r; cases r1
  rcases k with ⟨rfl, k⟩ | ⟨rfl, k⟩
  · exact PyProof.Rows.iadd_int (store_var ok (st1.tok _) hx (.int _ _) fun s2 st2 => ⟨.next, _, l1, k, le1, st2, trivial⟩)
  · exact PyProof.Rows.isub_int (store_var ok (st1.tok _) hx (.int _ _) fun s2 st2 => ⟨.next, _, l1, k, le1, st2, trivial⟩)

noncomputable def setAll : List Str → List PV → Store → Store
  | x :: xs, v :: vs, S => setAll xs vs (S.set x v)
  | _, _, S => S

theorem unpack_tup {n : Nat} (ok : C.Ok n) {look : Lk} {s : Shared} {v : Value} {l : List PV} (hs : St C base S look s) (hr : Rep look v (.tup l)) {k : Nat} (hk : k = l.length) {Q : List Value → Shared → Prop}
    (h : ∀ vs s', Reps look vs l → St C base S look s' → Q vs s') : wpAny (model C.G.prog C.G.w) C.A (unpackItems v k none) Q NoE s := by
  cases hr with
  | @tup a items m _ ha hrs =>
    have ht : IsTup s.heap a items := ⟨_, hs.sub _ _ ha, rfl, _, rfl⟩
    have hlen : items.size = l.length := by simpa using hrs.length
    subst hk
    rw [← hlen]
    refine unpackItems_tuple ok.hand ht fun h' he => ?_
    refine h _ _ hrs (hs.grow (fun b o e => ?_) (Le.refl _) (fun b o e => ?_) fun b o e => .inl ⟨o, e⟩)
    · exact he b o (Nat.ne_of_lt (Heap.lt_size e)) e
    · exact he b o (Nat.ne_of_lt (Heap.lt_size (hs.sub b o e))) (hs.sub b o e)

theorem bindNames {n : Nat} (ok : C.Ok n) {look : Lk} : ∀ (xs : List Str) (vs : List Value) (l : List PV) (S : Store) (s : Shared) (Q : Unit → Shared → Prop), (∀ x ∈ xs, Wr1 C x) → Reps look vs l → xs.length = l.length → St C base S look s →
    (∀ s', St C base (setAll xs l S) look s' → Q () s') → wpAny (model C.G.prog C.G.w) C.A (assignInOrder (xs.map fun x => bindName C.env x) vs) Q NoE s
  | [], vs, l, S, s, Q, _, hr, hl, hs, h => by
    cases l with
    | nil => cases hr; exact wpAny_pure (h s hs)
    | cons _ _ => cases hl
  | x :: xs, vs, l, S, s, Q, hw, hr, hl, hs, h => by
    cases l with
    | nil => cases hl
    | cons p l =>
      cases hr with
      | @cons v _ vs _ h1 h2 =>
        show wpAny _ _ (do holding vs (bindName C.env x v); assignInOrder (xs.map fun x => bindName C.env x) vs) _ _ _
        refine wpAny_bind (wpAny_holding (wpAny_bindName (store_var ok hs (hw x (.head _)) h1 fun s' st => ?_)))
        exact bindNames ok xs vs l _ s' Q (fun y hy => hw y (.tail _ hy)) h2 (by simpa using hl) st h

/-- several names take a tuple's items, in this order -/
theorem x_assignT {n : Nat} (ok : C.Ok n) {elts : List Expr} {k : Nat} {tpos pos : Pos} {value : Expr} {K : Fl → Store → Prop} (xs : List Str) (hw : ∀ x ∈ xs, Wr1 C x)
    (hs : swapsWithSole [.Tuple elts k tpos] value pos.line C.env = pure false)
    (hsw : swappedStores [.Tuple elts k tpos] value C.env = pure (some xs))
    (h : wpE C value (fun a S1 => ∃ l, a = .tup l ∧ xs.length = l.length ∧ K .next (setAll xs.reverse l.reverse S1)) S) : wpX C (.Assign [.Tuple elts k tpos] value pos) K S := by
  refine .mk fun s look base hst => ?_
  refine Assign_Tuple_swapped (wpAny_mono (h.run s look base hst) ?_ fun _ _ x => x) hs hsw
  rintro v s1 ⟨a, S1, l1, ⟨l, rfl, hl, k1⟩, le1, st1, r1⟩
  refine unpack_tup ok st1 r1 hl fun vs s2 hr st2 => ?_
  exact bindNames ok xs.reverse vs.reverse l.reverse S1 s2 _ (fun x hx => hw x (List.mem_reverse.mp hx)) hr.reverse (by simp [hl]) st2 fun s3 st3 => ⟨.next, _, l1, k1, le1, st3, trivial⟩

end Mine
end

section
open PySem PySem.W PyProof.Rows
set_option maxRecDepth 100000
set_option linter.unusedVariables false

namespace Mine
variable {C : Cx} {S : Store} {base : Lk}

theorem asg_two {n : Nat} (ok : C.Ok n) {x y : Str} {px py p : Pos} {k : Nat} {a b : PV} (hx : Wr1 C x) (hy : Wr1 C y) : AsgOk C (.Tuple [.Name x px, .Name y py] k p) (.tup [a, b]) S ((S.set x a).set y b) := by
  refine .mk fun s look base v hs hr => ?_
  rw [arm_assign_Tuple]
  refine wpAny_bind (wpAny_standAt ?_)
  show wpAny _ _ (do assignInOrder ((assignEach [.Name x px, .Name y py] C.env).map (·.2)) (← holding [v] (unpackItems v 2 none))) _ _ _
  refine wpAny_bind (wpAny_holding (unpack_tup ok hs hr rfl fun vs s' hvs st => ?_))
  obtain ⟨u, w, rfl, h1, h2⟩ := hvs.two
  show wpAny _ _ (do holding [w] (assign (.Name x px) C.env u); do holding [] (assign (.Name y py) C.env w); pure ()) _ _ _
  refine wpAny_bind (wpAny_holding (PyProof.Rows.assign_Name (store_var ok st hx h1 fun s2 st2 => ?_)))
  refine wpAny_bind (wpAny_holding (PyProof.Rows.assign_Name (store_var ok st2 hy h2 fun s3 st3 => ?_)))
  exact wpAny_pure ⟨look, Ext.refl _ _, st3⟩

theorem x_assignT0 {n : Nat} (ok : C.Ok n) {elts : List Expr} {k : Nat} {tpos pos : Pos} {value : Expr} {K : Fl → Store → Prop}
    (hs : swapsWithSole [.Tuple elts k tpos] value pos.line C.env = pure false) (hsw : swappedStores [.Tuple elts k tpos] value C.env = pure none)
    (h : wpE C value (fun a S1 => ∃ S2, AsgOk C (.Tuple elts k tpos) a S1 S2 ∧ K .next S2) S) : wpX C (.Assign [.Tuple elts k tpos] value pos) K S := by
  refine .mk fun s look base hst => ?_
  refine Assign_Tuple (wpAny_mono (h.run s look base hst) ?_ fun _ _ x => x) hs hsw
  rintro v s1 ⟨a, S1, l1, ⟨S2, ha, k1⟩, le1, st1, r1⟩
  refine wpAny_mono (ha.run s1 l1 base v st1 r1) ?_ fun _ _ x => x
  rintro _ s2 ⟨l2, le2, st2⟩
  exact ⟨.next, S2, l2, k1, le1.trans le2, st2, trivial⟩

/-! ### the text's own functions -/
/-- what a def does: its arguments, the owned objects that it is handed, what it gives back -/
noncomputable def FnSpec (G : GE) (d : DefRec) (k : Nat) (pvs : List PV) (cin : List (Addr × Cont)) (K : PV → List (Addr × Cont) → Prop) : Prop :=
  ∀ (A : Around) (s : Shared) (look : Lk) (vs : List Value) (f : Addr), G.mg d.name = some (.ref f) → A.handled = none → A.depth + k ≤ 900 → A.units + 16 * k ≤ 9000 →
    (∀ b o, G.h₀.get? b = some o → s.heap.get? b = some o) → (∀ b o, look b = some o → s.heap.get? b = some o) → Reps look vs pvs →
    (∀ a c, (a, c) ∈ cin → ContAt G look s.heap a c ∧ look a = none ∧ G.h₀.get? a = none) → (cin.map (·.1)).Nodup →
    wpAny (model G.prog G.w) A (call (.ref f) vs) (fun v s' => ∃ pv cout look', K pv cout ∧ (∃ h tk, s' = { s with heap := h, toks := tk }) ∧
      (∀ b o, b ∉ cin.map (·.1) → s.heap.get? b = some o → s'.heap.get? b = some o) ∧ Le look look' ∧ (∀ b o, look' b = some o → s'.heap.get? b = some o) ∧
      (∀ b o, look' b = some o → look b = some o ∨ s.heap.get? b = none ∨ b ∈ cin.map (·.1)) ∧ Rep look' v pv ∧
      (∀ a c, (a, c) ∈ cout → ContAt G look' s'.heap a c ∧ look' a = none ∧ (a ∈ cin.map (·.1) ∨ s.heap.get? a = none)) ∧ (cout.map (·.1)).Nodup) NoE s

theorem FnSpec.mono {G : GE} {d : DefRec} {k : Nat} {pvs : List PV} {cin : List (Addr × Cont)} {K K' : PV → List (Addr × Cont) → Prop} (h : FnSpec G d k pvs cin K) (hK : ∀ p c, K p c → K' p c) : FnSpec G d k pvs cin K' :=
  fun A s look vs f h1 h2 h3 h4 h5 h6 h7 h8 h9 => wpAny_mono (h A s look vs f h1 h2 h3 h4 h5 h6 h7 h8 h9) (fun _ _ ⟨pv, co, l', k, r⟩ => ⟨pv, co, l', hK _ _ k, r⟩) fun _ _ x => x

/-- the context in a def's frame -/
noncomputable def fnCx (G : GE) (d : DefRec) (A : Around) (L f : Addr) (pm code doc : Value) (s₀ : Shared) : Cx :=
  { G := G, A := A.deeper (callEnvC (Calls.docDef d.name d.params d.body d.scope pm code doc) L f), env := callEnvC (Calls.docDef d.name d.params d.body d.scope pm code doc) L f, s₀ := s₀ }

theorem bindL_other {kind : Str → Option NameKind} : ∀ (names : List Str) (vs : List Value) (m : Str → Option Value) (x : Str), x ∉ names → bindL kind (names.zip vs) m x = m x
  | [], _, _, _, _ => rfl
  | _ :: _, [], _, _, _ => rfl
  | n :: ns, v :: vs, m, x, h => by
    show bindL kind (ns.zip vs) _ x = m x
    rw [bindL_other ns vs _ x fun q => h (.tail _ q)]
    split
    · exact if_neg fun (q : x = n) => h (by rw [q]; exact .head _)
    · rfl
theorem bindL_get {kind : Str → Option NameKind} {look : Lk} : ∀ (names : List Str) (vs : List Value) (pvs : List PV) (m : Str → Option Value) (x : Str) (pv : PV), names.Nodup → Reps look vs pvs → vget (names.zip pvs) x = some pv → kind x = some .local →
    ∃ v, bindL kind (names.zip vs) m x = some v ∧ Rep look v pv
  | [], _, _, _, _, _, _, _, h, _ => by cases h
  | n :: ns, vs, pvs, m, x, pv, hn, hr, h, hk => by
    cases hr with
    | nil => cases h
    | @cons v p vs ps h1 h2 =>
      rw [List.nodup_cons] at hn
      by_cases hx : n = x
      · subst hx
        simp [vget] at h
        subst h
        refine ⟨v, ?_, h1⟩
        show bindL kind (ns.zip vs) _ n = some v
        rw [bindL_other ns vs _ n hn.1, if_pos hk]
        exact if_pos rfl
      · have h' : vget (ns.zip ps) x = some pv := by simpa [vget, hx] using h
        exact bindL_get ns vs ps _ x pv hn.2 h2 h' hk
theorem bindC_other {kind : Str → Option NameKind} : ∀ (names : List Str) (vs : List Value) (m : Str → Option Value) (x : Str), x ∉ names → bindC kind (names.zip vs) m x = m x
  | [], _, _, _, _ => rfl
  | _ :: _, [], _, _, _ => rfl
  | n :: ns, v :: vs, m, x, h => by
    show bindC kind (ns.zip vs) _ x = m x
    rw [bindC_other ns vs _ x fun q => h (.tail _ q)]
    split
    · rfl
    · exact if_neg fun (q : x = n) => h (by rw [q]; exact .head _)
theorem bindC_get {kind : Str → Option NameKind} {look : Lk} : ∀ (names : List Str) (vs : List Value) (pvs : List PV) (m : Str → Option Value) (x : Str) (pv : PV), names.Nodup → Reps look vs pvs → vget (names.zip pvs) x = some pv → kind x ≠ some .local →
    ∃ v, bindC kind (names.zip vs) m x = some v ∧ Rep look v pv
  | [], _, _, _, _, _, _, _, h, _ => by cases h
  | n :: ns, vs, pvs, m, x, pv, hn, hr, h, hk => by
    cases hr with
    | nil => cases h
    | @cons v p vs ps h1 h2 =>
      rw [List.nodup_cons] at hn
      by_cases hx : n = x
      · subst hx
        simp [vget] at h
        subst h
        refine ⟨v, ?_, h1⟩
        show bindC kind (ns.zip vs) _ n = some v
        rw [bindC_other ns vs _ n hn.1, if_neg hk]
        exact if_pos rfl
      · have h' : vget (ns.zip ps) x = some pv := by simpa [vget, hx] using h
        exact bindC_get ns vs ps _ x pv hn.2 h2 h' hk

abbrev KFin (K : PV → List (Addr × Cont) → Prop) : Fl → Store → Prop := fun fl S' => match fl with | .ret pv => K pv S'.cel | .next => K .none S'.cel | _ => False
theorem fn_intro {G : GE} {d : DefRec} {k : Nat} {pvs : List PV} {cin : List (Addr × Cont)} {K : PV → List (Addr × Cont) → Prop} (hd : d ∈ myDefs) (names : List Str) (hnames : names.Nodup) (hlen : pvs.length = names.length)
    (hbind : ∀ pm code doc (vs : List Value), vs.length = names.length → bindArgs (Calls.docDef d.name d.params d.body d.scope pm code doc) ⟨vs, []⟩ = pure (names.zip vs))
    (hkind : (names.all fun x => d.scope.names.lookup x == some .local || d.scope.names.lookup x == some .cell) = true)
    (hco : d.scope.isCoroutine = false) (hgen : d.scope.isGenerator = false) (hk : d.scope.kind = .function)
    (h : ∀ A L f pm code doc s₀, (fnCx G d A L f pm code doc s₀).Ok k → wpB (fnCx G d A L f pm code doc s₀) d.body (KFin K) ⟨names.zip pvs, cin⟩) :
    FnSpec G d (k + 1) pvs cin K := by
  intro A s look vs f hf hh hdp hun h0 hl hr hci hnd
  obtain ⟨a, o, pm, code, doc, e1, e2, e3, e4⟩ := G.top.fn d (G.fns d hd)
  rw [hf] at e1; cases e1
  have hvl : vs.length = names.length := by rw [hr.length, hlen]
  refine wpAny_call (codeAny_call_cells (fd := Calls.docDef d.name d.params d.body d.scope pm code doc) (body := d.body) (binds := names.zip vs) (by simp only [recursionLimit]; omega) (h0 _ _ e2) e3 (G.top.nolimit.keeps h0) (e4.keeps h0) rfl (hbind pm code doc vs hvl) rfl ?_ ?_ hco hgen hk)
  · intro x hx
    have q := List.all_eq_true.mp hkind x.1 (List.of_mem_zip hx).1
    rcases Bool.or_eq_true_iff.mp q with q | q
    · have q' : d.scope.names.lookup x.1 = some .local := by simpa using q
      exact .inl q'
    · have q' : d.scope.names.lookup x.1 = some .cell := by simpa using q
      exact .inr ⟨q', cellsFrom_some _ _ _ (.inl q')⟩
  · intro s₁ X
    have ok : (fnCx G d A s.heap.objs.size f pm code doc s).Ok k := ⟨hk, rfl, rfl, hh, by show A.depth + 1 + k ≤ 900; omega, by show A.units + 3 + 16 * k ≤ 9000; omega⟩
    have fresh : ∀ b o, s.heap.objs.size ≤ b → s.heap.get? b = some o → False := fun b o hb e => absurd (Heap.lt_size e) (Nat.not_lt.mpr hb)
    have hloc : (callEnvC (Calls.docDef d.name d.params d.body d.scope pm code doc) s.heap.objs.size f).locals = s.heap.objs.size := rfl
    have none_of : ∀ b, s.heap.objs.size ≤ b → s.heap.get? b = none := fun b hb => by
      cases q : s.heap.get? b with
      | none => rfl
      | some o => exact (fresh b o hb q).elim
    have look_of : ∀ b, s.heap.objs.size ≤ b → look b = none := fun b hb => by
      cases q : look b with
      | none => rfl
      | some o => exact (fresh b o hb (hl b o q)).elim
    have big : ∀ x c, (callEnvC (Calls.docDef d.name d.params d.body d.scope pm code doc) s.heap.objs.size f).cells.lookup x = some c → s.heap.objs.size < c := fun x c e => X.above x c (mem_of_lookup e)
    let base₀ : Lk := fun b => if b ∈ cin.map (·.1) then none else s.heap.get? b
    have b0 : ∀ b o, base₀ b = some o → s.heap.get? b = some o := fun b o e => by
      have e' : (if b ∈ cin.map (·.1) then none else s.heap.get? b) = some o := e
      split at e'
      · cases e'
      · exact e'
    have b1 : ∀ b, s.heap.get? b = none → base₀ b = none := fun b e => by
      show (if b ∈ cin.map (·.1) then none else s.heap.get? b) = none
      split
      · rfl
      · exact e
    have b2 : ∀ b, b ∈ cin.map (·.1) → base₀ b = none := fun b hb => if_pos hb
    have cinLt : ∀ a c, (a, c) ∈ cin → a < s.heap.objs.size := fun a c e => let ⟨o, ho⟩ := (hci a c e).1.some; Heap.lt_size ho
    have st : St (fnCx G d A s.heap.objs.size f pm code doc s) base₀ ⟨names.zip pvs, cin⟩ look s₁ := by
      refine ⟨X.toInCall.same, fun b o e => ?_, fun b o e => X.toInCall.keep b o (b0 b o e), fun b o e => X.toInCall.keep b o (hl b o e), ⟨_, X.toInCall.ns, fun x pv e1 e2 => bindL_get names vs pvs _ x pv hnames hr e1 e2⟩, fun x c e => ⟨_, X.cell x c e, fun nl pv e1 => bindC_get names vs pvs _ x pv hnames hr e1 nl⟩,
        fun a c e => (hci a c e).1.keeps (Le.refl _) hl (fun o q => X.toInCall.keep a o q) (fun b o q => X.toInCall.keep b o (hl b o q)), hnd, fun a c e => ⟨⟨(hci a c e).2.1, b2 a (List.mem_map.mpr ⟨_, e, rfl⟩)⟩, Nat.ne_of_lt (cinLt a c e), fun x c' e' => Nat.ne_of_lt (Nat.lt_trans (cinLt a c e) (big x c' e'))⟩,
        ⟨look_of _ (Nat.le_refl _), b1 _ (none_of _ (Nat.le_refl _))⟩, fun _ x c e _ => ⟨⟨look_of _ (Nat.le_of_lt (big x c e)), b1 _ (none_of _ (Nat.le_of_lt (big x c e)))⟩, Nat.ne_of_gt (big x c e), fun y d' e' q => ?_⟩⟩
      · show (if b ∈ cin.map (·.1) then none else s.heap.get? b) = some o
        rw [if_neg, h0 b o e]
        intro hb
        obtain ⟨⟨a, c⟩, hm, rfl⟩ := List.mem_map.mp hb
        have e' : G.h₀.get? a = some o := e
        rw [(hci a c hm).2.2] at e'; cases e'
      · subst q
        exact name_of_addr X.apart (mem_of_lookup e) (mem_of_lookup e')
    refine wpAny_mono ((h A s.heap.objs.size f pm code doc s ok).run s₁ look base₀ st) ?_ fun _ _ x => x.elim
    rintro fl s' ⟨flp, S', look', hK, le, st', hfl⟩
    have fin : ∀ v pv, Rep look' v pv → K pv S'.cel → ∃ pv cout look', K pv cout ∧ (∃ h tk, s' = { s with heap := h, toks := tk }) ∧
      (∀ b o, b ∉ cin.map (·.1) → s.heap.get? b = some o → s'.heap.get? b = some o) ∧ Le look look' ∧ (∀ b o, look' b = some o → s'.heap.get? b = some o) ∧
      (∀ b o, look' b = some o → look b = some o ∨ s.heap.get? b = none ∨ b ∈ cin.map (·.1)) ∧ Rep look' v pv ∧
      (∀ a c, (a, c) ∈ cout → ContAt G look' s'.heap a c ∧ look' a = none ∧ (a ∈ cin.map (·.1) ∨ s.heap.get? a = none)) ∧ (cout.map (·.1)).Nodup := by
      intro v pv hrep hk
      have orr : ∀ b, base₀ b = none → b ∈ cin.map (·.1) ∨ s.heap.get? b = none := fun b e => by
        by_cases hb : b ∈ cin.map (·.1)
        · exact .inl hb
        · have e' : (if b ∈ cin.map (·.1) then none else s.heap.get? b) = none := e
          rw [if_neg hb] at e'; exact .inr e'
      refine ⟨pv, S'.cel, look', hk, st'.same, fun b o hb e => st'.keep b o ?_, le.1, st'.sub, fun b o e => (le.2 b o e).imp id fun q => (orr b q).symm, hrep, fun a c e => ⟨st'.own a c e, (st'.ownFree a c e).1.1, orr a (st'.ownFree a c e).1.2⟩, st'.nodup⟩
      show (if b ∈ cin.map (·.1) then none else s.heap.get? b) = some o
      rw [if_neg hb, e]
    cases flp with
    | ret pv => cases fl <;> first | exact absurd hfl id | exact fin _ pv hfl hK
    | next => cases fl <;> first | exact absurd hfl id | exact fin _ _ .none hK
    | brk => exact hK.elim
    | cont => exact hK.elim

abbrev KFn (C : Cx) (d : DefRec) (k : Nat) (K : PV → Store → Prop) : List PV → Store → Prop := fun pvs S1 => ∃ R, FnSpec C.G d k pvs [] R ∧ ∀ pv cout, R pv cout → K pv { S1 with cel := cout ++ S1.cel }
/-- a call of a def that is handed no owned object -/
theorem e_call {n : Nat} (ok : C.Ok (n + 1)) {d : DefRec} (hd : d ∈ myDefs) {p pos : Pos} {x : Str} {e : Expr} {rest : List Expr} {K : PV → Store → Prop} (hx : x = d.name) (hkind : C.env.kindOf x = some .globalImplicit) (hdb : (x == ("__debug__" : Str)) = false)
    (he : starEach (e :: rest) C.env = (false, eval e C.env) :: starEach rest C.env) {k : Nat} (hk : k ≤ n + 1)
    (h : wpL C (e :: rest) (KFn C d k K) S) : wpE C (.Call (.Name x p) (e :: rest) [] pos) K S := by
  subst hx
  refine .mk fun s look base hs => ?_
  obtain ⟨f, o, pm, code, doc, e1, e2, e3, e4⟩ := C.G.top.fn d (C.G.fns d hd)
  have keep : ∀ {s : Shared} {S : Store} {look : Lk}, St C base S look s → ∀ b o, C.G.h₀.get? b = some o → s.heap.get? b = some o := fun hs b o e => hs.keep b o (hs.top b o e)
  refine Call_ (Calls.Name_function_global ok.kind hkind (Calls.loadGlobal_global (by rw [ok.glob]; exact C.G.top.g.keeps (keep hs)) e1 ?_) hdb) rfl
  refine callWith_def e3 (wpAny_mono (h.run s look base pos hs) ?_ fun _ _ x => x) he
  rintro vs s1 ⟨pvs, S1, l1, ⟨R, hfn, hK⟩, le1, st1, r1⟩
  refine ⟨keep st1 _ _ e2, ?_⟩
  refine wpAny_mono (hfn C.A s1 l1 vs f e1 ok.hand (by have := ok.depth; omega) (by have := ok.units; omega) (keep st1) st1.sub r1 (fun _ _ q => nomatch q) List.nodup_nil) ?_ fun _ _ x => x
  rintro v s2 ⟨pv, cout, l2, hR, ⟨h', tk, rfl⟩, hkeep, hle, hsub, hgrow, hrep, hcout, hcn⟩
  have hk' : ∀ b o, s1.heap.get? b = some o → h'.get? b = some o := fun b o e => hkeep b o (fun q => nomatch q) e
  have st2 : St C base S1 l2 { s1 with heap := h', toks := tk } := st1.grow hk' hle hsub fun b o e => (hgrow b o e).elim (fun q => .inl ⟨o, q⟩) fun q => q.elim .inr fun q => nomatch q
  have ext : Ext base l1 l2 := ⟨hle, fun b o e => (hgrow b o e).imp id fun q => q.elim (fun q => by
    cases w : base b with
    | none => rfl
    | some o' => rw [st1.keep b o' w] at q; cases q) fun q => nomatch q⟩
  have new : ∀ a c, (a, c) ∈ cout → s1.heap.get? a = none := fun a c e => (hcout a c e).2.2.elim (fun q => nomatch q) id
  have apart := fun a c (e : (a, c) ∈ cout) => st1.newApart (new a c e)
  refine ⟨pv, _, l2, hK pv cout hR, le1.trans ext, ⟨st2.same, st2.top, st2.keep, st2.sub, st2.vars, st2.cellv, ?_, ?_, ?_, st2.locFree, st2.cellFree⟩, hrep⟩
  · intro a c e
    rcases List.mem_append.mp e with e | e
    · exact (hcout a c e).1
    · exact st2.own a c e
  · show ((cout ++ S1.cel).map (·.1)).Nodup
    rw [List.map_append, List.nodup_append]
    refine ⟨hcn, st2.nodup, ?_⟩
    intro a ha b hb
    obtain ⟨⟨a', c⟩, hm, rfl⟩ := List.mem_map.mp ha
    obtain ⟨⟨b', c'⟩, hm', rfl⟩ := List.mem_map.mp hb
    exact fun q => (apart a' c hm).2.2.2.1 b' c' hm' q.symm
  · intro a c e
    rcases List.mem_append.mp e with e | e
    · have q := apart a c e
      exact ⟨⟨(hcout a c e).2.1, q.1⟩, Ne.symm q.2.2.1, fun x c' e' => Ne.symm (q.2.2.2.2 x c' e')⟩
    · exact st2.ownFree a c e

theorem vget_take (l : List (Str × PV)) (n : Nat) (x : Str) (pv : PV) (h : vget (l.take n) x = some pv) : vget l x = some pv := by
  induction l generalizing n with
  | nil => simpa using h
  | cons p r ih =>
    obtain ⟨y, v⟩ := p
    cases n with
    | zero => cases h
    | succ n =>
      simp only [List.take_succ_cons, vget] at h ⊢
      split at h
      · rename_i q; rw [if_pos q]; exact h
      · rename_i q; rw [if_neg q]; exact ih n h
/-- the later variables are forgotten -/
theorem b_keep {sts : List Stmt} {K : Fl → Store → Prop} (n : Nat) (h : wpB C sts K ⟨S.vs.take n, S.cel⟩) : wpB C sts K S :=
  .mk fun s look base hs => h.run s look base (hs.forget _ fun x pv e => vget_take _ _ _ _ e)

/-! ### the built-ins' names -/
theorem bi_abs {C : Cx} (h : C.env.kindOf "abs" = some .globalImplicit) : BiOk C "abs" (.builtin "abs") := ⟨h, by decide, by decide +kernel, by decide, by decide⟩
theorem bi_len {C : Cx} (h : C.env.kindOf "len" = some .globalImplicit) : BiOk C "len" (.builtin "len") := ⟨h, by decide, by decide +kernel, by decide, by decide⟩
theorem bi_max {C : Cx} (h : C.env.kindOf "max" = some .globalImplicit) : BiOk C "max" (.builtin "max") := ⟨h, by decide, by decide +kernel, by decide, by decide⟩
theorem bi_sorted {C : Cx} (h : C.env.kindOf "sorted" = some .globalImplicit) : BiOk C "sorted" (.builtin "sorted") := ⟨h, by decide, by decide +kernel, by decide, by decide⟩
theorem bi_sum {C : Cx} (h : C.env.kindOf "sum" = some .globalImplicit) : BiOk C "sum" (.builtin "sum") := ⟨h, by decide, by decide +kernel, by decide, by decide⟩
theorem bi_range {C : Cx} (h : C.env.kindOf "range" = some .globalImplicit) : BiOk C "range" (.type "range") := ⟨h, by decide, by decide +kernel, by decide, by decide⟩
theorem bi_list {C : Cx} (h : C.env.kindOf "list" = some .globalImplicit) : BiOk C "list" (.type "list") := ⟨h, by decide, by decide +kernel, by decide, by decide⟩
theorem bi_reversed {C : Cx} (h : C.env.kindOf "reversed" = some .globalImplicit) : BiOk C "reversed" (.type "reversed") := ⟨h, by decide, by decide +kernel, by decide, by decide⟩
theorem bi_enumerate {C : Cx} (h : C.env.kindOf "enumerate" = some .globalImplicit) : BiOk C "enumerate" (.type "enumerate") := ⟨h, by decide, by decide +kernel, by decide, by decide⟩

theorem myDefs_len : myDefs.length = 27 := rfl
noncomputable def dfn (i : Nat) (h : i < 27 := by decide) : DefRec := myDefs[i]'(by rw [myDefs_len]; exact h)
theorem dfn_mem (i : Nat) (h : i < 27) : dfn i h ∈ myDefs := List.getElem_mem _

noncomputable def dp0 : { d : DefRec // dfn 0 = d } := by
  refine ⟨?d, ?h⟩
  case h => conv => lhs; whnf
noncomputable def d0 : DefRec := dp0.1
theorem d0_mem : d0 ∈ myDefs := by show dp0.1 ∈ myDefs; rw [← dp0.2]; exact dfn_mem 0 (by decide)
noncomputable def dp1 : { d : DefRec // dfn 1 = d } := by
  refine ⟨?d, ?h⟩
  case h => conv => lhs; whnf
noncomputable def d1 : DefRec := dp1.1
theorem d1_mem : d1 ∈ myDefs := by show dp1.1 ∈ myDefs; rw [← dp1.2]; exact dfn_mem 1 (by decide)
noncomputable def dp2 : { d : DefRec // dfn 2 = d } := by
  refine ⟨?d, ?h⟩
  case h => conv => lhs; whnf
noncomputable def d2 : DefRec := dp2.1
theorem d2_mem : d2 ∈ myDefs := by show dp2.1 ∈ myDefs; rw [← dp2.2]; exact dfn_mem 2 (by decide)
noncomputable def dp3 : { d : DefRec // dfn 3 = d } := by
  refine ⟨?d, ?h⟩
  case h => conv => lhs; whnf
noncomputable def d3 : DefRec := dp3.1
theorem d3_mem : d3 ∈ myDefs := by show dp3.1 ∈ myDefs; rw [← dp3.2]; exact dfn_mem 3 (by decide)
noncomputable def dp4 : { d : DefRec // dfn 4 = d } := by
  refine ⟨?d, ?h⟩
  case h => conv => lhs; whnf
noncomputable def d4 : DefRec := dp4.1
theorem d4_mem : d4 ∈ myDefs := by show dp4.1 ∈ myDefs; rw [← dp4.2]; exact dfn_mem 4 (by decide)
noncomputable def dp5 : { d : DefRec // dfn 5 = d } := by
  refine ⟨?d, ?h⟩
  case h => conv => lhs; whnf
noncomputable def d5 : DefRec := dp5.1
theorem d5_mem : d5 ∈ myDefs := by show dp5.1 ∈ myDefs; rw [← dp5.2]; exact dfn_mem 5 (by decide)
noncomputable def dp6 : { d : DefRec // dfn 6 = d } := by
  refine ⟨?d, ?h⟩
  case h => conv => lhs; whnf
noncomputable def d6 : DefRec := dp6.1
theorem d6_mem : d6 ∈ myDefs := by show dp6.1 ∈ myDefs; rw [← dp6.2]; exact dfn_mem 6 (by decide)
noncomputable def dp7 : { d : DefRec // dfn 7 = d } := by
  refine ⟨?d, ?h⟩
  case h => conv => lhs; whnf
noncomputable def d7 : DefRec := dp7.1
theorem d7_mem : d7 ∈ myDefs := by show dp7.1 ∈ myDefs; rw [← dp7.2]; exact dfn_mem 7 (by decide)
noncomputable def dp8 : { d : DefRec // dfn 8 = d } := by
  refine ⟨?d, ?h⟩
  case h => conv => lhs; whnf
noncomputable def d8 : DefRec := dp8.1
theorem d8_mem : d8 ∈ myDefs := by show dp8.1 ∈ myDefs; rw [← dp8.2]; exact dfn_mem 8 (by decide)
noncomputable def dp9 : { d : DefRec // dfn 9 = d } := by
  refine ⟨?d, ?h⟩
  case h => conv => lhs; whnf
noncomputable def d9 : DefRec := dp9.1
theorem d9_mem : d9 ∈ myDefs := by show dp9.1 ∈ myDefs; rw [← dp9.2]; exact dfn_mem 9 (by decide)
noncomputable def dp10 : { d : DefRec // dfn 10 = d } := by
  refine ⟨?d, ?h⟩
  case h => conv => lhs; whnf
noncomputable def d10 : DefRec := dp10.1
theorem d10_mem : d10 ∈ myDefs := by show dp10.1 ∈ myDefs; rw [← dp10.2]; exact dfn_mem 10 (by decide)
noncomputable def dp11 : { d : DefRec // dfn 11 = d } := by
  refine ⟨?d, ?h⟩
  case h => conv => lhs; whnf
noncomputable def d11 : DefRec := dp11.1
theorem d11_mem : d11 ∈ myDefs := by show dp11.1 ∈ myDefs; rw [← dp11.2]; exact dfn_mem 11 (by decide)
noncomputable def dp12 : { d : DefRec // dfn 12 = d } := by
  refine ⟨?d, ?h⟩
  case h => conv => lhs; whnf
noncomputable def d12 : DefRec := dp12.1
theorem d12_mem : d12 ∈ myDefs := by show dp12.1 ∈ myDefs; rw [← dp12.2]; exact dfn_mem 12 (by decide)
noncomputable def dp13 : { d : DefRec // dfn 13 = d } := by
  refine ⟨?d, ?h⟩
  case h => conv => lhs; whnf
noncomputable def d13 : DefRec := dp13.1
theorem d13_mem : d13 ∈ myDefs := by show dp13.1 ∈ myDefs; rw [← dp13.2]; exact dfn_mem 13 (by decide)
noncomputable def dp14 : { d : DefRec // dfn 14 = d } := by
  refine ⟨?d, ?h⟩
  case h => conv => lhs; whnf
noncomputable def d14 : DefRec := dp14.1
theorem d14_mem : d14 ∈ myDefs := by show dp14.1 ∈ myDefs; rw [← dp14.2]; exact dfn_mem 14 (by decide)
noncomputable def dp15 : { d : DefRec // dfn 15 = d } := by
  refine ⟨?d, ?h⟩
  case h => conv => lhs; whnf
noncomputable def d15 : DefRec := dp15.1
theorem d15_mem : d15 ∈ myDefs := by show dp15.1 ∈ myDefs; rw [← dp15.2]; exact dfn_mem 15 (by decide)
noncomputable def dp16 : { d : DefRec // dfn 16 = d } := by
  refine ⟨?d, ?h⟩
  case h => conv => lhs; whnf
noncomputable def d16 : DefRec := dp16.1
theorem d16_mem : d16 ∈ myDefs := by show dp16.1 ∈ myDefs; rw [← dp16.2]; exact dfn_mem 16 (by decide)
noncomputable def dp17 : { d : DefRec // dfn 17 = d } := by
  refine ⟨?d, ?h⟩
  case h => conv => lhs; whnf
noncomputable def d17 : DefRec := dp17.1
theorem d17_mem : d17 ∈ myDefs := by show dp17.1 ∈ myDefs; rw [← dp17.2]; exact dfn_mem 17 (by decide)
noncomputable def dp18 : { d : DefRec // dfn 18 = d } := by
  refine ⟨?d, ?h⟩
  case h => conv => lhs; whnf
noncomputable def d18 : DefRec := dp18.1
theorem d18_mem : d18 ∈ myDefs := by show dp18.1 ∈ myDefs; rw [← dp18.2]; exact dfn_mem 18 (by decide)
noncomputable def dp19 : { d : DefRec // dfn 19 = d } := by
  refine ⟨?d, ?h⟩
  case h => conv => lhs; whnf
noncomputable def d19 : DefRec := dp19.1
theorem d19_mem : d19 ∈ myDefs := by show dp19.1 ∈ myDefs; rw [← dp19.2]; exact dfn_mem 19 (by decide)
noncomputable def dp20 : { d : DefRec // dfn 20 = d } := by
  refine ⟨?d, ?h⟩
  case h => conv => lhs; whnf
noncomputable def d20 : DefRec := dp20.1
theorem d20_mem : d20 ∈ myDefs := by show dp20.1 ∈ myDefs; rw [← dp20.2]; exact dfn_mem 20 (by decide)
noncomputable def dp21 : { d : DefRec // dfn 21 = d } := by
  refine ⟨?d, ?h⟩
  case h => conv => lhs; whnf
noncomputable def d21 : DefRec := dp21.1
theorem d21_mem : d21 ∈ myDefs := by show dp21.1 ∈ myDefs; rw [← dp21.2]; exact dfn_mem 21 (by decide)
noncomputable def dp22 : { d : DefRec // dfn 22 = d } := by
  refine ⟨?d, ?h⟩
  case h => conv => lhs; whnf
noncomputable def d22 : DefRec := dp22.1
theorem d22_mem : d22 ∈ myDefs := by show dp22.1 ∈ myDefs; rw [← dp22.2]; exact dfn_mem 22 (by decide)
noncomputable def dp23 : { d : DefRec // dfn 23 = d } := by
  refine ⟨?d, ?h⟩
  case h => conv => lhs; whnf
noncomputable def d23 : DefRec := dp23.1
theorem d23_mem : d23 ∈ myDefs := by show dp23.1 ∈ myDefs; rw [← dp23.2]; exact dfn_mem 23 (by decide)
noncomputable def dp24 : { d : DefRec // dfn 24 = d } := by
  refine ⟨?d, ?h⟩
  case h => conv => lhs; whnf
noncomputable def d24 : DefRec := dp24.1
theorem d24_mem : d24 ∈ myDefs := by show dp24.1 ∈ myDefs; rw [← dp24.2]; exact dfn_mem 24 (by decide)
noncomputable def dp25 : { d : DefRec // dfn 25 = d } := by
  refine ⟨?d, ?h⟩
  case h => conv => lhs; whnf
noncomputable def d25 : DefRec := dp25.1
theorem d25_mem : d25 ∈ myDefs := by show dp25.1 ∈ myDefs; rw [← dp25.2]; exact dfn_mem 25 (by decide)
noncomputable def dp26 : { d : DefRec // dfn 26 = d } := by
  refine ⟨?d, ?h⟩
  case h => conv => lhs; whnf
noncomputable def d26 : DefRec := dp26.1
theorem d26_mem : d26 ∈ myDefs := by show dp26.1 ∈ myDefs; rw [← dp26.2]; exact dfn_mem 26 (by decide)
theorem wr2 {C : Cx} {x y : Str} (h1 : Wr1 C x) (h2 : Wr1 C y) : ∀ z ∈ [x, y], Wr1 C z := List.forall_mem_cons.mpr ⟨h1, List.forall_mem_cons.mpr ⟨h2, fun _ q => nomatch q⟩⟩
theorem wr3 {C : Cx} {x y u : Str} (h1 : Wr1 C x) (h2 : Wr1 C y) (h3 : Wr1 C u) : ∀ z ∈ [x, y, u], Wr1 C z := List.forall_mem_cons.mpr ⟨h1, wr2 h2 h3⟩
end Mine
end

section
open PySem PySem.W PyProof.Rows
set_option maxRecDepth 100000
set_option linter.unusedVariables false

namespace Mine
/-- one argument, two arguments: what the binder makes of them -/
local macro_rules | `(tactic| walk_at "my bind1") => `(tactic| (intro pm code doc vs hv; match vs, hv with | [_], _ => rfl))
local macro_rules | `(tactic| walk_at "my bind2") => `(tactic| (intro pm code doc vs hv; match vs, hv with | [_, _], _ => rfl))
/-- one step of an expression -/
local macro_rules | `(tactic| walk_at "my e") => `(tactic| first
  | refine e_int ?_
  | refine e_bool ?_
  | refine e_var (by assumption) (.loc rfl) rfl rfl ?_
  | refine e_var (by assumption) (.cell _ rfl rfl) rfl rfl ?_
  | refine e_var (by assumption) (.free _ rfl rfl rfl) rfl rfl ?_
  | refine e_bin ?_
  | refine e_cmp rfl ?_
  | refine t_cmp rfl ?_
  | refine t_and ?_
  | refine t_or ?_
  | refine e_neg ?_
  | refine e_ifexp ?_
  | refine e_tup ?_
  | refine l_cons rfl ?_
  | refine l_nil ?_
  | refine e_item (fun _ _ => rfl) ?_
  | refine e_callF (by assumption) (bi_abs rfl) rfl rfl ?_
  | refine e_callF (by assumption) (bi_len rfl) rfl rfl ?_
  | refine e_callF (by assumption) (bi_max rfl) rfl rfl ?_
  | refine e_callF (by assumption) (bi_sorted rfl) rfl rfl ?_
  | refine e_callF (by assumption) (bi_sum rfl) rfl rfl ?_
  | refine e_callT (by assumption) (bi_range rfl) rfl rfl ?_
  | refine e_callT (by assumption) (bi_list rfl) rfl rfl ?_
  | refine e_callT (by assumption) (bi_reversed rfl) rfl rfl ?_
  | refine e_callT (by assumption) (bi_enumerate rfl) rfl rfl ?_
  | refine ⟨_, bin_add, ?_⟩
  | refine ⟨_, bin_sub, ?_⟩
  | refine ⟨_, cmp_eq, ?_⟩
  | refine ⟨_, cmp_ne, ?_⟩
  | refine ⟨_, cmp_lt, ?_⟩
  | refine ⟨_, cmp_le, ?_⟩
  | refine ⟨_, cmp_gt, ?_⟩
  | refine ⟨_, cmp_ge, ?_⟩
  | refine ⟨_, _, call_abs, ?_⟩
  | refine ⟨_, _, call_max (by assumption), ?_⟩
  | refine ⟨_, _, call_range1, ?_⟩
  | refine ⟨_, _, call_range2, ?_⟩)
local macro_rules | `(tactic| walk_at "my es") => `(tactic| (repeat walk_at "my e"))

theorem gcd_abs (i j : Int) : Int.gcd (if i < 0 then -i else i) (if j < 0 then -j else j) = Int.gcd i j := by
  split <;> split <;> simp [Int.gcd]
theorem gcd_step (x y : Int) (hx : 0 ≤ x) (hy : 0 ≤ y) (h0 : y ≠ 0) : Int.gcd y (x.fmod y) = Int.gcd x y := by
  rw [Int.fmod_eq_emod_of_nonneg _ hy]
  rw [Int.gcd_comm x y]
  show Nat.gcd y.natAbs (x % y).natAbs = Nat.gcd y.natAbs x.natAbs
  rw [Int.natAbs_emod_of_nonneg hx]
  rw [Nat.gcd_comm, ← Nat.gcd_rec, ]

theorem gcd_spec {G : GE} (a b : Int) : FnSpec G d0 1 [.int a, .int b] [] (fun p c => p = .int (Int.gcd a b) ∧ c = []) := by
  refine fn_intro d0_mem ["a", "b"] (by decide) rfl (by walk_at "my bind2") rfl rfl rfl rfl ?_
  intro A L f pm code doc s₀ ok
  refine b_cons ?_
  refine x_assignT ok ["a", "b"] (wr2 (.loc rfl) (.loc rfl)) rfl rfl ?_
  walk_at "my es"
  refine ⟨by simp, _, rfl, rfl, ?_⟩
  refine b_cons (x_while (fun n S => ∃ x y : Int, S = ⟨[("a", .int x), ("b", .int y)], []⟩ ∧ 0 ≤ x ∧ 0 ≤ y ∧ Int.gcd x y = Int.gcd a b ∧ n = y.toNat) _ ⟨_, _, rfl, ?_, ?_, gcd_abs a b, rfl⟩ ?_)
  · split <;> omega
  · split <;> omega
  rintro n S ⟨x, y, rfl, hx, hy, hg, rfl⟩
  walk_at "my es"
  by_cases h0 : y = 0
  · subst h0
    simp only [bne_self_eq_false, Bool.false_eq_true, if_false]
    refine b_cons (x_ret ?_)
    walk_at "my es"
    refine ⟨?_, rfl⟩
    rw [← hg, Int.gcd_zero, Int.natAbs_of_nonneg hx]
  · refine if_yes (show (y != 0) = true by simpa using h0) ?_
    refine b_cons ?_
    refine x_assignT ok ["a", "b"] (wr2 (.loc rfl) (.loc rfl)) rfl rfl ?_
    walk_at "my es"
    refine ⟨_, bin_mod h0, ?_⟩
    walk_at "my es"
    refine ⟨by simp, _, rfl, rfl, ?_⟩
    have hf := Int.fmod_eq_emod_of_nonneg x hy
    have h1 := Int.emod_nonneg x h0
    have h2 := Int.emod_lt_of_pos x (show 0 < y by omega)
    exact b_nil ⟨_, by rw [hf]; omega, _, _, rfl, hy, by rw [hf]; exact h1, (gcd_step x y hx hy h0).trans hg, rfl⟩
end Mine
end

section
open PySem PySem.W PyProof.Rows
set_option maxRecDepth 100000
set_option linter.unusedVariables false

namespace Mine
/-- one argument, two arguments: what the binder makes of them -/
local macro_rules | `(tactic| walk_at "my bind1") => `(tactic| (intro pm code doc vs hv; match vs, hv with | [_], _ => rfl))
local macro_rules | `(tactic| walk_at "my bind2") => `(tactic| (intro pm code doc vs hv; match vs, hv with | [_, _], _ => rfl))
/-- one step of an expression -/
local macro_rules | `(tactic| walk_at "my e") => `(tactic| first
  | refine e_int ?_
  | refine e_bool ?_
  | refine e_var (by assumption) (.loc rfl) rfl rfl ?_
  | refine e_var (by assumption) (.cell _ rfl rfl) rfl rfl ?_
  | refine e_var (by assumption) (.free _ rfl rfl rfl) rfl rfl ?_
  | refine e_bin ?_
  | refine e_cmp rfl ?_
  | refine t_cmp rfl ?_
  | refine t_and ?_
  | refine t_or ?_
  | refine e_neg ?_
  | refine e_ifexp ?_
  | refine e_tup ?_
  | refine l_cons rfl ?_
  | refine l_nil ?_
  | refine e_item (fun _ _ => rfl) ?_
  | refine e_callF (by assumption) (bi_abs rfl) rfl rfl ?_
  | refine e_callF (by assumption) (bi_len rfl) rfl rfl ?_
  | refine e_callF (by assumption) (bi_max rfl) rfl rfl ?_
  | refine e_callF (by assumption) (bi_sorted rfl) rfl rfl ?_
  | refine e_callF (by assumption) (bi_sum rfl) rfl rfl ?_
  | refine e_callT (by assumption) (bi_range rfl) rfl rfl ?_
  | refine e_callT (by assumption) (bi_list rfl) rfl rfl ?_
  | refine e_callT (by assumption) (bi_reversed rfl) rfl rfl ?_
  | refine e_callT (by assumption) (bi_enumerate rfl) rfl rfl ?_
  | refine ⟨_, bin_add, ?_⟩
  | refine ⟨_, bin_sub, ?_⟩
  | refine ⟨_, cmp_eq, ?_⟩
  | refine ⟨_, cmp_ne, ?_⟩
  | refine ⟨_, cmp_lt, ?_⟩
  | refine ⟨_, cmp_le, ?_⟩
  | refine ⟨_, cmp_gt, ?_⟩
  | refine ⟨_, cmp_ge, ?_⟩
  | refine ⟨_, _, call_abs, ?_⟩
  | refine ⟨_, _, call_max (by assumption), ?_⟩
  | refine ⟨_, _, call_range1, ?_⟩
  | refine ⟨_, _, call_range2, ?_⟩)
local macro_rules | `(tactic| walk_at "my es") => `(tactic| (repeat walk_at "my e"))


/-- p is the least divisor of n from 2 on -/
noncomputable def Least (n p : Int) : Prop := 2 ≤ p ∧ p ∣ n ∧ ∀ d, 2 ≤ d → d ∣ n → p ≤ d

theorem least_self {n f : Int} (hn : 2 ≤ n) (hf : 2 ≤ f) (hno : ∀ d, 2 ≤ d → d ∣ n → f ≤ d) (hlt : n < f * f) : Least n n := by
  refine ⟨hn, Int.dvd_refl n, fun d hd hdn => ?_⟩
  obtain ⟨c, hc⟩ := hdn
  have hc0 : 0 < c := by
    rcases Int.lt_or_le 0 c with h | h
    · exact h
    · have : d * c ≤ 0 := Int.mul_nonpos_of_nonneg_of_nonpos (by omega) h
      omega
  rcases Int.lt_or_le 1 c with h | h
  · exfalso
    have h1 := hno d hd ⟨c, hc⟩
    have h2 := hno c (by omega) ⟨d, by rw [hc, Int.mul_comm]⟩
    have h3 : f * f ≤ d * c := Int.mul_le_mul h1 h2 (by omega) (by omega)
    omega
  · have : c = 1 := by omega
    subst this
    omega

theorem least_divisor_spec {G : GE} {n b : Int} (hn : 2 ≤ n) (hm : n ≤ 1000000) (hb : 2 ≤ b) (hbn : b ≤ n) (hodd : b = 2 ∨ b % 2 = 1) (hno : ∀ d, 2 ≤ d → d ∣ n → b ≤ d) :
    FnSpec G d1 1 [.int n, .int b] [] (fun p c => (∃ q, p = .int q ∧ Least n q) ∧ c = []) := by
  refine fn_intro d1_mem ["n", "begin"] (by decide) rfl (by walk_at "my bind2") rfl rfl rfl rfl ?_
  intro A L f pm code doc s₀ ok
  refine b_cons (x_assign ok (.loc rfl) rfl ?_)
  walk_at "my es"
  refine b_cons (x_while (fun k S => ∃ x : Int, S = ⟨[("n", .int n), ("begin", .int b), ("found", .int x)], []⟩ ∧ 2 ≤ x ∧ x ≤ n + 2 ∧ (x = 2 ∨ x % 2 = 1) ∧ (∀ d, 2 ≤ d → d ∣ n → x ≤ d) ∧ k = (n + 2 - x).toNat) _ ⟨_, rfl, hb, by omega, hodd, hno, rfl⟩ ?_)
  rintro k S ⟨x, rfl, hx, hxn, hxo, hxd, rfl⟩
  walk_at "my es"
  refine ⟨_, bin_mul (.of_right (intBits_le_64 (by omega) (by omega))), ?_⟩
  walk_at "my es"
  by_cases h0 : x * x ≤ n
  · refine if_yes (decide_eq_true h0) ?_
    have hx1 : x ≤ n := by
      have : x * 1 ≤ x * x := Int.mul_le_mul_of_nonneg_left (by omega) (by omega)
      omega
    refine b_cons (x_if ?_)
    walk_at "my es"
    refine ⟨_, bin_mod (by omega), ?_⟩
    walk_at "my es"
    have hfm : n.fmod x = n % x := Int.fmod_eq_emod_of_nonneg _ (by omega)
    by_cases h1 : n.fmod x = 0
    · rw [h1]
      simp only [beq_self_eq_true, if_true]
      refine b_cons (x_ret ?_)
      walk_at "my es"
      exact ⟨⟨x, rfl, hx, Int.dvd_of_emod_eq_zero (by rw [← hfm]; exact h1), hxd⟩, rfl⟩
    · have hb1 : (n.fmod x == 0) = false := by simpa using h1
      refine if_no hb1 ?_
      refine b_nil ?_
      refine b_cons (x_aug ok (.loc rfl) (.loc rfl) rfl ?_)
      walk_at "my es"
      have hxne : ∀ d, 2 ≤ d → d ∣ n → d ≠ x := fun d _ hd e => by
        subst e
        exact h1 (by rw [hfm]; exact Int.emod_eq_zero_of_dvd hd)
      by_cases h2 : x = 2
      · subst h2
        refine if_yes (show ((2 : Int) == 2) = true from rfl) ?_
        walk_at "my es"
        refine ⟨_, _, rfl, rfl, .inl ⟨rfl, ?_⟩⟩
        refine b_nil ⟨_, ?_, _, rfl, by omega, by omega, .inr (by omega), fun d h3 h4 => ?_, rfl⟩
        · omega
        · have := hxd d h3 h4; have := hxne d h3 h4; omega
      · have hb2 : (x == 2) = false := by simpa using h2
        refine if_no hb2 ?_
        walk_at "my es"
        refine ⟨_, _, rfl, rfl, .inl ⟨rfl, ?_⟩⟩
        refine b_nil ⟨_, ?_, _, rfl, by omega, by omega, .inr (by omega), fun d h3 h4 => ?_, rfl⟩
        · omega
        · have h5 := hxd d h3 h4; have h6 := hxne d h3 h4
          by_cases h7 : d = x + 1
          · exfalso
            have h8 : (2 : Int) ∣ d := Int.dvd_of_emod_eq_zero (by omega)
            have := hxd 2 (by omega) (Int.dvd_trans h8 h4)
            omega
          · omega
  · rw [decide_eq_false h0]
    refine if_no rfl ?_
    refine b_cons (x_ret ?_)
    walk_at "my es"
    exact ⟨⟨n, rfl, least_self hn hx hxd (by omega)⟩, rfl⟩
end Mine
end

section
open PySem PySem.W PyProof.Rows
set_option maxRecDepth 100000
set_option linter.unusedVariables false
namespace Mine
noncomputable def prodF : List (Int × Nat) → Int
  | [] => 1
  | (p, m) :: r => p ^ m * prodF r
noncomputable def cntF : List (Int × Nat) → Nat
  | [] => 1
  | (_, m) :: r => (m + 1) * cntF r
noncomputable def IsPrime (p : Int) : Prop := Least p p

theorem prodF_snoc (fs : List (Int × Nat)) (p : Int) (m : Nat) : prodF (fs ++ [(p, m)]) = prodF fs * p ^ m := by
  induction fs with
  | nil => simp [prodF]
  | cons x r ih => obtain ⟨q, k⟩ := x; simp only [List.cons_append, prodF, ih, Int.mul_assoc]
theorem cntF_snoc (fs : List (Int × Nat)) (p : Int) (m : Nat) : cntF (fs ++ [(p, m)]) = cntF fs * (m + 1) := by
  induction fs with
  | nil => simp [cntF]
  | cons x r ih => obtain ⟨q, k⟩ := x; simp only [List.cons_append, cntF, ih, Nat.mul_assoc]
theorem Least.prime {n p : Int} (h : Least n p) : IsPrime p := ⟨h.1, Int.dvd_refl p, fun d hd hp => h.2.2 d hd (Int.dvd_trans hp h.2.1)⟩

theorem pow2_bound (m : Nat) : 4 * (m + 1) ^ 2 ≤ 9 * 2 ^ m := by
  match m with
  | 0 => decide
  | 1 => decide
  | 2 => decide
  | 3 => decide
  | m + 4 =>
    induction m with
    | zero => decide
    | succ k ih =>
      have e : 2 ^ (k + 1 + 4) = 2 * 2 ^ (k + 4) := by rw [show k + 1 + 4 = (k + 4) + 1 from rfl, Nat.pow_succ, Nat.mul_comm]
      have h : (k + 1 + 4 + 1) ^ 2 ≤ 2 * (k + 4 + 1) ^ 2 := by
        simp only [Nat.pow_two, Nat.mul_add, Nat.add_mul]; omega
      omega
theorem pow3_bound (m : Nat) : 3 * (m + 1) ^ 2 ≤ 4 * 3 ^ m := by
  match m with
  | 0 => decide
  | 1 => decide
  | 2 => decide
  | m + 3 =>
    induction m with
    | zero => decide
    | succ k ih =>
      have e : 3 ^ (k + 1 + 3) = 3 * 3 ^ (k + 3) := by rw [show k + 1 + 3 = (k + 3) + 1 from rfl, Nat.pow_succ, Nat.mul_comm]
      have h : (k + 1 + 3 + 1) ^ 2 ≤ 3 * (k + 3 + 1) ^ 2 := by
        simp only [Nat.pow_two, Nat.mul_add, Nat.add_mul]; omega
      omega
theorem pow5_bound (m : Nat) : (m + 1) ^ 2 ≤ 5 ^ m := by
  induction m with
  | zero => decide
  | succ k ih =>
    have e : 5 ^ (k + 1) = 5 * 5 ^ k := by rw [Nat.pow_succ, Nat.mul_comm]
    have h : (k + 1 + 1) ^ 2 ≤ 5 * (k + 1) ^ 2 := by
      simp only [Nat.pow_two, Nat.mul_add, Nat.add_mul]; omega
    omega

/-- the count's bound, by the next prime -/
noncomputable def CntOk (prime : Int) (fs : List (Int × Nat)) : Prop :=
  (prime = 2 ∧ fs = []) ∨ (prime = 3 ∧ 4 * (cntF fs : Int) ^ 2 ≤ 9 * prodF fs) ∨ (5 ≤ prime ∧ (cntF fs : Int) ^ 2 ≤ 3 * prodF fs)

theorem cnt_last {prime : Int} {fs : List (Int × Nat)} (h : CntOk prime fs) (hp : 0 < prodF fs) : (cntF fs : Int) ^ 2 ≤ 3 * prodF fs := by
  rcases h with ⟨_, rfl⟩ | ⟨_, h⟩ | ⟨_, h⟩
  · decide
  · omega
  · exact h

theorem powI5 {p : Int} (hp : 5 ≤ p) (m : Nat) : ((m + 1 : Nat) : Int) ^ 2 ≤ p ^ m := by
  have h1 : (((m + 1) ^ 2 : Nat) : Int) ≤ ((5 ^ m : Nat) : Int) := Int.ofNat_le.mpr (pow5_bound m)
  have h2 : (5 : Int) ^ m ≤ p ^ m := by
    induction m with
    | zero => simp
    | succ k ih =>
      rw [Int.pow_succ, Int.pow_succ]
      have h3 : (0 : Int) ≤ 5 ^ k := Int.pow_nonneg (by omega)
      have ih' := ih (Int.ofNat_le.mpr (pow5_bound k))
      exact Int.mul_le_mul ih' hp (by omega) (by omega)
  simp only [Int.natCast_pow] at h1
  exact Int.le_trans h1 h2

theorem cnt_step {prime p : Int} {fs : List (Int × Nat)} {m : Nat} (h : CntOk prime fs) (hpos : 0 < prodF fs) (hle : prime ≤ p) (hp : p = 2 ∨ (3 ≤ p ∧ p % 2 = 1)) :
    CntOk (if p = 2 then 3 else p + 2) (fs ++ [(p, m)]) := by
  have hsq : ∀ a b : Int, (a * b) ^ 2 = a ^ 2 * b ^ 2 := fun a b => by simp only [Int.pow_succ, Int.pow_zero, Int.one_mul]; ac_rfl
  unfold CntOk
  rw [prodF_snoc, cntF_snoc, Int.natCast_mul, hsq]
  by_cases h2 : p = 2
  · subst h2
    have hfs : fs = [] := by
      rcases h with ⟨_, e⟩ | ⟨e, _⟩ | ⟨e, _⟩
      · exact e
      · omega
      · omega
    subst hfs
    right; left
    refine ⟨by simp, ?_⟩
    have := Int.ofNat_le.mpr (pow2_bound m)
    simp only [Int.natCast_mul, Int.natCast_pow] at this
    simpa [cntF, prodF] using this
  · rw [if_neg h2]
    right; right
    have hp3 : 3 ≤ p := by omega
    refine ⟨by omega, ?_⟩
    have hc : 0 ≤ (cntF fs : Int) ^ 2 := Int.pow_nonneg (by omega)
    by_cases h3 : p = 3
    · subst h3
      have b3 : 3 * ((m + 1 : Nat) : Int) ^ 2 ≤ 4 * 3 ^ m := by
        have := Int.ofNat_le.mpr (pow3_bound m)
        simp only [Int.natCast_mul, Int.natCast_pow] at this
        exact this
      have h4 : 4 * (cntF fs : Int) ^ 2 ≤ 9 * prodF fs := by
        rcases h with ⟨_, rfl⟩ | ⟨_, e⟩ | ⟨e, _⟩
        · decide
        · exact e
        · omega
      have h5 : (0 : Int) ≤ ((m + 1 : Nat) : Int) ^ 2 := Int.pow_nonneg (by omega)
      have h6 := Int.mul_le_mul h4 b3 (Int.mul_nonneg (by omega) h5) (by omega)
      have e1 : 4 * (cntF fs : Int) ^ 2 * (3 * ((m + 1 : Nat) : Int) ^ 2) = 12 * ((cntF fs : Int) ^ 2 * ((m + 1 : Nat) : Int) ^ 2) := by
        rw [show (12 : Int) = 4 * 3 from rfl]; ac_rfl
      have e2 : 9 * prodF fs * (4 * 3 ^ m) = 12 * (3 * (prodF fs * 3 ^ m)) := by
        rw [show (12 : Int) * (3 * (prodF fs * 3 ^ m)) = (12 * 3) * (prodF fs * 3 ^ m) by rw [Int.mul_assoc], show (12 : Int) * 3 = 9 * 4 from rfl]; ac_rfl
      rw [e1, e2] at h6
      omega
    · have hp5 : 5 ≤ p := by omega
      have h7 := cnt_last h hpos
      have h8 := Int.mul_le_mul h7 (powI5 hp5 m) (Int.pow_nonneg (by omega)) (by omega)
      rw [Int.mul_assoc] at h8
      exact h8

theorem prodF_pos {fs : List (Int × Nat)} (h : ∀ x ∈ fs, 2 ≤ x.1) : 0 < prodF fs := by
  induction fs with
  | nil => decide
  | cons x r ih =>
    obtain ⟨p, m⟩ := x
    have h1 := h (p, m) (.head _)
    exact Int.mul_pos (Int.pow_pos (by omega)) (ih fun y hy => h y (.tail _ hy))

noncomputable def facPV (fs : List (Int × Nat)) : List PV := fs.map fun x => .tup [.int x.1, .int x.2]


theorem pow_le_of {a : Int} (ha : 2 ≤ a) (m : Nat) : (2 : Int) ^ m ≤ a ^ m := by
  induction m with
  | zero => simp
  | succ k ih =>
    rw [Int.pow_succ, Int.pow_succ]
    have h3 : (0 : Int) ≤ 2 ^ k := Int.pow_nonneg (by omega)
    exact Int.mul_le_mul ih ha (by omega) (by omega)
theorem small_exp {k : Nat} (h : (2 : Int) ^ k ≤ 1000000) : k ≤ 20 := by
  rcases Nat.lt_or_ge 20 k with h1 | h1
  · exfalso
    have h2 : 2 ^ 21 ≤ 2 ^ k := Nat.pow_le_pow_right (by decide) h1
    have h3 : ((2 ^ 21 : Nat) : Int) ≤ ((2 ^ k : Nat) : Int) := Int.ofNat_le.mpr h2
    simp only [Int.natCast_pow] at h3
    have h4 : ((2 : Nat) : Int) ^ 21 = 2097152 := by decide
    have h5 : ((2 : Nat) : Int) ^ k = 2 ^ k := rfl
    omega
  · exact h1
theorem least_next {n₀ n₁ p : Int} {k : Nat} (h : Least n₀ p) (h1 : n₁ * p ^ k = n₀) (h2 : ¬ p ∣ n₁) : ∀ d, 2 ≤ d → d ∣ n₁ → (if p = 2 then 3 else p + 2) ≤ d := by
  intro d hd hdn
  have hdn0 : d ∣ n₀ := Int.dvd_trans hdn ⟨_, h1.symm⟩
  have h3 := h.2.2 d hd hdn0
  have h4 : d ≠ p := fun e => h2 (e ▸ hdn)
  split
  · omega
  · rename_i hp
    have h2p := h.1
    have hodd : p % 2 = 1 := by
      rcases (show p % 2 = 0 ∨ p % 2 = 1 by omega) with e | e
      · exfalso
        have := h.2.2 2 (by omega) (Int.dvd_trans (Int.dvd_of_emod_eq_zero e) h.2.1)
        omega
      · exact e
    by_cases h5 : d = p + 1
    · exfalso
      have : (2 : Int) ∣ d := Int.dvd_of_emod_eq_zero (by omega)
      have := h.2.2 2 (by omega) (Int.dvd_trans this hdn0)
      omega
    · omega
theorem least_odd {n p : Int} (h : Least n p) : p = 2 ∨ (3 ≤ p ∧ p % 2 = 1) := by
  have h2p := h.1
  by_cases hp : p = 2
  · exact .inl hp
  · refine .inr ⟨by omega, ?_⟩
    rcases (show p % 2 = 0 ∨ p % 2 = 1 by omega) with e | e
    · exfalso
      have := h.2.2 2 (by omega) (Int.dvd_trans (Int.dvd_of_emod_eq_zero e) h.2.1)
      omega
    · exact e
theorem fdiv_exact {n p : Int} (hp : 2 ≤ p) (h : p ∣ n) (hn : 1 ≤ n) : n.fdiv p * p = n ∧ 1 ≤ n.fdiv p ∧ n.fdiv p < n := by
  have e : n.fdiv p = n / p := Int.fdiv_eq_ediv_of_nonneg _ (by omega)
  obtain ⟨c, hc⟩ := h
  have h1 : n / p = c := by rw [hc]; exact Int.mul_ediv_cancel_left _ (by omega)
  rw [e, h1]
  have hc1 : 1 ≤ c := by
    rcases Int.lt_or_le 0 c with h | h
    · omega
    · have : p * c ≤ 0 := Int.mul_nonpos_of_nonneg_of_nonpos (by omega) h
      omega
  have h2 : 2 * c ≤ p * c := Int.mul_le_mul_of_nonneg_right hp (by omega)
  exact ⟨by rw [hc, Int.mul_comm], hc1, by omega⟩

end Mine
end

section
open PySem PySem.W PyProof.Rows
set_option maxRecDepth 100000
set_option linter.unusedVariables false

namespace Mine
/-- one argument, two arguments: what the binder makes of them -/
local macro_rules | `(tactic| walk_at "my bind1") => `(tactic| (intro pm code doc vs hv; match vs, hv with | [_], _ => rfl))
local macro_rules | `(tactic| walk_at "my bind2") => `(tactic| (intro pm code doc vs hv; match vs, hv with | [_, _], _ => rfl))
/-- one step of an expression -/
local macro_rules | `(tactic| walk_at "my e") => `(tactic| first
  | refine e_int ?_
  | refine e_bool ?_
  | refine e_var (by assumption) (.loc rfl) rfl rfl ?_
  | refine e_var (by assumption) (.cell _ rfl rfl) rfl rfl ?_
  | refine e_var (by assumption) (.free _ rfl rfl rfl) rfl rfl ?_
  | refine e_bin ?_
  | refine e_cmp rfl ?_
  | refine t_cmp rfl ?_
  | refine t_and ?_
  | refine t_or ?_
  | refine e_neg ?_
  | refine e_ifexp ?_
  | refine e_tup ?_
  | refine l_cons rfl ?_
  | refine l_nil ?_
  | refine e_item (fun _ _ => rfl) ?_
  | refine e_callF (by assumption) (bi_abs rfl) rfl rfl ?_
  | refine e_callF (by assumption) (bi_len rfl) rfl rfl ?_
  | refine e_callF (by assumption) (bi_max rfl) rfl rfl ?_
  | refine e_callF (by assumption) (bi_sorted rfl) rfl rfl ?_
  | refine e_callF (by assumption) (bi_sum rfl) rfl rfl ?_
  | refine e_callT (by assumption) (bi_range rfl) rfl rfl ?_
  | refine e_callT (by assumption) (bi_list rfl) rfl rfl ?_
  | refine e_callT (by assumption) (bi_reversed rfl) rfl rfl ?_
  | refine e_callT (by assumption) (bi_enumerate rfl) rfl rfl ?_
  | refine ⟨_, bin_add, ?_⟩
  | refine ⟨_, bin_sub, ?_⟩
  | refine ⟨_, cmp_eq, ?_⟩
  | refine ⟨_, cmp_ne, ?_⟩
  | refine ⟨_, cmp_lt, ?_⟩
  | refine ⟨_, cmp_le, ?_⟩
  | refine ⟨_, cmp_gt, ?_⟩
  | refine ⟨_, cmp_ge, ?_⟩
  | refine ⟨_, _, call_abs, ?_⟩
  | refine ⟨_, _, call_max (by assumption), ?_⟩
  | refine ⟨_, _, call_range1, ?_⟩
  | refine ⟨_, _, call_range2, ?_⟩)
local macro_rules | `(tactic| walk_at "my es") => `(tactic| (repeat walk_at "my e"))

theorem prime_factors_spec {G : GE} {N : Int} (hN : 1 ≤ N) (hm : N ≤ 1000000) :
    FnSpec G d2 2 [.int N] [] (fun p c => (∃ fs : List (Int × Nat), p = .lst (facPV fs) ∧ (∀ x ∈ fs, IsPrime x.1 ∧ x.2 ≤ 64) ∧ prodF fs = N ∧ (cntF fs : Int) ^ 2 ≤ 3 * N ∧ fs.length ≤ 64) ∧ c = []) := by
  refine fn_intro d2_mem ["n"] (by decide) rfl (by walk_at "my bind1") rfl rfl rfl rfl ?_
  intro A L f pm code doc s₀ ok
  refine b_cons ?_
  refine x_assignT ok ["found", "prime"] (wr2 (.loc rfl) (.loc rfl)) rfl rfl ?_
  refine e_tup (l_cons rfl (e_listO (l_nil ⟨by simp, fun a => ?_⟩)))
  walk_at "my es"
  refine ⟨by simp, _, rfl, rfl, ?_⟩
  refine b_cons (x_while (fun k S => ∃ (n₁ prime : Int) (fs : List (Int × Nat)), S = ⟨[("n", .int n₁), ("prime", .int prime), ("found", .ptr a)], [(a, .lst (facPV fs))]⟩ ∧ 1 ≤ n₁ ∧ prodF fs * n₁ = N ∧ (∀ x ∈ fs, IsPrime x.1 ∧ x.2 ≤ 64) ∧ 2 ≤ prime ∧ (prime = 2 ∨ prime % 2 = 1) ∧ (∀ d, 2 ≤ d → d ∣ n₁ → prime ≤ d) ∧ CntOk prime fs ∧ (2 : Int) ^ fs.length ≤ prodF fs ∧ k = n₁.toNat)
    _ ⟨N, 2, [], rfl, hN, by simp [prodF], (fun _ q => nomatch q), by omega, .inl rfl, fun d hd _ => hd, .inl ⟨rfl, rfl⟩, by decide, rfl⟩ ?_)
  rintro k S ⟨n₁, prime, fs, rfl, hn1, hprod, hfs, hp2, hpo, hdiv, hcnt, hlen, rfl⟩
  have hpos : 0 < prodF fs := prodF_pos fun x hx => (hfs x hx).1.1
  have hn1N : n₁ ≤ N := by
    have : 1 * n₁ ≤ prodF fs * n₁ := Int.mul_le_mul_of_nonneg_right (by omega) (by omega)
    omega
  have hpN : prodF fs ≤ N := by
    have : prodF fs * 1 ≤ prodF fs * n₁ := Int.mul_le_mul_of_nonneg_left (by omega) (by omega)
    omega
  have hl20 : fs.length ≤ 20 := small_exp (by omega)
  walk_at "my es"
  by_cases h0 : n₁ > 1
  · refine if_yes (decide_eq_true h0) ?_
    refine b_cons ?_
    refine x_assignT ok ["prime", "many"] (wr2 (.loc rfl) (.loc rfl)) rfl rfl ?_
    refine e_tup (l_cons rfl (e_call ok d1_mem rfl rfl rfl rfl (k := 1) (by omega) ?_))
    walk_at "my es"
    refine ⟨_, least_divisor_spec (by omega) (by omega) hp2 ?_ hpo hdiv, ?_⟩
    · exact hdiv n₁ (by omega) (Int.dvd_refl _)
    rintro _ _ ⟨⟨p, rfl, hp⟩, rfl⟩
    walk_at "my es"
    refine ⟨by simp, _, rfl, rfl, ?_⟩
    have hple : prime ≤ p := hdiv p hp.1 hp.2.1
    have hpn : p ≤ n₁ := Int.le_of_dvd (by omega) hp.2.1
    refine b_cons (x_while (fun k S => ∃ (n₂ : Int) (m : Nat), S = ⟨[("n", .int n₂), ("prime", .int p), ("found", .ptr a), ("many", .int m)], [(a, .lst (facPV fs))]⟩ ∧ 1 ≤ n₂ ∧ n₂ * p ^ m = n₁ ∧ k = n₂.toNat)
      _ ⟨n₁, 0, rfl, hn1, by simp, rfl⟩ ?_)
    rintro k S ⟨n₂, m, rfl, hn2, hpow, rfl⟩
    have hp2' := hp.1
    have hpm : 1 ≤ p ^ m := Int.pow_pos (by omega)
    have hpmn : p ^ m ≤ n₁ := by
      have : 1 * p ^ m ≤ n₂ * p ^ m := Int.mul_le_mul_of_nonneg_right hn2 (by omega)
      omega
    have hn21 : n₂ ≤ n₁ := by
      have : n₂ * 1 ≤ n₂ * p ^ m := Int.mul_le_mul_of_nonneg_left hpm (by omega)
      omega
    walk_at "my es"
    refine ⟨_, bin_mod (by omega), ?_⟩
    walk_at "my es"
    have hfm : n₂.fmod p = n₂ % p := Int.fmod_eq_emod_of_nonneg _ (by omega)
    by_cases h1 : p ∣ n₂
    · have hz : n₂.fmod p = 0 := by rw [hfm]; exact Int.emod_eq_zero_of_dvd h1
      obtain ⟨e1, e2, e3⟩ := fdiv_exact hp2' h1 hn2
      rw [hz]
      refine if_yes (show ((0 : Int) == 0) = true from rfl) ?_
      refine b_cons ?_
      refine x_assignT ok ["n", "many"] (wr2 (.loc rfl) (.loc rfl)) rfl rfl ?_
      walk_at "my es"
      refine ⟨_, bin_div (by omega) (by omega), ?_⟩
      walk_at "my es"
      refine ⟨by simp, _, rfl, rfl, ?_⟩
      exact b_nil ⟨_, by omega, n₂.fdiv p, m + 1, rfl, e2, by rw [Int.pow_succ, Int.mul_comm (p ^ m), ← Int.mul_assoc, e1, hpow], rfl⟩
    · have hnz : (n₂.fmod p == 0) = false := by
        simp only [beq_eq_false_iff_ne, ne_eq]
        intro e; exact h1 (Int.dvd_of_emod_eq_zero (by rw [← hfm]; exact e))
      refine if_no hnz ?_
      have hm1 : m ≤ 20 := small_exp (by have := pow_le_of hp2' m; omega)
      have hm0 : 1 ≤ m := by
        cases m with
        | zero =>
          exfalso
          simp at hpow
          exact h1 (hpow ▸ hp.2.1)
        | succ m => omega
      refine b_cons (x_expr ok rfl (e_methL rfl rfl rfl PySem.F.slot_list_append PySem.F.type_list_append rfl rfl ?_))
      walk_at "my es"
      refine ⟨a, _, rfl, .head _, ?_⟩
      walk_at "my es"
      refine ⟨by simp, ?_⟩
      walk_at "my es"
      refine ⟨_, _, call_append .head (by simp [facPV]; omega), rfl, ?_⟩
      have hnext : ∀ d, 2 ≤ d → d ∣ n₂ → (if p = 2 then 3 else p + 2) ≤ d := least_next hp hpow h1
      have hpr : prodF (fs ++ [(p, m)]) * n₂ = N := by
        rw [prodF_snoc, Int.mul_assoc, Int.mul_comm (p ^ m), hpow]; exact hprod
      have hfs' : ∀ x ∈ fs ++ [(p, m)], IsPrime x.1 ∧ x.2 ≤ 64 := fun x hx => by
        rcases List.mem_append.mp hx with h | h
        · exact hfs x h
        · rw [List.mem_singleton.mp h]; exact ⟨hp.prime, by show m ≤ 64; omega⟩
      have hlt : n₂ < n₁ := by
        have h2 : (2 : Int) ≤ p ^ m := by
          have := pow_le_of hp2' m
          have : (2 : Int) ^ 1 ≤ 2 ^ m := by
            obtain ⟨k, rfl⟩ : ∃ k, m = k + 1 := ⟨m - 1, by omega⟩
            rw [Int.pow_succ, Int.pow_succ]
            have : (1 : Int) ≤ 2 ^ k := Int.pow_pos (by omega)
            omega
          omega
        have : n₂ * 2 ≤ n₂ * p ^ m := Int.mul_le_mul_of_nonneg_left h2 (by omega)
        omega
      have hlen' : (2 : Int) ^ (fs ++ [(p, m)]).length ≤ prodF (fs ++ [(p, m)]) := by
        rw [prodF_snoc, List.length_append, List.length_singleton, Int.pow_succ]
        have h2 : (2 : Int) ≤ p ^ m := by
          have := pow_le_of hp2' m
          have : (2 : Int) ^ 1 ≤ 2 ^ m := by
            obtain ⟨k, rfl⟩ : ∃ k, m = k + 1 := ⟨m - 1, by omega⟩
            rw [Int.pow_succ, Int.pow_succ]
            have : (1 : Int) ≤ 2 ^ k := Int.pow_pos (by omega)
            omega
          omega
        exact Int.mul_le_mul hlen h2 (by omega) (by omega)
      have hfac : facPV fs ++ [.tup [.int p, .int m]] = facPV (fs ++ [(p, m)]) := by simp [facPV]
      have hcnt' := cnt_step (m := m) hcnt hpos hple (least_odd hp)
      refine b_cons (x_assign ok (.loc rfl) rfl ?_)
      walk_at "my es"
      by_cases hp2e : p = 2
      · subst hp2e
        refine if_yes (show ((2 : Int) == 2) = true from rfl) ?_
        walk_at "my es"
        rw [if_pos rfl] at hcnt' hnext
        exact b_keep 3 (b_nil ⟨n₂.toNat, by omega, n₂, 3, fs ++ [(2, m)], by rw [← hfac]; rfl, hn2, hpr, hfs', by omega, .inr (by omega), hnext, hcnt', hlen', rfl⟩)
      · have hb2 : (p == 2) = false := by simpa using hp2e
        refine if_no hb2 ?_
        walk_at "my es"
        rw [if_neg hp2e] at hcnt' hnext
        have := least_odd hp
        exact b_keep 3 (b_nil ⟨n₂.toNat, by omega, n₂, p + 2, fs ++ [(p, m)], by rw [← hfac]; rfl, hn2, hpr, hfs', by omega, .inr (by omega), hnext, hcnt', hlen', rfl⟩)
  · refine if_no (decide_eq_false h0) ?_
    have : n₁ = 1 := by omega
    subst this
    refine b_cons (x_ret (e_freeze ?_))
    walk_at "my es"
    refine ⟨a, _, _, rfl, .head, ?_⟩
    rw [Int.mul_one] at hprod
    refine ⟨⟨fs, rfl, hfs, hprod, ?_, by omega⟩, rfl⟩
    rw [← hprod]; exact cnt_last hcnt hpos
end Mine
end

section
open PySem PySem.W PyProof.Rows
set_option maxRecDepth 100000
set_option linter.unusedVariables false

namespace Mine
variable {C : Cx} {S : Store} {base : Lk}

/-! ### comprehensions -/
/-- the context in a comprehension's frame -/
noncomputable def compCx (C : Cx) (scope : Scope) (cl : List (Str × Addr)) (L : Addr) : Cx := { G := C.G, A := C.A, env := compEnvC scope cl L C.env, s₀ := C.s₀, wc := false }
theorem compCx_ok {n : Nat} (ok : C.Ok n) {scope : Scope} {cl : List (Str × Addr)} {L : Addr} (hk : scope.kind = .function) : (compCx C scope cl L).Ok n :=
  ⟨hk, ok.glob, ok.bltn, ok.hand, ok.depth, ok.units⟩

structure wpU (C : Cx) (m : Sem Unit) (K : Store → Prop) (S : Store) : Prop where
  run : ∀ s look base, St C base S look s → wpAny (model C.G.prog C.G.w) C.A m (fun _ s' => ∃ S' look', K S' ∧ Ext base look look' ∧ St C base S' look' s') NoE s
noncomputable def testsM (ifs : List Expr) (env : Env) : Sem Bool := forIn ifs true fun c r => if r = true then do let ok ← isTrue c env (eval c env); pure (ForInStep.yield ok) else pure (ForInStep.yield r)
structure wpQ (C : Cx) (ifs : List Expr) (K : Bool → Store → Prop) (S : Store) : Prop where
  run : ∀ s look base, St C base S look s → wpAny (model C.G.prog C.G.w) C.A (testsM ifs C.env) (PostB C base look K) NoE s
theorem q_nil {K : Bool → Store → Prop} (h : K true S) : wpQ C [] K S := .mk fun s look base hs => wpAny_tests_nil ⟨S, look, h, Ext.refl _ _, hs⟩
theorem q_one {c : Expr} {K : Bool → Store → Prop} (h : wpT C c K S) : wpQ C [c] K S := .mk fun s look base hs => wpAny_tests_one (h.run s look base hs)

noncomputable def turnOf (target : Expr) (ifs : List Expr) (ip : Pos) (yes : Sem Fin) (it : Value) (env : Env) (next : Code) : Sem Fin := do
  standAt ip
  match ← pyNext it with
  | none => pure (.done .next)
  | some v =>
    letOwnedTupleGo target it v
    assign target env v
    let mut ok := true
    for c in ifs do
      if ok then ok ← isTrue c env (eval c env)
    if ok then
      yes
    else again next
noncomputable def emitM (elt : Expr) (acc : Value) (env : Env) : Sem Unit := do let _ ← call (.builtin "list.append") [acc, ← eval elt env]
noncomputable def yesM (emit : Sem Unit) (next : Code) : Sem Fin := do
  emit
  again next
noncomputable def nestY (e iter : Expr) (d : Nat) (acc : Value) (env : Env) (next : Code) : Sem Fin := do
  let x ← eval iter env
  standAt iter.pos
  let x ← foldedSetIterable iter env x
  let _ ← runOwn (.compStart e d (← holding [x] (pyIter x)) acc env) env
  again next
noncomputable def nestM (e iter : Expr) (d : Nat) (acc : Value) (env : Env) : Sem Unit := do
  let x ← eval iter env
  standAt iter.pos
  let x ← foldedSetIterable iter env x
  let _ ← runOwn (.compStart e d (← holding [x] (pyIter x)) acc env) env

theorem turn_one (elt target iter : Expr) (ifs : List Expr) (scope : Scope) (pos : Pos) (it acc : Value) (env : Env) :
    compTurn (.ListComp elt [⟨target, iter, ifs, 0⟩] scope pos) 0 it acc env = turnOf target ifs iter.pos (yesM (emitM elt acc env) (.compLoop (.ListComp elt [⟨target, iter, ifs, 0⟩] scope pos) 0 it acc env)) it env (.compLoop (.ListComp elt [⟨target, iter, ifs, 0⟩] scope pos) 0 it acc env) := rfl
theorem turn_outer (elt target iter target' iter' : Expr) (ifs ifs' : List Expr) (scope : Scope) (pos : Pos) (it acc : Value) (env : Env) :
    compTurn (.ListComp elt [⟨target, iter, ifs, 0⟩, ⟨target', iter', ifs', 0⟩] scope pos) 0 it acc env = turnOf target ifs iter.pos (nestY (.ListComp elt [⟨target, iter, ifs, 0⟩, ⟨target', iter', ifs', 0⟩] scope pos) iter' 1 acc env (.compLoop (.ListComp elt [⟨target, iter, ifs, 0⟩, ⟨target', iter', ifs', 0⟩] scope pos) 0 it acc env)) it env
      (.compLoop (.ListComp elt [⟨target, iter, ifs, 0⟩, ⟨target', iter', ifs', 0⟩] scope pos) 0 it acc env) := rfl
theorem turn_inner (elt target iter target' iter' : Expr) (ifs ifs' : List Expr) (scope : Scope) (pos : Pos) (it acc : Value) (env : Env) :
    compTurn (.ListComp elt [⟨target, iter, ifs, 0⟩, ⟨target', iter', ifs', 0⟩] scope pos) 1 it acc env = turnOf target' ifs' iter'.pos (yesM (emitM elt acc env) (.compLoop (.ListComp elt [⟨target, iter, ifs, 0⟩, ⟨target', iter', ifs', 0⟩] scope pos) 1 it acc env)) it env
      (.compLoop (.ListComp elt [⟨target, iter, ifs, 0⟩, ⟨target', iter', ifs', 0⟩] scope pos) 1 it acc env) := rfl

theorem comp_walk {elt : Expr} {gens : List Comprehension} {scope : Scope} {pos : Pos} {d : Nat} {acc : Value} {target : Expr} {ifs : List Expr} {ip : Pos} {emit : Sem Unit} {yes : Sem Fin} {items : List PV} {I₀ : Addr} {fp wr : List Addr} {Sn : Nat → Heap → Prop} {s : Shared} {look : Lk}
    (hturn : compTurn (.ListComp elt gens scope pos) d (.ref I₀) acc C.env = turnOf target ifs ip yes (.ref I₀) C.env (.compLoop (.ListComp elt gens scope pos) d (.ref I₀) acc C.env))
    (hyes : ∀ (s : Shared) (Q : Unit → Shared → Prop), wpAny (model C.G.prog C.G.w) C.A emit Q NoE s → wpAny (model C.G.prog C.G.w) C.A yes (fun r s' => r = .again (.compLoop (.ListComp elt gens scope pos) d (.ref I₀) acc C.env) ∧ Q () s') NoE s)
    (st : St C base S look s) (W : Itr C look I₀ fp wr items target Sn) (hsn : Sn 0 s.heap)
    (hwr : ∀ b ∈ wr, base b = none ∧ look b = none ∧ C.env.locals ≠ b ∧ (∀ a k, (a, k) ∈ S.cel → a ≠ b) ∧ ∀ x c, C.env.cells.lookup x = some c → c ≠ b)
    (hfp : ∀ b ∈ fp, b ∈ wr ∨ ∃ o, look b = some o)
    (I : Nat → Store → Prop) (h0 : I 0 S) (hcel : ∀ i S', I i S' → S'.cel.map (·.1) = S.cel.map (·.1))
    (turn : ∀ i p S1, items[i]? = some p → I i S1 → ∃ S2, AsgOk C target p S1 S2 ∧ wpQ C ifs (fun b S3 => if b then wpU C emit (fun S4 => I (i + 1) S4) S3 else I (i + 1) S3) S2) :
    codeAny (model C.G.prog C.G.w) C.A (.compLoop (.ListComp elt gens scope pos) d (.ref I₀) acc C.env)
      (fun r s' => r = .ok .next ∧ ∃ S' look', I items.length S' ∧ Ext base look look' ∧ St C base S' look' s' ∧ ∀ b ∈ wr, look' b = none) s := by
  refine codeAny_loop rfl (fun k s' => ∃ i S' look', Sn i s'.heap ∧ I i S' ∧ Ext base look look' ∧ St C base S' look' s' ∧ (∀ b ∈ wr, look' b = none) ∧ i ≤ items.length ∧ k = items.length + 1 - i) ?_ (items.length + 1)
    ⟨0, S, look, hsn, h0, Ext.refl _ _, st, fun b hb => (hwr b hb).2.1, Nat.zero_le _, rfl⟩
  rintro k s1 ⟨i, S1, l1, hsn1, hI, le1, st1, hl1, hi, rfl⟩
  show wpAny _ C.A ((compTurn (.ListComp elt gens scope pos) d (.ref I₀) acc C.env).onRaise (fun x => do noteFrame x C.env; theTreesLotGoes x)) _ _ s1
  refine wpAny_noted ?_
  rw [hturn]
  refine wpAny_bind (wpAny_standAt (wpAny_bind ?_))
  have keepOwn : ∀ a k, (a, k) ∈ S1.cel → ∃ k', (a, k') ∈ S.cel := fun a k e => by
    have : a ∈ S.cel.map (·.1) := by rw [← hcel i S1 hI]; exact List.mem_map.mpr ⟨_, e, rfl⟩
    obtain ⟨⟨a', k'⟩, hm, rfl⟩ := List.mem_map.mp this
    exact ⟨k', hm⟩
  have w1 : ∀ b ∈ wr, base b = none := fun b hb => (hwr b hb).1
  have w3 : C.env.locals ∉ wr := fun hb => (hwr _ hb).2.2.1 rfl
  have w4 : ∀ a k, (a, k) ∈ S1.cel → a ∉ wr := fun a k e hb => let ⟨k', hm⟩ := keepOwn a k e; (hwr a hb).2.2.2.1 a k' hm rfl
  have w5 : ∀ x c, C.env.cells.lookup x = some c → c ∉ wr := fun x c e hb => (hwr c hb).2.2.2.2 x c e rfl
  by_cases hlt : i < items.length
  · obtain ⟨p, hp⟩ : ∃ p, items[i]? = some p := ⟨items[i], by simp [hlt]⟩
    refine wpAny_mono (W.item i s1 l1 p (fun v s2 => ∃ h' tk look', s2 = { s1 with heap := h', toks := tk } ∧ Sn (i + 1) h' ∧ (∀ b o, b ∉ wr → s1.heap.get? b = some o → h'.get? b = some o) ∧ Le l1 look' ∧ (∀ b o, look' b = some o → l1 b = some o ∨ s1.heap.get? b = none) ∧
      (∀ b o, look' b = some o → h'.get? b = some o) ∧ Rep look' v p) hp hsn1 le1.1 st1.sub hl1 fun v h' tk look' a b c d e f => ⟨h', tk, look', rfl, a, b, c, d, e, f⟩) ?_ fun _ _ x => x.elim
    rintro (_ | v) s1a hq
    · exact hq.elim
    refine wpAny_bind (wpAny_mono hq ?_ fun _ _ x => x.elim)
    rintro _ _ ⟨h', tk, l1', rfl, hsn2, hk, hl, hg, hs', hr⟩
    have st2 : St C base S1 l1' { s1 with heap := h', toks := tk } := st1.move wr w1 hl1 w4 w5 (fun m hm => hm.at' fun o e => hk _ o w3 e) (fun b o _ hb e => hk b o hb e) hl hs' fun b o e => (hg b o e).imp (fun x => ⟨o, x⟩) id
    have ext1 : Ext base l1 l1' := ⟨hl, fun b o e => (hg b o e).imp id fun q => by
      cases q' : base b with
      | none => rfl
      | some o' => rw [st1.keep b o' q'] at q; cases q⟩
    have hl1' : ∀ b ∈ wr, l1' b = none := fun b hb => by
      cases q : l1' b with
      | none => rfl
      | some o =>
        rcases hg b o q with h1 | h1
        · rw [hl1 b hb] at h1; cases h1
        · obtain ⟨o', ho'⟩ := W.ex i s1.heap hsn1 b hb
          rw [ho'] at h1; cases h1
    obtain ⟨S2, hasg, htests⟩ := turn i p S1 hp hI
    have fpH : ∀ b ∈ fp, ∃ o, h'.get? b = some o := fun b hb => by
      rcases hfp b hb with h1 | ⟨o, ho⟩
      · exact W.ex _ _ hsn2 b h1
      · exact ⟨o, st2.sub b o (hl b o (le1.1 b o ho))⟩
    have fpN : ∀ b, l1' b = none → b ∉ wr → b ∉ fp := fun b e hw hb => by
      rcases hfp b hb with h1 | ⟨o, ho⟩
      · exact hw h1
      · rw [hl b o (le1.1 b o ho)] at e; cases e
    have bn : ∀ b, b ∉ fp → withFp base fp h' b = base b := fun b hb => by unfold withFp; rw [if_neg hb]
    have by_ : ∀ b, b ∈ fp → withFp base fp h' b = h'.get? b := fun b hb => by unfold withFp; rw [if_pos hb]
    have hb1 : ∀ b o, base b = some o → withFp base fp h' b = some o := fun b o e => by
      by_cases hb : b ∈ fp
      · rw [by_ b hb]; exact st2.keep b o e
      · rw [bn b hb]; exact e
    have hb0 : ∀ b, withFp base fp h' b = none → base b = none := fun b e => by
      cases q : base b with
      | none => rfl
      | some o => rw [hb1 b o q] at e; cases e
    have st3 : St C (withFp base fp h') S1 l1' { s1 with heap := h', toks := tk } := st2.moreBase hb1 (fun b o e => by
        by_cases hb : b ∈ fp
        · rw [by_ b hb] at e; exact e
        · rw [bn b hb] at e; exact st2.keep b o e)
      (by rw [bn _ (fpN _ st2.locFree.1 w3)]; exact st2.locFree.2)
      (fun a k e => by rw [bn _ (fpN _ (st2.ownFree a k e).1.1 (w4 a k e))]; exact (st2.ownFree a k e).1.2)
      (fun wc x c e q => by rw [bn _ (fpN _ (st2.cellFree wc x c e q).1.1 (w5 x c e))]; exact (st2.cellFree wc x c e q).1.2)
    have fin : ∀ s3 S3 l3, I (i + 1) S3 → Ext (withFp base fp h') l1' l3 → St C (withFp base fp h') S3 l3 s3 →
        ∃ m, m < items.length + 1 - i ∧ ∃ i' S' look', Sn i' s3.heap ∧ I i' S' ∧ Ext base look look' ∧ St C base S' look' s3 ∧ (∀ b ∈ wr, look' b = none) ∧ i' ≤ items.length ∧ m = items.length + 1 - i' := by
      intro s3 S3 l3 hI' leB st5
      have leO : Ext base l1 l3 := ext1.trans ⟨leB.1, fun x o e => (leB.2 x o e).imp id fun q => hb0 x q⟩
      have lw : ∀ b ∈ wr, l3 b = none := fun b hb => by
        cases q : l3 b with
        | none => rfl
        | some o =>
          exfalso
          rcases leB.2 b o q with h1 | h1
          · rw [hl1' b hb] at h1; cases h1
          · rw [by_ b (W.sub b hb)] at h1
            obtain ⟨o', ho'⟩ := fpH b (W.sub b hb)
            rw [ho'] at h1; cases h1
      exact ⟨items.length + 1 - (i + 1), by omega, i + 1, S3, l3, W.frame _ _ _ hsn2 (fun b hb o e => st5.keep b o (by rw [by_ b hb]; exact e)), hI', le1.trans leO, st5.lessBase hb1 st.top, lw, hlt, rfl⟩
    refine wpAny_bind (wpAny_mono (hasg.run _ l1' _ v st3 hr) ?_ fun _ _ x => x.elim)
    rintro _ s2 ⟨l2, le2, st4⟩
    refine wpAny_bind (wpAny_mono (htests.run s2 l2 _ st4) ?_ fun _ _ x => x.elim)
    rintro b s3 ⟨S3, l3, k3, le3, st5⟩
    cases b with
    | false => exact wpAny_pure ⟨rfl, fin s3 S3 l3 k3 (le2.trans le3) st5⟩
    | true =>
      refine wpAny_mono (hyes _ _ ((show wpU C emit (fun S4 => I (i + 1) S4) S3 from k3).run s3 l3 _ st5)) ?_ fun _ _ x => x.elim
      rintro _ s4 ⟨rfl, S4, l4, k4, le4, st6⟩
      exact ⟨rfl, fin s4 S4 l4 k4 (le2.trans (le3.trans le4)) st6⟩
  · have hin : i = items.length := by omega
    subst hin
    refine wpAny_mono (W.done s1 (fun r s' => r = none ∧ ∃ h' tk, s' = { s1 with heap := h', toks := tk } ∧ (∀ b o, b ∉ wr → s1.heap.get? b = some o → h'.get? b = some o)) hsn1 fun h' tk hk => ⟨rfl, h', tk, rfl, hk⟩) ?_ fun _ _ x => x.elim
    rintro _ _ ⟨rfl, h', tk, rfl, hk⟩
    refine wpAny_pure ?_
    exact ⟨rfl, S1, l1, hI, le1, st1.move wr w1 hl1 w4 w5 (fun m hm => hm.at' fun o e => hk _ o w3 e) (fun b o _ hb e => hk b o hb e) (Le.refl _) (fun b o e => hk b o (fun w => by rw [hl1 b w] at e; cases e) (st1.sub b o e)) (fun b o e => .inl ⟨o, e⟩), hl1⟩

theorem yes_emit {emit : Sem Unit} {next : Code} : ∀ (s : Shared) (Q : Unit → Shared → Prop), wpAny (model C.G.prog C.G.w) C.A emit Q NoE s → wpAny (model C.G.prog C.G.w) C.A (yesM emit next) (fun r s' => r = .again next ∧ Q () s') NoE s :=
  fun s Q h => wpAny_bind (wpAny_mono h (fun _ _ q => wpAny_pure ⟨rfl, q⟩) fun _ _ x => x)
theorem yes_nest {e iter : Expr} {d : Nat} {acc : Value} {env : Env} {next : Code} : ∀ (s : Shared) (Q : Unit → Shared → Prop), wpAny (model C.G.prog C.G.w) C.A (nestM e iter d acc env) Q NoE s → wpAny (model C.G.prog C.G.w) C.A (nestY e iter d acc env next) (fun r s' => r = .again next ∧ Q () s') NoE s := by
  intro s Q h
  have e1 : nestY e iter d acc env next = (do nestM e iter d acc env; again next) := by
    unfold nestY nestM
    simp only [bind_assoc, pure_bind]
  rw [e1]
  exact yes_emit s Q h

theorem u_emit {elt : Expr} {a : Addr} {K : Store → Prop} (h : wpE C elt (fun p S1 => ∃ l cel', CUpd a (.lst l) (.lst (l ++ [p])) S1.cel cel' ∧ l.length ≤ 1000000 ∧ K { S1 with cel := cel' }) S) : wpU C (emitM elt (.ref a) C.env) K S := by
  refine .mk fun s look base hs => ?_
  unfold emitM
  refine wpAny_bind (wpAny_mono (h.run s look base hs) ?_ fun _ _ x => x)
  rintro v s1 ⟨p, S1, l1, ⟨l, cel', u, hz, k⟩, le1, st1, r1⟩
  refine wpAny_bind (wpAny_mono ((call_append u hz).run s1 l1 base [.ref a, v] st1 (.cons (.ptr _) (.cons r1 .nil))) ?_ fun _ _ x => x)
  rintro _ s2 ⟨l2, le2, st2, _⟩
  exact wpAny_pure ⟨_, l2, k, le1.trans le2, st2⟩

/-- what a comprehension reads of the frame around it -/
inductive FvOk (C : Cx) (S : Store) (scope : Scope) (cl : List (Str × Addr)) : List (Str × PV) → Prop
  | nil : FvOk C S scope cl []
  | cons {x : Str} {pv : PV} {r : List (Str × PV)} (h1 : S.var x = some pv) (h2 : C.env.kindOf x = some .cell) (h3 : ∀ L, (compCx C scope cl L).env.kindOf x = some .cell) (h : FvOk C S scope cl r) : FvOk C S scope cl ((x, pv) :: r)
theorem FvOk.get {scope : Scope} {cl : List (Str × Addr)} {fv : List (Str × PV)} (h : FvOk C S scope cl fv) {x : Str} {pv : PV} (e : vget fv x = some pv) : S.var x = some pv ∧ C.env.kindOf x = some .cell ∧ ∀ L, (compCx C scope cl L).env.kindOf x = some .cell := by
  induction h with
  | nil => cases e
  | @cons y p r h1 h2 h3 h ih =>
    by_cases hy : y = x
    · subst hy
      simp [vget] at e; subst e
      exact ⟨h1, h2, h3⟩
    · exact ih (by simpa [vget, hy] using e)
inductive ClOk (C : Cx) : List (Str × Addr) → Prop
  | nil : ClOk C []
  | cons {x : Str} {c : Addr} {r : List (Str × Addr)} (h1 : C.env.cells.lookup x = some c) (h : ClOk C r) : ClOk C ((x, c) :: r)
theorem ClOk.get {cl : List (Str × Addr)} (h : ClOk C cl) {x : Str} {c : Addr} (e : cl.lookup x = some c) : C.env.cells.lookup x = some c := by
  induction h with
  | nil => cases e
  | @cons y d r h1 h ih =>
    by_cases hy : y = x
    · subst hy
      simp [List.lookup] at e; subst e
      exact h1
    · have : (x == y) = false := by simpa using fun q : x = y => hy q.symm
      exact ih (by simpa [List.lookup, this] using e)

/-- one comprehension: the frame starts with what it reads and with an empty list -/
structure CompOk (C : Cx) (scope : Scope) (cl : List (Str × Addr)) (n : Nat) (target : Expr) (ifs : List Expr) (emit : Addr → Addr → Sem Unit) (fv : List (Str × PV)) (items : List PV) (Kl : List PV → Prop) : Prop where
  run : ∀ L a, (compCx C scope cl L).Ok n → ∃ I : Nat → Store → Prop, I 0 ⟨fv, [(a, .lst [])]⟩ ∧ (∀ i S', I i S' → S'.cel.map (·.1) = [a]) ∧
    (∀ i p S1, items[i]? = some p → I i S1 → ∃ S2, AsgOk (compCx C scope cl L) target p S1 S2 ∧ wpQ (compCx C scope cl L) ifs (fun b S3 => if b then wpU (compCx C scope cl L) (emit L a) (fun S4 => I (i + 1) S4) S3 else I (i + 1) S3) S2) ∧
    ∀ S', I items.length S' → ∃ l, S'.cel = [(a, .lst l)] ∧ Kl l

theorem ltSize {h : Heap} {b : Addr} {o : Obj} (e : h.get? b = some o) : @LT.lt Nat _ b h.objs.size := Heap.lt_size e
theorem comp_core {n : Nat} (ok : C.Ok n) {elt target iter : Expr} {ifs : List Expr} {rest : List Comprehension} {scope : Scope} {pos : Pos} {cl : List (Str × Addr)} {items : List PV} {it : Value} {s : Shared} {look : Lk}
    {emit : Addr → Addr → Sem Unit} {yes : Addr → Addr → Value → Sem Fin} {E : Value → Shared → Prop} {RR : Value → Addr → Result → Shared → Prop}
    (hturn : ∀ L a it, compTurn (.ListComp elt (⟨target, iter, ifs, 0⟩ :: rest) scope pos) 0 it (.ref a) (compCx C scope cl L).env = turnOf target ifs iter.pos (yes L a it) it (compCx C scope cl L).env (.compLoop (.ListComp elt (⟨target, iter, ifs, 0⟩ :: rest) scope pos) 0 it (.ref a) (compCx C scope cl L).env))
    (hyes : ∀ L a it (s : Shared) (Q : Unit → Shared → Prop), wpAny (model C.G.prog C.G.w) C.A (emit L a) Q NoE s → wpAny (model C.G.prog C.G.w) C.A (yes L a it) (fun r s' => r = .again (.compLoop (.ListComp elt (⟨target, iter, ifs, 0⟩ :: rest) scope pos) 0 it (.ref a) (compCx C scope cl L).env) ∧ Q () s') NoE s)
    (hcell : ∀ y ∈ scope.names, y.2 ≠ .cell) (hkind : scope.kind = .function) (hcl : ClOk C cl) (hit : ItAt C base look S items target it s) {fv : List (Str × PV)} (hfv : FvOk C S scope cl fv) {Kl : List PV → Prop}
    (body : CompOk C scope cl n target ifs emit fv items Kl)
    (hRR : ∀ a L h' tk m' look' l, s.heap.get? L = none → a ≠ L → s.heap.get? a = none → h'.Ns L m' → Kl l → Ext base look look' → St C base S look' { s with heap := h', toks := tk } → Rep look' (.ref a) (.lst l) → look' L = none →
      RR (.ref a) L (.ok .next) { s with heap := h', toks := tk }) :
    wpAny (model C.G.prog C.G.w) C.A (newList []) (fun acc s₃ => wpAny (model C.G.prog C.G.w) C.A (newFunctionEnv scope C.env.globals cl [] C.env.qual none .none (some C.env)) (fun cenv s₄ =>
      codeAny (model C.G.prog C.G.w) C.A (.compStart (.ListComp elt (⟨target, iter, ifs, 0⟩ :: rest) scope pos) 0 it acc { cenv with scope := relabel scope C.env }) (RR acc cenv.locals) s₄) E s₃) E s := by
  obtain ⟨I₀, fp, wr, Sn, rfl, st, W, hsn, hwr, hfp⟩ := hit
  refine wpAny_newObj_type (wpAny_newFunctionEnv hcell (by intro y hy; simp at hy) (fun h₁ hns₁ hsb₁ => ?_) hkind)
  dsimp only at hns₁ hsb₁ ⊢
  generalize hH2 : s.heap.push { cls := .type "list", dict := none, data := .seq ([] : List Value).toArray } = H2 at hns₁ hsb₁ ⊢
  have hC : H2.objs.size = s.heap.objs.size + 1 := by rw [← hH2, Heap.size_push]
  generalize hLdef : H2.objs.size = L at hns₁ hsb₁ ⊢
  generalize hadef : s.heap.objs.size = a at hC ⊢
  have hadef : @Eq Nat s.heap.objs.size a := hadef
  have haL : @Ne Nat a L := by omega
  have freshge : ∀ b : Addr, @LE.le Nat _ a b → s.heap.get? b = none := fun b hb => by
    cases e : s.heap.get? b with
    | none => rfl
    | some o' => have := ltSize e; omega
  have old : ∀ b o, s.heap.get? b = some o → h₁.get? b = some o := fun b o e => by
    have lt := ltSize e
    exact hsb₁.extBut b o (show @Ne Nat b L by omega) (Heap.get?_push_of_some _ (hH2 ▸ Heap.get?_push_of_some _ e))
  have hacc : h₁.get? a = some { cls := .type "list", dict := none, data := .seq ([] : List Value).toArray } := by
    refine hsb₁.extBut _ _ haL (Heap.get?_push_of_some _ ?_)
    rw [← hH2, ← hadef]
    exact Heap.get?_push_size _ rfl
  -- the base of the comprehension's frame
  let base' : Lk := fun b => if b ∈ wr then none else s.heap.get? b
  have b'1 : ∀ b, b ∉ wr → base' b = s.heap.get? b := fun b hb => if_neg hb
  have b'2 : ∀ b, b ∈ wr → base' b = none := fun b hb => if_pos hb
  have b'3 : ∀ b, s.heap.get? b = none → base' b = none := fun b e => by
    by_cases hb : b ∈ wr
    · exact b'2 b hb
    · rw [b'1 b hb]; exact e
  have b'4 : ∀ b o, base' b = some o → s.heap.get? b = some o := fun b o e => by
    by_cases hb : b ∈ wr
    · rw [b'2 b hb] at e; cases e
    · rw [b'1 b hb] at e; exact e
  have b'5 : ∀ b o, base b = some o → base' b = some o := fun b o e => by
    rw [b'1 b fun hb => by rw [(hwr b hb).1] at e; cases e]
    exact st.keep b o e
  have lookge : ∀ b : Addr, @LE.le Nat _ a b → look b = none := fun b hb => by
    cases q : look b with
    | none => rfl
    | some o => have := st.sub b o q; rw [freshge b hb] at this; cases this
  obtain ⟨I, h0, hcel, turn, done⟩ := body.run L a (compCx_ok ok hkind)
  have cellLt : ∀ x c, C.env.cells.lookup x = some c → @LT.lt Nat _ c a := fun x c e => by
    obtain ⟨ov, ⟨o, ho, _⟩, _⟩ := st.cellv x c e
    have := ltSize ho
    omega
  have stc : ∀ tk, St (compCx C scope cl L) base' ⟨fv, [(a, .lst [])]⟩ look { s with heap := h₁, toks := tk } := by
    intro tk
    refine ⟨?_, fun b o e => b'5 b o (st.top b o e), fun b o e => old b o (b'4 b o e), fun b o e => old b o (st.sub b o e), ⟨_, hns₁, ?_⟩, ?_, ?_, ?_, ?_, ?_, fun q => nomatch q⟩
    · obtain ⟨h₂, tk₂, e⟩ := st.same; exact ⟨h₁, tk, by rw [e]; rfl⟩
    · intro x pv e1 e2
      rw [(hfv.get e1).2.2 L] at e2; cases e2
    · intro x c e
      have e' : C.env.cells.lookup x = some c := hcl.get e
      obtain ⟨ov, ⟨o, ho, hd⟩, hv⟩ := st.cellv x c e'
      refine ⟨ov, ⟨o, old c o ho, hd⟩, fun _ pv e1 => ?_⟩
      have q := hfv.get e1
      exact hv (by rw [q.2.1]; simp) pv q.1
    · intro b k e
      rw [List.mem_singleton] at e
      cases e
      exact ⟨_, _, hacc, .nil⟩
    · simp
    · intro b k e
      rw [List.mem_singleton] at e
      cases e
      refine ⟨⟨lookge _ (Nat.le_refl _), b'3 _ (freshge _ (Nat.le_refl _))⟩, haL, fun x c e q => ?_⟩
      have h1 := cellLt x c (hcl.get e)
      have h2 : @Eq Nat a c := q
      omega
    · exact ⟨lookge _ (by show @LE.le Nat _ a L; omega), b'3 _ (freshge _ (by show @LE.le Nat _ a L; omega))⟩
  have hfpOld : ∀ b ∈ fp, ∃ o, s.heap.get? b = some o := fun b hb => by
    rcases hfp b hb with h1 | ⟨o, ho⟩
    · exact W.ex _ _ hsn b h1
    · exact ⟨o, st.sub b o ho⟩
  have hsn₁ : Sn 0 h₁ := W.frame _ _ _ hsn fun b _ o e => old b o e
  have W' : Itr (compCx C scope cl L) look I₀ fp wr items target Sn := ⟨W.sub, W.frame, W.ex, W.item, W.self, W.done⟩
  have loop : ∀ tk, codeAny (model C.G.prog C.G.w) C.A (.compLoop (.ListComp elt (⟨target, iter, ifs, 0⟩ :: rest) scope pos) 0 (.ref I₀) (.ref a) (compEnvC scope cl L C.env)) (RR (.ref a) L) { s with heap := h₁, toks := tk } := by
    intro tk
    refine codeAny_mono (comp_walk (C := compCx C scope cl L) (emit := emit L a) (yes := yes L a (.ref I₀)) (hturn L a (.ref I₀)) (hyes L a (.ref I₀)) (stc tk) W' hsn₁ ?_ hfp I h0 hcel turn) ?_
    · intro b hb
      obtain ⟨o, ho⟩ := hfpOld b (W.sub b hb)
      have lt := ltSize ho
      refine ⟨b'2 b hb, (hwr b hb).2.1, ?_, ?_, fun x c e => (hwr b hb).2.2.2.2 x c (hcl.get e)⟩
      · show @Ne Nat L b; omega
      · intro a' k e
        rw [List.mem_singleton] at e
        cases e; show @Ne Nat a b; omega
    · rintro r s' ⟨rfl, S', look', hI, le, st', hw⟩
      obtain ⟨l, hl, hKl⟩ := done S' hI
      obtain ⟨vs', cel'⟩ := S'
      dsimp only at hl
      subst hl
      obtain ⟨items', m₁, ho, hrs⟩ := st'.own a _ (.head _)
      have f := st'.freeze (.head : CDel a (.lst l) _ _) ho
      obtain ⟨h₂, tk₂, e₂⟩ := st.same
      obtain ⟨h₃, tk₃, e₃⟩ := st'.same
      obtain ⟨m', hn', _⟩ := st'.vars
      have e₄ : s' = { s with heap := h₃, toks := tk₃ } := by rw [e₃, e₂]; rfl
      have hh : s'.heap = h₃ := by rw [e₄]
      have lo := f.2.1
      have q : ∀ b o, (fun b => if b = a then some { cls := .type "list", dict := none, data := .seq items' m₁, slots := #[] } else look' b) b = some o → look b = some o ∨ s.heap.get? b = none := by
        intro b o e
        rcases (le.trans f.2).2 b o e with h1 | h1
        · exact .inl h1
        · by_cases hb : b ∈ wr
          · exfalso
            obtain ⟨o', ho'⟩ := hfpOld b (W.sub b hb)
            have := ltSize ho'
            have hba : @Ne Nat b a := by omega
            simp only [hba, if_false] at e
            rw [hw b hb] at e; cases e
          · right; rw [← b'1 b hb]; exact h1
      have keep3 : ∀ b o, b ∉ wr → s.heap.get? b = some o → h₃.get? b = some o := fun b o hb e => by
        rw [← hh]; exact st'.keep b o (by rw [b'1 b hb]; exact e)
      rw [e₄]
      refine hRR a L h₃ tk₃ m' _ l (freshge _ (by omega)) haL (freshge _ (Nat.le_refl _)) ?_ hKl ⟨(le.trans f.2).1, fun b o e => (q b o e).imp id fun w => ?_⟩ ?_ (.lst look_new (hrs.mono lo)) f.1.locFree.1
      · rw [← hh]; exact hn'
      · cases w' : base b with
        | none => rfl
        | some o' => rw [st.keep b o' w'] at w; cases w
      · refine st.move wr (fun b hb => (hwr b hb).1) (fun b hb => (hwr b hb).2.1) (fun b k e hb => (hwr b hb).2.2.2.1 b k e rfl) (fun x c e hb => (hwr c hb).2.2.2.2 x c e rfl) (fun m hm => hm.at' fun o e => keep3 _ o (fun hb => (hwr _ hb).2.2.1 rfl) e)
          (fun b o _ hb e => keep3 b o hb e) (le.trans f.2).1 (fun b o e => by rw [← hh]; exact f.1.sub b o e) fun b o e => (q b o e).imp (fun x => ⟨o, x⟩) id
  exact codeAny_compStart_list (loop _) (W.self 0 _ _ hsn₁ (loop _) |> fun h => wpAny_mono h (fun _ _ x => x) fun _ _ x => x.elim)

end Mine
end

section
open PySem PySem.W PyProof.Rows
set_option maxRecDepth 100000
set_option linter.unusedVariables false

namespace Mine
variable {C : Cx} {S : Store} {base : Lk}

theorem St.touch {look : Lk} {s : Shared} (h : St C base S look s) {L : Addr} (h1 : base L = none) (h2 : look L = none) (h3 : C.env.locals ≠ L) (h4 : ∀ a k, (a, k) ∈ S.cel → a ≠ L) (h5 : ∀ x c, C.env.cells.lookup x = some c → c ≠ L) {h' : Heap} {tk : Nat}
    (hs : Heap.SameBut L s.heap h') : St C base S look { s with heap := h', toks := tk } := by
  have nb : ∀ {b o}, look b = some o → b ≠ L := fun e q => by subst q; rw [h2] at e; cases e
  refine h.move [L] (fun b hb => by rw [List.mem_singleton.mp hb]; exact h1) (fun b hb => by rw [List.mem_singleton.mp hb]; exact h2) (fun a k e hb => h4 a k e (List.mem_singleton.mp hb)) (fun x c e hb => h5 x c e (List.mem_singleton.mp hb))
    (fun m hm => hm.at' fun o e => hs.extBut _ o h3 e) (fun b o _ hb e => hs.extBut b o (fun q => hb (List.mem_singleton.mpr q)) e) (Le.refl _) (fun b o e => hs.extBut b o (nb e) (h.sub b o e)) fun b o e => .inl ⟨o, e⟩

theorem e_compG {n : Nat} (ok : C.Ok n) {elt target iter : Expr} {ifs : List Expr} {rest : List Comprehension} {scope : Scope} {pos : Pos} {cl : List (Str × Addr)} {K : PV → Store → Prop}
    {emit : Addr → Addr → Sem Unit} {yes : Addr → Addr → Value → Sem Fin}
    (hturn : ∀ L a it, compTurn (.ListComp elt (⟨target, iter, ifs, 0⟩ :: rest) scope pos) 0 it (.ref a) (compCx C scope cl L).env = turnOf target ifs iter.pos (yes L a it) it (compCx C scope cl L).env (.compLoop (.ListComp elt (⟨target, iter, ifs, 0⟩ :: rest) scope pos) 0 it (.ref a) (compCx C scope cl L).env))
    (hyes : ∀ L a it (s : Shared) (Q : Unit → Shared → Prop), wpAny (model C.G.prog C.G.w) C.A (emit L a) Q NoE s → wpAny (model C.G.prog C.G.w) C.A (yes L a it) (fun r s' => r = .again (.compLoop (.ListComp elt (⟨target, iter, ifs, 0⟩ :: rest) scope pos) 0 it (.ref a) (compCx C scope cl L).env) ∧ Q () s') NoE s)
    (hs : ∀ x, foldedSetIterable iter C.env x = pure x) (hclos : closureFor scope C.env = pure cl) (hcell : ∀ y ∈ scope.names, y.2 ≠ .cell) (hkind : scope.kind = .function) (hnames : ∀ y ∈ scope.names, y.2 = .local → scope.names.lookup y.1 = some .local) (hcl : ClOk C cl)
    (h : wpI C iter target (fun items S1 => ∃ fv Kl, FvOk C S1 scope cl fv ∧ CompOk C scope cl n target ifs emit fv items Kl ∧ ∀ l, Kl l → K (.lst l) S1) S) :
    wpE C (.ListComp elt (⟨target, iter, ifs, 0⟩ :: rest) scope pos) K S := by
  refine .mk fun s look base hst => ?_
  rw [eval_ListComp]
  refine wpAny_comprehension_free (use := none) rfl hs hclos hkind hnames (wpAny_mono (h.run s look base hst) (fun v s1 h1 => wpAny_mono h1 (fun it s2 h2 => ?_) fun _ _ x => x) fun _ _ x => x)
  obtain ⟨items, S1, l1, ⟨fv, Kl, hfv, hbody, hK⟩, le1, hit⟩ := h2
  have st : St C base S1 l1 s2 := let ⟨_, _, _, _, _, st, _⟩ := hit; st
  refine comp_core (RR := fun acc L => compPost (model C.G.prog C.G.w) C.A NoE none (Post C base look K) acc L) ok hturn hyes hcell hkind hcl hit hfv hbody ?_
  intro a L h' tk m' look' l hL haL ha hn hKl le2 st' hr hlL
  refine ⟨m', hn, fun h'' hs'' => ?_⟩
  have ap := st.newApart hL
  exact ⟨.lst l, S1, look', hK l hKl, le1.trans le2, st'.touch (tk := tk) ap.1 hlL ap.2.2.1 ap.2.2.2.1 ap.2.2.2.2 hs'', hr⟩

theorem e_comp {n : Nat} (ok : C.Ok n) {elt target iter : Expr} {ifs : List Expr} {scope : Scope} {pos : Pos} {cl : List (Str × Addr)} {K : PV → Store → Prop}
    (hs : ∀ x, foldedSetIterable iter C.env x = pure x) (hclos : closureFor scope C.env = pure cl) (hcell : ∀ y ∈ scope.names, y.2 ≠ .cell) (hkind : scope.kind = .function) (hnames : ∀ y ∈ scope.names, y.2 = .local → scope.names.lookup y.1 = some .local) (hcl : ClOk C cl)
    (h : wpI C iter target (fun items S1 => ∃ fv Kl, FvOk C S1 scope cl fv ∧ CompOk C scope cl n target ifs (fun L a => emitM elt (.ref a) (compCx C scope cl L).env) fv items Kl ∧ ∀ l, Kl l → K (.lst l) S1) S) :
    wpE C (.ListComp elt [⟨target, iter, ifs, 0⟩] scope pos) K S :=
  e_compG ok (fun L a it => turn_one elt target iter ifs scope pos it (.ref a) _) (fun L a it => yes_emit) hs hclos hcell hkind hnames hcl h

/-- a name takes a comprehension's list: the stores are exchanged -/
theorem x_compG {n : Nat} (ok : C.Ok n) {elt target iter : Expr} {ifs : List Expr} {rest : List Comprehension} {scope : Scope} {pos spos py : Pos} {y : Str} {cl : List (Str × Addr)} {K : Fl → Store → Prop}
    {emit : Addr → Addr → Sem Unit} {yes : Addr → Addr → Value → Sem Fin}
    (hsw : swapsWith (.ListComp elt (⟨target, iter, ifs, 0⟩ :: rest) scope pos) (some (.Name y py)) spos.line C.env = pure true) (hy : Wr1 C y)
    (hturn : ∀ L a it, compTurn (.ListComp elt (⟨target, iter, ifs, 0⟩ :: rest) scope pos) 0 it (.ref a) (compCx C scope cl L).env = turnOf target ifs iter.pos (yes L a it) it (compCx C scope cl L).env (.compLoop (.ListComp elt (⟨target, iter, ifs, 0⟩ :: rest) scope pos) 0 it (.ref a) (compCx C scope cl L).env))
    (hyes : ∀ L a it (s : Shared) (Q : Unit → Shared → Prop), wpAny (model C.G.prog C.G.w) C.A (emit L a) Q NoE s → wpAny (model C.G.prog C.G.w) C.A (yes L a it) (fun r s' => r = .again (.compLoop (.ListComp elt (⟨target, iter, ifs, 0⟩ :: rest) scope pos) 0 it (.ref a) (compCx C scope cl L).env) ∧ Q () s') NoE s)
    (hs : ∀ x, foldedSetIterable iter C.env x = pure x) (hclos : closureFor scope C.env = pure cl) (hcell : ∀ y ∈ scope.names, y.2 ≠ .cell) (hkind : scope.kind = .function) (hnames : ∀ y ∈ scope.names, y.2 = .local → scope.names.lookup y.1 = some .local) (hcl : ClOk C cl)
    (h : wpI C iter target (fun items S1 => ∃ fv Kl, FvOk C S1 scope cl fv ∧ CompOk C scope cl n target ifs emit fv items Kl ∧ ∀ l, Kl l → K .next (S1.set y (.lst l))) S) :
    wpX C (.Assign [.Name y py] (.ListComp elt (⟨target, iter, ifs, 0⟩ :: rest) scope pos) spos) K S := by
  refine .mk fun s look base hst => ?_
  rw [exec_Assign_Name_used _ _ _ _ hsw]
  refine wpAny_bind (wpAny_standAt (wpAny_bind ?_))
  show wpAny _ C.A (do let _ ← comprehension (.ListComp elt (⟨target, iter, ifs, 0⟩ :: rest) scope pos) scope C.env _ (newList []) false (eval iter C.env) (some (assign (.Name y py) C.env))) _ _ s
  refine wpAny_bind (wpAny_mono (wpAny_comprehension_free (use := some (assign (.Name y py) C.env)) (Q := fun _ s' => PostF C base look K .next s') rfl hs hclos hkind hnames
    (wpAny_mono (h.run s look base hst) (fun v s1 h1 => wpAny_mono h1 (fun it s2 h2 => ?_) fun _ _ x => x) fun _ _ x => x)) (fun _ s' hq => wpAny_pure (wpAny_pure hq)) fun _ _ e => e)
  obtain ⟨items, S1, l1, ⟨fv, Kl, hfv, hbody, hK⟩, le1, hit⟩ := h2
  have st : St C base S1 l1 s2 := let ⟨_, _, _, _, _, st, _⟩ := hit; st
  refine comp_core (RR := fun acc L => compPost (model C.G.prog C.G.w) C.A NoE (some (assign (.Name y py) C.env)) (fun _ s' => PostF C base look K .next s') acc L) ok hturn hyes hcell hkind hcl hit hfv hbody ?_
  intro a L h' tk m' look' l hL haL ha hn hKl le2 st' hr hlL
  have ap := st.newApart hL
  obtain ⟨oL, esL, epL, hoL, hrest⟩ := hn
  -- the comprehension's frame goes into the base for the store
  let base' : Lk := fun b => if b = L then some oL else base b
  have hb' : ∀ b o, base b = some o → base' b = some o := fun b o e => by
    show (if b = L then some oL else base b) = some o
    rw [if_neg, e]
    rintro rfl; rw [ap.1] at e; cases e
  have nb : ∀ {b}, b ≠ L → base b = none → base' b = none := fun hb e => by
    show (if _ = L then some oL else base _) = none
    rw [if_neg hb, e]
  have st2 : St C base' S1 look' { s2 with heap := h', toks := tk } := st'.moreBase hb' (fun b o e => by
      by_cases hb : b = L
      · subst hb
        have : base' b = some oL := if_pos rfl
        rw [this] at e; cases e; exact hoL
      · have : base' b = base b := if_neg hb
        rw [this] at e; exact st'.keep b o e) (nb ap.2.2.1 st'.locFree.2) (fun b k e => nb (ap.2.2.2.1 b k e) (st'.ownFree b k e).1.2) fun wc x c e q => nb (ap.2.2.2.2 x c e) (st'.cellFree wc x c e q).1.2
  show wpAny _ C.A (assign (.Name y py) C.env (.ref a)) _ _ _
  refine PyProof.Rows.assign_Name (store_var ok st2 hy hr fun s3 st3 => ?_)
  have hLk : s3.heap.get? L = some oL := st3.keep L oL (if_pos rfl)
  refine ⟨m', ⟨oL, esL, epL, hLk, hrest⟩, fun h'' hs'' => ?_⟩
  have st4 : St C base (S1.set y (.lst l)) look' s3 := st3.lessBase hb' st.top
  exact ⟨.next, _, look', hK l hKl, le1.trans le2, st4.touch (tk := s3.toks) ap.1 hlL ap.2.2.1 ap.2.2.2.1 ap.2.2.2.2 hs'', trivial⟩

/-- the inner for of a comprehension -/
theorem u_nest {elt target iter target' iter' : Expr} {ifs ifs' : List Expr} {scope : Scope} {pos : Pos} {a : Addr} {K : Store → Prop} (hs : ∀ x, foldedSetIterable iter' C.env x = pure x)
    (h : wpI C iter' target' (fun items S1 => ∃ I : Nat → Store → Prop, I 0 S1 ∧ (∀ i S', I i S' → S'.cel.map (·.1) = S1.cel.map (·.1)) ∧
      (∀ i p S1, items[i]? = some p → I i S1 → ∃ S2, AsgOk C target' p S1 S2 ∧ wpQ C ifs' (fun b S3 => if b then wpU C (emitM elt (.ref a) C.env) (fun S4 => I (i + 1) S4) S3 else I (i + 1) S3) S2) ∧
      ∀ S', I items.length S' → K S') S) :
    wpU C (nestM (.ListComp elt [⟨target, iter, ifs, 0⟩, ⟨target', iter', ifs', 0⟩] scope pos) iter' 1 (.ref a) C.env) K S := by
  refine .mk fun s look base hst => ?_
  unfold nestM
  refine wpAny_bind (wpAny_mono (h.run s look base hst) ?_ fun _ _ x => x)
  intro v s1 h1
  refine wpAny_bind (wpAny_standAt (wpAny_bind (wpAny_of_eq (hs v) (wpAny_bind (wpAny_holding (wpAny_mono h1 ?_ fun _ _ x => x))))))
  rintro it s2 ⟨items, S1, l1, ⟨I, h0, hcel, turn, done⟩, le1, hit⟩
  obtain ⟨I₀, fp, wr, Sn, rfl, st, W, hsn, hwr, hfp⟩ := hit
  have loop : codeAny (model C.G.prog C.G.w) C.A (.compLoop (.ListComp elt [⟨target, iter, ifs, 0⟩, ⟨target', iter', ifs', 0⟩] scope pos) 1 (.ref I₀) (.ref a) C.env) (fun r s' => match r with | .ok f => wpAny (model C.G.prog C.G.w) C.A (pure ()) (fun _ s' => ∃ S' look', K S' ∧ Ext base look look' ∧ St C base S' look' s') NoE s' | .error e => cameBackBy (model C.G.prog C.G.w) C.A C.env NoE e s') s2 := by
    refine codeAny_mono (comp_walk (emit := emitM elt (.ref a) C.env) (yes := yesM (emitM elt (.ref a) C.env) _) (turn_inner elt target iter target' iter' ifs ifs' scope pos (.ref I₀) (.ref a) C.env) yes_emit st W hsn hwr hfp I h0 hcel turn) ?_
    rintro r s' ⟨rfl, S', look', hI, le, st', _⟩
    exact wpAny_pure ⟨S', look', done S' hI, le1.trans le, st'⟩
  refine wpAny_bind (wpAny_runOwn ?_)
  refine codeAny_of_tree ?_
  show wpAny _ _ ((compStart (.ListComp elt [⟨target, iter, ifs, 0⟩, ⟨target', iter', ifs', 0⟩] scope pos) 1 (.ref I₀) (.ref a) C.env).onRaise (fun x => do noteFrame x C.env; standAt theWindowsPlace)) _ _ s2
  refine wpAny_notedAt ?_
  unfold compStart
  show wpAny _ _ (ask >>= _) _ _ s2
  refine wpAny_bind (wpAny_askSetting (wpAny_ite ?_))
  split
  · exact wpAny_pure ⟨rfl, loop⟩
  · refine wpAny_bind (wpAny_rule (wpAny_bind (wpAny_standAt ?_)))
    refine wpAny_bind (wpAny_mono (W.self 0 s2 (fun it' s' => it' = .ref I₀ ∧ s' = s2) hsn ⟨rfl, rfl⟩) ?_ fun _ _ x => x.elim)
    rintro _ _ ⟨rfl, rfl⟩
    exact wpAny_pure ⟨rfl, loop⟩

end Mine
end

section
open PySem PySem.W PyProof.Rows
set_option maxRecDepth 100000
set_option linter.unusedVariables false

namespace Mine
/-- one argument, two arguments: what the binder makes of them -/
local macro_rules | `(tactic| walk_at "my bind1") => `(tactic| (intro pm code doc vs hv; match vs, hv with | [_], _ => rfl))
local macro_rules | `(tactic| walk_at "my bind2") => `(tactic| (intro pm code doc vs hv; match vs, hv with | [_, _], _ => rfl))
/-- one step of an expression -/
local macro_rules | `(tactic| walk_at "my e") => `(tactic| first
  | refine e_int ?_
  | refine e_bool ?_
  | refine e_var (by assumption) (.loc rfl) rfl rfl ?_
  | refine e_var (by assumption) (.cell _ rfl rfl) rfl rfl ?_
  | refine e_var (by assumption) (.free _ rfl rfl rfl) rfl rfl ?_
  | refine e_bin ?_
  | refine e_cmp rfl ?_
  | refine t_cmp rfl ?_
  | refine t_and ?_
  | refine t_or ?_
  | refine e_neg ?_
  | refine e_ifexp ?_
  | refine e_tup ?_
  | refine l_cons rfl ?_
  | refine l_nil ?_
  | refine e_item (fun _ _ => rfl) ?_
  | refine e_callF (by assumption) (bi_abs rfl) rfl rfl ?_
  | refine e_callF (by assumption) (bi_len rfl) rfl rfl ?_
  | refine e_callF (by assumption) (bi_max rfl) rfl rfl ?_
  | refine e_callF (by assumption) (bi_sorted rfl) rfl rfl ?_
  | refine e_callF (by assumption) (bi_sum rfl) rfl rfl ?_
  | refine e_callT (by assumption) (bi_range rfl) rfl rfl ?_
  | refine e_callT (by assumption) (bi_list rfl) rfl rfl ?_
  | refine e_callT (by assumption) (bi_reversed rfl) rfl rfl ?_
  | refine e_callT (by assumption) (bi_enumerate rfl) rfl rfl ?_
  | refine ⟨_, bin_add, ?_⟩
  | refine ⟨_, bin_sub, ?_⟩
  | refine ⟨_, cmp_eq, ?_⟩
  | refine ⟨_, cmp_ne, ?_⟩
  | refine ⟨_, cmp_lt, ?_⟩
  | refine ⟨_, cmp_le, ?_⟩
  | refine ⟨_, cmp_gt, ?_⟩
  | refine ⟨_, cmp_ge, ?_⟩
  | refine ⟨_, _, call_abs, ?_⟩
  | refine ⟨_, _, call_max (by assumption), ?_⟩
  | refine ⟨_, _, call_range1, ?_⟩
  | refine ⟨_, _, call_range2, ?_⟩)
local macro_rules | `(tactic| walk_at "my es") => `(tactic| (repeat walk_at "my e"))


theorem rat_spec {G : GE} {t b : Int} (hb : 0 < b) (hs : b < 1000000000) : FnSpec G d4 2 [.int t, .int b] [] (fun p c => p = .tup [.int (t.fdiv (Int.gcd t b)), .int (b.fdiv (Int.gcd t b))] ∧ c = []) := by
  have hg0 : (0 : Int) < Int.gcd t b := by
    have : Int.gcd t b ≠ 0 := by
      intro e
      rw [Int.gcd_eq_zero_iff] at e
      omega
    omega
  have hgb : (Int.gcd t b : Int) ≤ b := Int.le_of_dvd hb (Int.gcd_dvd_right ..)
  refine fn_intro d4_mem ["top", "bottom"] (by decide) rfl (by walk_at "my bind2") rfl rfl rfl rfl ?_
  intro A L f pm code doc s₀ ok
  refine b_cons (x_if ?_)
  walk_at "my es"
  refine if_no (show (b == 0) = false by simp; omega) ?_
  refine b_nil ?_
  refine b_cons (x_assign ok (.loc rfl) rfl ?_)
  walk_at "my es"
  refine if_yes (decide_eq_true (show b > 0 from hb)) ?_
  refine e_call ok d0_mem rfl rfl rfl rfl (k := 1) (by omega) ?_
  walk_at "my es"
  refine ⟨_, gcd_spec t b, ?_⟩
  rintro _ _ ⟨rfl, rfl⟩
  refine b_cons (x_ret ?_)
  walk_at "my es"
  refine ⟨_, bin_div (by omega) (by omega), ?_⟩
  walk_at "my es"
  refine ⟨_, bin_div (by omega) (by omega), ?_⟩
  walk_at "my es"
  exact ⟨by simp, rfl, rfl⟩

theorem sign_of_spec {G : GE} {i : Int} : FnSpec G d6 1 [.int i] [] (fun p c => p = .int ((if i > 0 then 1 else 0) - (if i < 0 then 1 else 0)) ∧ c = []) := by
  refine fn_intro d6_mem ["number"] (by decide) rfl (by walk_at "my bind1") rfl rfl rfl rfl ?_
  intro A L f pm code doc s₀ ok
  refine b_cons (x_ret ?_)
  walk_at "my es"
  refine ⟨_, bin_subB, ?_⟩
  refine ⟨?_, rfl⟩
  by_cases h1 : i > 0 <;> by_cases h2 : i < 0 <;> simp [h1, h2]

noncomputable def prPV (x : Int × Int) : PV := .tup [.int x.1, .int x.2]
/-- a small number -/
noncomputable def Sm (i : Int) : Prop := i.natAbs < 1000000000000000000
theorem Sm.mulL {i j : Int} (h : Sm i) : IntMulOk i j := .of_left (intBits_le_64 (by unfold Sm at h; omega) (by unfold Sm at h; omega))
theorem Sm.mulR {i j : Int} (h : Sm j) : IntMulOk i j := .of_right (intBits_le_64 (by unfold Sm at h; omega) (by unfold Sm at h; omega))

theorem rcompare_spec {G : GE} {a b : Int × Int} (h1 : Sm a.1) (h2 : Sm b.1) : FnSpec G d5 1 [prPV a, prPV b] [] (fun p c => p = .int ((if a.1 * b.2 - b.1 * a.2 > 0 then 1 else 0) - (if a.1 * b.2 - b.1 * a.2 < 0 then 1 else 0)) ∧ c = []) := by
  refine fn_intro d5_mem ["a", "b"] (by decide) rfl (by walk_at "my bind2") rfl rfl rfl rfl ?_
  intro A L f pm code doc s₀ ok
  refine b_cons (x_assign ok (.loc rfl) rfl ?_)
  walk_at "my es"
  refine ⟨_, item_tup (by decide) (by decide) (j := 0) rfl rfl, ?_⟩
  walk_at "my es"
  refine ⟨_, item_tup (by decide) (by decide) (j := 1) rfl rfl, ?_⟩
  walk_at "my es"
  refine ⟨_, bin_mul h1.mulL, ?_⟩
  walk_at "my es"
  refine ⟨_, item_tup (by decide) (by decide) (j := 0) rfl rfl, ?_⟩
  walk_at "my es"
  refine ⟨_, item_tup (by decide) (by decide) (j := 1) rfl rfl, ?_⟩
  refine ⟨_, bin_mul h2.mulL, ?_⟩
  walk_at "my es"
  refine b_cons (x_ret ?_)
  walk_at "my es"
  refine ⟨_, bin_subB, ?_⟩
  refine ⟨?_, rfl⟩
  by_cases h1 : a.1 * b.2 - b.1 * a.2 > 0 <;> by_cases h2 : a.1 * b.2 - b.1 * a.2 < 0 <;> simp [h1, h2]

theorem linear_of_spec {G : GE} {x : Int × Int} : FnSpec G d17 1 [prPV x] [] (fun p c => p = .lst [.int (-x.1), .int x.2] ∧ c = []) := by
  refine fn_intro d17_mem ["x"] (by decide) rfl (by walk_at "my bind1") rfl rfl rfl rfl ?_
  intro A L f pm code doc s₀ ok
  refine b_cons (x_ret (e_list ?_))
  walk_at "my es"
  refine ⟨_, item_tup (by decide) (by decide) (j := 0) rfl rfl, ?_⟩
  refine ⟨_, rfl, ?_⟩
  walk_at "my es"
  refine ⟨_, item_tup (by decide) (by decide) (j := 1) rfl rfl, ?_⟩
  walk_at "my es"
  exact ⟨by simp, rfl, rfl⟩

/-- a polynomial -/
noncomputable def polyPV (l : List Int) : PV := .lst (l.map .int)
theorem zdegree_spec {G : GE} {l : List Int} (hl : l.length ≤ 1000) : FnSpec G d9 1 [polyPV l] [] (fun p c => p = .int (l.length - 1) ∧ c = []) := by
  refine fn_intro d9_mem ["p"] (by decide) rfl (by walk_at "my bind1") rfl rfl rfl rfl ?_
  intro A L f pm code doc s₀ ok
  refine b_cons (x_ret ?_)
  walk_at "my es"
  refine ⟨_, _, call_len_lst (by simpa using by omega), ?_⟩
  walk_at "my es"
  exact ⟨by simp, rfl⟩
theorem check_bottom_spec {G : GE} {l : List Int} (hl : l.length ≤ 1000) (h0 : l ≠ []) : FnSpec G d15 1 [polyPV l] [] (fun p c => p = .none ∧ c = []) := by
  refine fn_intro d15_mem ["p"] (by decide) rfl (by walk_at "my bind1") rfl rfl rfl rfl ?_
  intro A L f pm code doc s₀ ok
  refine b_cons (x_if ?_)
  walk_at "my es"
  refine ⟨_, _, call_len_lst (by simpa using by omega), ?_⟩
  walk_at "my es"
  have : l.length ≠ 0 := by simpa using h0
  refine if_no (show ((((l.map PV.int).length : Nat) : Int) == 0) = false by simp; exact h0) ?_
  refine b_nil (b_nil ⟨rfl, rfl⟩)
end Mine
end

section
open PySem PySem.W PyProof.Rows
set_option maxRecDepth 100000
set_option linter.unusedVariables false

namespace Mine
theorem vset_vset (l : List (Str × PV)) (x : Str) (p q : PV) : vset (vset l x p) x q = vset l x q := by
  induction l with
  | nil => simp [vset]
  | cons a r ih =>
    obtain ⟨y, u⟩ := a
    by_cases h : y = x
    · subst h; simp [vset]
    · simp [vset, h, ih]

/-- a comprehension of one for with one name -/
theorem comp_one {C : Cx} {n : Nat} {scope : Scope} {cl : List (Str × Addr)} {x : Str} {px : Pos} {ifs : List Expr} {elt : Expr} {fv : List (Str × PV)} {items : List PV} (J : Nat → List PV → Prop)
    (hx : ∀ L, (compCx C scope cl L).env.kindOf x = some .local) (h0 : J 0 []) (hlen : ∀ i l, J i l → l.length ≤ 1000000)
    (turn : ∀ L a i p l, (compCx C scope cl L).Ok n → items[i]? = some p → J i l → wpQ (compCx C scope cl L) ifs (fun b S3 => if b then wpE (compCx C scope cl L) elt (fun q S1 => S1 = ⟨vset fv x p, [(a, .lst l)]⟩ ∧ J (i + 1) (l ++ [q])) S3
      else S3 = ⟨vset fv x p, [(a, .lst l)]⟩ ∧ J (i + 1) l) ⟨vset fv x p, [(a, .lst l)]⟩) :
    CompOk C scope cl n (.Name x px) ifs (fun L a => emitM elt (.ref a) (compCx C scope cl L).env) fv items (J items.length) := by
  refine .mk fun L a ok => ⟨fun i S => ∃ l, J i l ∧ S.cel = [(a, .lst l)] ∧ (S.vs = fv ∨ ∃ p, S.vs = vset fv x p), ⟨[], h0, rfl, .inl rfl⟩, ?_, ?_, ?_⟩
  · rintro i S' ⟨l, _, e, _⟩; rw [e]; rfl
  · rintro i p ⟨vs, cel⟩ hp ⟨l, hJ, e, hv⟩
    dsimp only at e hv
    subst e
    refine ⟨_, asg_name ok (.loc (hx L)), ?_⟩
    have e2 : (Store.set ⟨vs, [(a, .lst l)]⟩ x p) = ⟨vset fv x p, [(a, .lst l)]⟩ := by
      rcases hv with rfl | ⟨q, rfl⟩
      · rfl
      · show (⟨vset (vset fv x q) x p, _⟩ : Store) = _
        rw [vset_vset]
    rw [e2]
    refine ⟨fun s look base hs => wpAny_mono ((turn L a i p l ok hp hJ).run s look base hs) ?_ fun _ _ x => x⟩
    rintro b s1 ⟨S1, l1, k1, le1, st1⟩
    refine ⟨S1, l1, ?_, le1, st1⟩
    cases b with
    | false =>
      obtain ⟨rfl, k⟩ := k1
      exact ⟨l, k, rfl, .inr ⟨p, rfl⟩⟩
    | true =>
      refine u_emit (wpE.mono k1 ?_)
      rintro q _ ⟨rfl, k⟩
      exact ⟨l, _, .head, hlen i l hJ, _, k, rfl, .inr ⟨p, rfl⟩⟩
  · rintro S' ⟨l, hJ, e, _⟩
    exact ⟨l, e, hJ⟩
/-- without a test -/
theorem comp_map {C : Cx} {n : Nat} {scope : Scope} {cl : List (Str × Addr)} {x : Str} {px : Pos} {elt : Expr} {fv : List (Str × PV)} {items : List PV} (g : Nat → PV → PV)
    (hx : ∀ L, (compCx C scope cl L).env.kindOf x = some .local) (hlen : items.length ≤ 1000000)
    (turn : ∀ L a i p l, (compCx C scope cl L).Ok n → items[i]? = some p → wpE (compCx C scope cl L) elt (fun q S1 => q = g i p ∧ S1 = ⟨vset fv x p, [(a, .lst l)]⟩) ⟨vset fv x p, [(a, .lst l)]⟩) :
    CompOk C scope cl n (.Name x px) [] (fun L a => emitM elt (.ref a) (compCx C scope cl L).env) fv items (fun l => l = items.mapIdx g) := by
  have := comp_one (C := C) (n := n) (scope := scope) (cl := cl) (x := x) (px := px) (ifs := []) (elt := elt) (fv := fv) (items := items) (fun i l => l = (items.take i).mapIdx g) hx (by simp) (by rintro i l rfl; simp; omega) ?_
  · simpa using this
  · rintro L a i p l ok hp rfl
    refine q_nil ?_
    rw [if_pos rfl]
    refine (turn L a i p _ ok hp).mono ?_
    rintro q S1 ⟨rfl, rfl⟩
    refine ⟨rfl, ?_⟩
    obtain ⟨hi, hp'⟩ := List.getElem?_eq_some_iff.mp hp
    rw [List.take_add_one, hp, List.mapIdx_append]
    simp only [Option.toList, List.mapIdx_cons, List.mapIdx_nil, List.length_take]
    congr 3
    omega

theorem seqIndex_nat {k : Int} {j n : Nat} (h : k = j) (hn : j < n) : seqIndex? k n = some j := by
  subst h
  rw [PySem.seqIndex_of (by omega) (by omega)]
  rfl
theorem seqIndex_last {n : Nat} (hn : 0 < n) : seqIndex? (-1) n = some (n - 1) := by
  unfold seqIndex?
  simp
  omega

/-! ### polynomials -/
noncomputable def trimR : List Int → List Int
  | [] => []
  | x :: xs => if x = 0 then trimR xs else x :: xs
noncomputable def trimF (l : List Int) : List Int := (trimR l.reverse).reverse
theorem trimF_zero (l : List Int) : trimF (l ++ [0]) = trimF l := by simp [trimF, trimR]
theorem trimF_ne (l : List Int) {x : Int} (h : x ≠ 0) : trimF (l ++ [x]) = l ++ [x] := by simp [trimF, trimR, h]
theorem trimF_nil : trimF [] = [] := rfl
theorem trimR_length (l : List Int) : (trimR l).length ≤ l.length := by
  induction l with
  | nil => simp [trimR]
  | cons x xs ih => simp only [trimR]; split <;> simp <;> omega
theorem trimF_length (l : List Int) : (trimF l).length ≤ l.length := by
  have := trimR_length l.reverse
  simp [trimF] at this ⊢
  exact this
noncomputable def addL (a b : List Int) : List Int := (List.range (max a.length b.length)).map fun i => a.getD i 0 + b.getD i 0
end Mine
end

section
open PySem PySem.W PyProof.Rows
set_option maxRecDepth 100000
set_option linter.unusedVariables false

namespace Mine
/-- one argument, two arguments: what the binder makes of them -/
local macro_rules | `(tactic| walk_at "my bind1") => `(tactic| (intro pm code doc vs hv; match vs, hv with | [_], _ => rfl))
local macro_rules | `(tactic| walk_at "my bind2") => `(tactic| (intro pm code doc vs hv; match vs, hv with | [_, _], _ => rfl))
/-- one step of an expression -/
local macro_rules | `(tactic| walk_at "my e") => `(tactic| first
  | refine e_int ?_
  | refine e_bool ?_
  | refine e_var (by assumption) (.loc rfl) rfl rfl ?_
  | refine e_var (by assumption) (.cell _ rfl rfl) rfl rfl ?_
  | refine e_var (by assumption) (.free _ rfl rfl rfl) rfl rfl ?_
  | refine e_bin ?_
  | refine e_cmp rfl ?_
  | refine t_cmp rfl ?_
  | refine t_and ?_
  | refine t_or ?_
  | refine e_neg ?_
  | refine e_ifexp ?_
  | refine e_tup ?_
  | refine l_cons rfl ?_
  | refine l_nil ?_
  | refine e_item (fun _ _ => rfl) ?_
  | refine e_callF (by assumption) (bi_abs rfl) rfl rfl ?_
  | refine e_callF (by assumption) (bi_len rfl) rfl rfl ?_
  | refine e_callF (by assumption) (bi_max rfl) rfl rfl ?_
  | refine e_callF (by assumption) (bi_sorted rfl) rfl rfl ?_
  | refine e_callF (by assumption) (bi_sum rfl) rfl rfl ?_
  | refine e_callT (by assumption) (bi_range rfl) rfl rfl ?_
  | refine e_callT (by assumption) (bi_list rfl) rfl rfl ?_
  | refine e_callT (by assumption) (bi_reversed rfl) rfl rfl ?_
  | refine e_callT (by assumption) (bi_enumerate rfl) rfl rfl ?_
  | refine ⟨_, bin_add, ?_⟩
  | refine ⟨_, bin_sub, ?_⟩
  | refine ⟨_, cmp_eq, ?_⟩
  | refine ⟨_, cmp_ne, ?_⟩
  | refine ⟨_, cmp_lt, ?_⟩
  | refine ⟨_, cmp_le, ?_⟩
  | refine ⟨_, cmp_gt, ?_⟩
  | refine ⟨_, cmp_ge, ?_⟩
  | refine ⟨_, _, call_abs, ?_⟩
  | refine ⟨_, _, call_max (by assumption), ?_⟩
  | refine ⟨_, _, call_range1, ?_⟩
  | refine ⟨_, _, call_range2, ?_⟩)
local macro_rules | `(tactic| walk_at "my es") => `(tactic| (repeat walk_at "my e"))


theorem poly_get {l : List Int} {i : Nat} (h : i < l.length) : (l.map PV.int)[i]? = some (.int (l.getD i 0)) := by
  simp [List.getElem?_eq_getElem h, List.getD]

theorem ztrim_spec {G : GE} {l : List Int} (hl : l.length ≤ 1000) : FnSpec G d8 1 [polyPV l] [] (fun p c => p = polyPV (trimF l) ∧ c = []) := by
  refine fn_intro d8_mem ["row"] (by decide) rfl (by walk_at "my bind1") rfl rfl rfl rfl ?_
  intro A L f pm code doc s₀ ok
  refine b_cons (x_assign ok (.loc rfl) rfl ?_)
  walk_at "my es"
  refine ⟨_, _, call_len_lst (by simpa using by omega), ?_⟩
  refine b_cons (x_while (fun k S => ∃ n : Nat, S = ⟨[("row", polyPV l), ("size", .int n)], []⟩ ∧ n ≤ l.length ∧ trimF (l.take n) = trimF l ∧ k = n) _ ⟨l.length, by show (⟨[("row", polyPV l), ("size", .int ((l.map PV.int).length : Int))], []⟩ : Store) = _; rw [List.length_map], Nat.le_refl _, by simp, rfl⟩ ?_)
  rintro k S ⟨n, rfl, hn, ht, rfl⟩
  have fin : ∀ (h : trimF l = l.take k), wpB (fnCx G d8 A L f pm code doc s₀) [d8.body[2]] (fun fl S' => match fl with | .ret pv => pv = polyPV (trimF l) ∧ S'.cel = [] | .next => PV.none = polyPV (trimF l) ∧ S'.cel = [] | _ => False) ⟨[("row", polyPV l), ("size", .int k)], []⟩ := by
    intro h
    refine b_cons (x_ret ?_)
    refine e_callT (by assumption) (bi_list rfl) rfl rfl (l_cons rfl (e_slice ?_))
    walk_at "my es"
    refine ⟨_, rfl, by simpa using by omega, ?_⟩
    dsimp only
    walk_at "my es"
    refine ⟨k, rfl, ?_⟩
    walk_at "my es"
    refine ⟨_, _, call_list (by simp; omega), ?_⟩
    refine ⟨?_, rfl⟩
    rw [h, polyPV, List.map_take]
  walk_at "my es"
  by_cases h0 : k = 0
  · subst h0
    refine if_no (show decide (((0 : Nat) : Int) > 0) = false from rfl) (if_no rfl ?_)
    refine fin ?_
    rw [← ht]; rfl
  · refine if_yes (decide_eq_true (by omega : ((k : Nat) : Int) > 0)) ?_
    obtain ⟨m, rfl⟩ : ∃ m, k = m + 1 := ⟨k - 1, by omega⟩
    walk_at "my es"
    refine ⟨_, item_lst (by omega) (by omega) (j := m) (seqIndex_nat (by omega) (by simp; omega)) (poly_get (by omega)), ?_⟩
    walk_at "my es"
    have htk : l.take (m + 1) = l.take m ++ [l.getD m 0] := by
      rw [List.take_add_one, List.getElem?_eq_getElem (by omega)]
      simp [List.getD, List.getElem?_eq_getElem (show m < l.length by omega)]
    by_cases h1 : l.getD m 0 = 0
    · rw [h1]
      refine if_yes (show ((0 : Int) == 0) = true from rfl) ?_
      refine b_cons (x_aug ok (.loc rfl) (.loc rfl) rfl ?_)
      walk_at "my es"
      refine ⟨_, _, rfl, rfl, .inr ⟨rfl, ?_⟩⟩
      refine b_nil ⟨m, by omega, m, ?_, by omega, ?_, rfl⟩
      · show (⟨[("row", polyPV l), ("size", .int (((m + 1 : Nat) : Int) - 1))], []⟩ : Store) = _
        rw [show (((m + 1 : Nat) : Int) - 1) = m by omega]
      · rw [← ht, htk, h1, trimF_zero]
    · refine if_no (show (l.getD m 0 == 0) = false by simpa using h1) ?_
      refine fin ?_
      rw [← ht, htk, trimF_ne _ h1]
end Mine
end

section
open PySem PySem.W PyProof.Rows
set_option maxRecDepth 100000
set_option linter.unusedVariables false

namespace Mine
/-- one argument, two arguments: what the binder makes of them -/
local macro_rules | `(tactic| walk_at "my bind1") => `(tactic| (intro pm code doc vs hv; match vs, hv with | [_], _ => rfl))
local macro_rules | `(tactic| walk_at "my bind2") => `(tactic| (intro pm code doc vs hv; match vs, hv with | [_, _], _ => rfl))
/-- one step of an expression -/
local macro_rules | `(tactic| walk_at "my e") => `(tactic| first
  | refine e_int ?_
  | refine e_bool ?_
  | refine e_var (by assumption) (.loc rfl) rfl rfl ?_
  | refine e_var (by assumption) (.cell _ rfl rfl) rfl rfl ?_
  | refine e_var (by assumption) (.free _ rfl rfl rfl) rfl rfl ?_
  | refine e_bin ?_
  | refine e_cmp rfl ?_
  | refine t_cmp rfl ?_
  | refine t_and ?_
  | refine t_or ?_
  | refine e_neg ?_
  | refine e_ifexp ?_
  | refine e_tup ?_
  | refine l_cons rfl ?_
  | refine l_nil ?_
  | refine e_item (fun _ _ => rfl) ?_
  | refine e_callF (by assumption) (bi_abs rfl) rfl rfl ?_
  | refine e_callF (by assumption) (bi_len rfl) rfl rfl ?_
  | refine e_callF (by assumption) (bi_max rfl) rfl rfl ?_
  | refine e_callF (by assumption) (bi_sorted rfl) rfl rfl ?_
  | refine e_callF (by assumption) (bi_sum rfl) rfl rfl ?_
  | refine e_callT (by assumption) (bi_range rfl) rfl rfl ?_
  | refine e_callT (by assumption) (bi_list rfl) rfl rfl ?_
  | refine e_callT (by assumption) (bi_reversed rfl) rfl rfl ?_
  | refine e_callT (by assumption) (bi_enumerate rfl) rfl rfl ?_
  | refine ⟨_, bin_add, ?_⟩
  | refine ⟨_, bin_sub, ?_⟩
  | refine ⟨_, cmp_eq, ?_⟩
  | refine ⟨_, cmp_ne, ?_⟩
  | refine ⟨_, cmp_lt, ?_⟩
  | refine ⟨_, cmp_le, ?_⟩
  | refine ⟨_, cmp_gt, ?_⟩
  | refine ⟨_, cmp_ge, ?_⟩
  | refine ⟨_, _, call_abs, ?_⟩
  | refine ⟨_, _, call_max (by assumption), ?_⟩
  | refine ⟨_, _, call_range1, ?_⟩
  | refine ⟨_, _, call_range2, ?_⟩)
local macro_rules | `(tactic| walk_at "my es") => `(tactic| (repeat walk_at "my e"))


theorem map_range_poly (n : Nat) : ((List.range ((n : Int) - 0).toNat).map fun i : Nat => PV.int (0 + (i : Int))) = (List.range n).map fun i : Nat => PV.int i := by
  have : ((n : Int) - 0).toNat = n := by omega
  rw [this]
  simp
theorem zadd_spec {G : GE} {a b : List Int} (ha : a.length ≤ 1000) (hb : b.length ≤ 1000) : FnSpec G d10 2 [polyPV a, polyPV b] [] (fun p c => p = polyPV (trimF (addL a b)) ∧ c = []) := by
  have hmax : max ((a.map PV.int).length : Int) ((b.map PV.int).length : Int) = (max a.length b.length : Nat) := by simp only [List.length_map]; omega
  refine fn_intro d10_mem ["a", "b"] (by decide) rfl (by walk_at "my bind2") rfl rfl rfl rfl ?_
  intro A L f pm code doc s₀ ok
  refine b_cons (x_assign ok (.loc rfl) rfl ?_)
  walk_at "my es"
  refine ⟨_, _, call_len_lst (by simpa using by omega), ?_⟩
  walk_at "my es"
  refine ⟨_, _, call_len_lst (by simpa using by omega), ?_⟩
  walk_at "my es"
  rw [hmax]
  refine b_cons (x_ret ?_)
  refine e_call ok d8_mem rfl rfl rfl rfl (k := 1) (by omega) ?_
  refine l_cons rfl ?_
  refine e_comp ok (fun _ => rfl) rfl (by decide) rfl (by decide) (.cons rfl (.cons rfl .nil)) (i_val ?_)
  walk_at "my es"
  refine ⟨_, iter_rng ok (by omega) (by omega), ?_⟩
  rw [map_range_poly]
  refine ⟨[("a", polyPV a), ("b", polyPV b)], _, .cons rfl rfl (fun _ => rfl) (.cons rfl rfl (fun _ => rfl) .nil), comp_map (fun i _ => .int (a.getD i 0 + b.getD i 0)) (fun _ => rfl) (by simp; omega) ?_, ?_⟩
  · intro L' c i p l ok' hp
    simp only [List.getElem?_map, Option.map_eq_some_iff] at hp
    obtain ⟨j, hj, rfl⟩ := hp
    have hij : j = i := by
      obtain ⟨_, e⟩ := List.getElem?_eq_some_iff.mp hj
      simpa using e.symm
    subst hij
    refine e_bin (wpE.mono (K := fun q S1 => q = .int (a.getD j 0) ∧ S1 = ⟨vset [("a", polyPV a), ("b", polyPV b)] "at" (.int j), [(c, .lst l)]⟩) ?_ ?_)
    · walk_at "my es"
      refine ⟨_, _, call_len_lst (by simpa using by omega), ?_⟩
      walk_at "my es"
      rw [List.length_map]
      by_cases h : j < a.length
      · refine if_yes (decide_eq_true (by omega : (j : Int) < (a.length : Int))) ?_
        walk_at "my es"
        exact ⟨_, item_lst (by omega) (by omega) (j := j) (seqIndex_nat rfl (by simp; omega)) (poly_get h), rfl, rfl⟩
      · refine if_no (decide_eq_false (by omega : ¬ (j : Int) < (a.length : Int))) ?_
        walk_at "my es"
        exact ⟨by simp [List.getD, List.getElem?_eq_none (show a.length ≤ j by omega)], rfl⟩
    rintro _ _ ⟨rfl, rfl⟩
    refine (wpE.mono (K := fun q S1 => q = .int (b.getD j 0) ∧ S1 = ⟨vset [("a", polyPV a), ("b", polyPV b)] "at" (.int j), [(c, .lst l)]⟩) ?_ ?_)
    · walk_at "my es"
      refine ⟨_, _, call_len_lst (by simpa using by omega), ?_⟩
      walk_at "my es"
      rw [List.length_map]
      by_cases h : j < b.length
      · refine if_yes (decide_eq_true (by omega : (j : Int) < (b.length : Int))) ?_
        walk_at "my es"
        exact ⟨_, item_lst (by omega) (by omega) (j := j) (seqIndex_nat rfl (by simp; omega)) (poly_get h), rfl, rfl⟩
      · refine if_no (decide_eq_false (by omega : ¬ (j : Int) < (b.length : Int))) ?_
        walk_at "my es"
        exact ⟨by simp [List.getD, List.getElem?_eq_none (show b.length ≤ j by omega)], rfl⟩
    rintro _ _ ⟨rfl, rfl⟩
    exact ⟨_, bin_add, rfl, rfl⟩
  · rintro l rfl
    refine l_nil ?_
    have e : List.mapIdx (fun i x => PV.int (a.getD i 0 + b.getD i 0)) ((List.range (max a.length b.length)).map fun i : Nat => PV.int i) = (addL a b).map .int := by
      apply List.ext_getElem?
      intro i
      by_cases h : i < max a.length b.length
      · simp [addL, List.getElem?_mapIdx, List.getElem?_range h]
      · simp [addL, List.getElem?_mapIdx, h]
    rw [e]
    refine ⟨_, ztrim_spec (l := addL a b) (by simp [addL]; omega), ?_⟩
    rintro _ _ ⟨rfl, rfl⟩; exact ⟨rfl, rfl⟩

theorem zneg_spec {G : GE} {l : List Int} (hl : l.length ≤ 1000) : FnSpec G d11 1 [polyPV l] [] (fun p c => p = polyPV (l.map (- ·)) ∧ c = []) := by
  refine fn_intro d11_mem ["p"] (by decide) rfl (by walk_at "my bind1") rfl rfl rfl rfl ?_
  intro A L f pm code doc s₀ ok
  refine b_cons (x_ret ?_)
  refine e_comp ok (fun _ => rfl) rfl (by decide) rfl (by decide) .nil (i_val ?_)
  walk_at "my es"
  refine ⟨_, iter_lst ok, [], _, .nil, comp_map (fun i _ => .int (- l.getD i 0)) (fun _ => rfl) (by simp; omega) ?_, ?_⟩
  · intro L' c i p m ok' hp
    have hi : i < l.length := by
      have := (List.getElem?_eq_some_iff.mp hp).1
      simpa using this
    rw [poly_get hi] at hp; cases hp
    walk_at "my es"
    exact ⟨_, rfl, rfl, rfl⟩
  · rintro m rfl
    refine ⟨?_, rfl⟩
    show PV.lst _ = .lst _
    congr 1
    apply List.ext_getElem?
    intro i
    simp only [List.getElem?_mapIdx, List.getElem?_map, List.getD]
    cases l[i]? <;> rfl

theorem zsub_spec {G : GE} {a b : List Int} (ha : a.length ≤ 1000) (hb : b.length ≤ 1000) : FnSpec G d12 3 [polyPV a, polyPV b] [] (fun p c => p = polyPV (trimF (addL a (b.map (- ·)))) ∧ c = []) := by
  refine fn_intro d12_mem ["a", "b"] (by decide) rfl (by walk_at "my bind2") rfl rfl rfl rfl ?_
  intro A L f pm code doc s₀ ok
  refine b_cons (x_ret ?_)
  refine e_call ok d10_mem rfl rfl rfl rfl (k := 2) (by omega) ?_
  refine l_cons rfl ?_
  walk_at "my es"
  refine e_call ok d11_mem rfl rfl rfl rfl (k := 1) (by omega) ?_
  walk_at "my es"
  refine ⟨_, zneg_spec hb, ?_⟩
  rintro _ _ ⟨rfl, rfl⟩
  walk_at "my es"
  refine ⟨_, zadd_spec ha (by simpa using hb), ?_⟩
  rintro _ _ ⟨rfl, rfl⟩
  exact ⟨rfl, rfl⟩

theorem zscale_spec {G : GE} {l : List Int} {k : Int} (hl : l.length ≤ 1000) (hk : k ≠ 0) (hs : ∀ x ∈ l, Sm x) : FnSpec G d13 1 [polyPV l, .int k] [] (fun p c => p = polyPV (l.map (· * k)) ∧ c = []) := by
  refine fn_intro d13_mem ["p", "k"] (by decide) rfl (by walk_at "my bind2") rfl rfl rfl rfl ?_
  intro A L f pm code doc s₀ ok
  refine b_cons (x_ret ?_)
  walk_at "my es"
  refine if_yes (show (k != 0) = true by simpa using hk) ?_
  refine e_comp ok (fun _ => rfl) rfl (by decide) rfl (by decide) (.cons rfl .nil) (i_val ?_)
  walk_at "my es"
  refine ⟨_, iter_lst ok, [("k", .int k)], _, .cons rfl rfl (fun _ => rfl) .nil, comp_map (fun i _ => .int (l.getD i 0 * k)) (fun _ => rfl) (by simp; omega) ?_, ?_⟩
  · intro L' c i p m ok' hp
    have hi : i < l.length := by
      have := (List.getElem?_eq_some_iff.mp hp).1
      simpa using this
    rw [poly_get hi] at hp; cases hp
    walk_at "my es"
    refine ⟨_, bin_mul (hs (l.getD i 0) ?_).mulL, rfl, rfl⟩
    simp [List.getD, List.getElem?_eq_getElem hi]
  · rintro m rfl
    refine ⟨?_, rfl⟩
    show PV.lst _ = .lst _
    congr 1
    apply List.ext_getElem?
    intro i
    simp only [List.getElem?_mapIdx, List.getElem?_map, List.getD]
    cases l[i]? <;> rfl
end Mine
end

section
open PySem PySem.W PyProof.Rows
set_option maxRecDepth 100000
set_option linter.unusedVariables false

namespace Mine
variable {C : Cx} {S : Store} {base : Lk}

/-! ### lists put together -/
theorem mul_push {prog : Program} {w : World} {A : Around} {E : Value → Shared → Prop} {s : Shared} {l : Addr} {items : Array Value} {k : Nat} {x : Int} {u : Tok} {Q : Value → Shared → Prop}
    (hl : s.heap.get? l = some { cls := .type "list", dict := none, data := .seq items k, slots := #[] }) (hlo : -(2 ^ 63 : Int) ≤ x) (hhi : x < 2 ^ 63) (hsz : items.size * x.toNat ≤ 2 ^ 24)
    (h : Q (.ref s.heap.objs.size) { s with heap := s.heap.push { cls := .type "list", data := .seq (List.foldl (fun x1 x2 => x1 ++ x2) #[] (List.replicate (if items.isEmpty = true then 0 else x.toNat) items)) } }) :
    wpAny (model prog w) A (binaryOp .Mult (.ref l) (.int x u)) Q E s :=
  wpAny_binaryOp_repeat_ref (T := "list") (U := "int") (by decide) ⟨_, hl, rfl⟩ (fun s' => typeIs_int s' x u) noFill_list_mul F.fills_int_mul F.slot_int_rmul repeat_list F.slot_int_index.lookup
    (call_meets F.slot_int_rmul (typeIs_int s x u) F.entry_int_rmul (F.args_int_rmul_2 _ _) (int___rmul___int_list x u l items k)
      ⟨hl, rfl, ⟨_, hl, rfl⟩, call_meets F.slot_list_mul ⟨_, hl, rfl⟩ F.entry_list_mul (F.args_list_mul_2 _ _)
        (AutoListH.list___mul___list_int_3 l items k x u (by simp [Builtin.List.listFitsIndex]; omega) (by omega) (by simp [Builtin.List.listTooLong, sizeLine]; omega)) ⟨hl, h⟩⟩)
theorem add_push {prog : Program} {w : World} {A : Around} {E : Value → Shared → Prop} {s : Shared} {l b : Addr} {vs ws : Array Value} {n n2 : Nat} {Q : Value → Shared → Prop}
    (ho : s.heap.get? l = some { cls := .type "list", dict := none, data := .seq vs n, slots := #[] }) (ho2 : s.heap.get? b = some { cls := .type "list", dict := none, data := .seq ws n2, slots := #[] })
    (hsz : vs.size + ws.size ≤ sizeLine) (h : Q (.ref s.heap.objs.size) { s with heap := s.heap.push { cls := .type "list", data := .seq (vs ++ ws) } }) :
    wpAny (model prog w) A (binaryOp .Add (.ref l) (.ref b)) Q E s :=
  concat_meets ⟨_, ho, rfl⟩ ⟨_, ho2, rfl⟩ noFill_list_add seq_list_add PySem.F.slot_list_add PySem.F.entry_list_add (PySem.F.args_list_add_2 _ _) (list_addW l b vs ws n n2 none none #[] #[] hsz) ⟨ho, ho2, h⟩

theorem fold_app (l : List (Array Value)) (a : Array Value) : (l.foldl (fun x1 x2 => x1 ++ x2) a).toList = a.toList ++ (l.map Array.toList).flatten := by
  induction l generalizing a with
  | nil => simp
  | cons x xs ih => simp [ih]
theorem Reps.rep {look : Lk} {vs : List Value} {ps : List PV} (h : Reps look vs ps) (n : Nat) : Reps look (List.replicate n vs).flatten (List.replicate n ps).flatten := by
  induction n with
  | zero => exact .nil
  | succ n ih => simpa [List.replicate_succ] using h.append ih
theorem rep_items {look : Lk} {items : Array Value} {l : List PV} (h : Reps look items.toList l) (k : Nat) :
    Reps look (List.foldl (fun x1 x2 => x1 ++ x2) #[] (List.replicate (if items.isEmpty = true then 0 else k) items)).toList (List.replicate k l).flatten := by
  rw [fold_app]
  cases hi : items.isEmpty with
  | true =>
    have : items = #[] := by simpa using hi
    subst this
    cases h
    simp; exact .nil
  | false => simpa [List.map_replicate] using h.rep k

theorem bin_addL {l m : List PV} (hsz : l.length + m.length ≤ 1000000) : BinOk C S .Add (.lst l) (.lst m) (.lst (l ++ m)) := by
  refine .mk fun s look base v u hs ha hb => ?_
  cases ha with
  | @lst a items k _ h hr =>
    cases hb with
    | @lst b items2 k2 _ h2 hr2 =>
      have e1 : items.size = l.length := by simpa using hr.length
      have e2 : items2.size = m.length := by simpa using hr2.length
      refine add_push (hs.sub _ _ h) (hs.sub _ _ h2) (by rw [e1, e2, sizeLine_eq]; omega) ?_
      have p := hs.push { cls := .type "list", data := .seq (items ++ items2) } rfl (tk := s.toks)
      refine ⟨_, p.2, p.1, .lst look_new ?_⟩
      rw [Array.toList_append]
      exact (hr.append hr2).mono p.2.1
theorem bin_mulL {l : List PV} {k : Int} (hlo : -(2 ^ 63 : Int) ≤ k) (hhi : k < 2 ^ 63) (hsz : l.length * k.toNat ≤ 1000000) : BinOk C S .Mult (.lst l) (.int k) (.lst (List.replicate k.toNat l).flatten) := by
  refine .mk fun s look base v u hs ha hb => ?_
  cases ha with
  | @lst a items n _ h hr =>
    cases hb with
    | int _ t =>
      have e1 : items.size = l.length := by simpa using hr.length
      refine mul_push (hs.sub _ _ h) hlo hhi (by rw [e1]; omega) ?_
      have p := hs.push { cls := .type "list", data := .seq (List.foldl (fun x1 x2 => x1 ++ x2) #[] (List.replicate (if items.isEmpty = true then 0 else k.toNat) items)) } rfl (tk := s.toks)
      exact ⟨_, p.2, p.1, .lst look_new ((rep_items hr k.toNat).mono p.2.1)⟩
/-- a list times a number, owned -/
theorem e_mulO {l r : Expr} {pos : Pos} {K : PV → Store → Prop}
    (h : wpE C l (fun a S1 => wpE C r (fun b S2 => ∃ (l : List PV) (k : Int), a = .lst l ∧ b = .int k ∧ -(2 ^ 63 : Int) ≤ k ∧ k < 2 ^ 63 ∧ l.length * k.toNat ≤ 1000000 ∧ ∀ ad, K (.ptr ad) { S2 with cel := (ad, .lst (List.replicate k.toNat l).flatten) :: S2.cel }) S1) S) : wpE C (.BinOp l .Mult r pos) K S := by
  refine .mk fun s look base hs => ?_
  refine wpAny_BinOp (wpAny_mono (h.run s look base hs) ?_ fun _ _ x => x)
  rintro v s1 ⟨a, S1, l1, k1, le1, st1, r1⟩
  refine wpAny_mono (k1.run s1 l1 base st1) ?_ fun _ _ x => x
  rintro u s2 ⟨b, S2, l2, ⟨l, k, rfl, rfl, hlo, hhi, hsz, hK⟩, le2, st2, r2⟩
  have r1' := r1.mono le2.1
  cases r1' with
  | @lst a items n _ h hr =>
    cases r2 with
    | int _ t =>
      have e1 : items.size = l.length := by simpa using hr.length
      refine mul_push (st2.sub _ _ h) hlo hhi (by rw [e1]; omega) ?_
      have p := st2.own1 { cls := .type "list", data := .seq (List.foldl (fun x1 x2 => x1 ++ x2) #[] (List.replicate (if items.isEmpty = true then 0 else k.toNat) items)) } (.lst (List.replicate k.toNat l).flatten) (tk := s2.toks) ⟨_, _, Heap.get?_push_size _ rfl, rep_items hr k.toNat⟩
      exact ⟨_, _, l2, hK _, le1.trans le2, p, .ptr _⟩

/-! ### reversed, enumerate as heads of a for -/
theorem i_rev {n : Nat} (ok : C.Ok n) {e t : Expr} {x : Str} {p pos : Pos} {K : List PV → Store → Prop} (hb : BiOk C x (.type "reversed"))
    (he : starEach [e] C.env = (false, eval e C.env) :: starEach [] C.env) (hp : (backTo pos (starEach [] C.env)).any (·.1) = false)
    (h : wpL C [e] (fun pvs S1 => ∃ l, pvs = [.lst l] ∧ K l.reverse S1) S) : wpI C (.Call (.Name x p) [e] [] pos) t K S := by
  refine .mk fun s look base hs => ?_
  refine Call_ (load_bi ok hs hb.kind hb.mem hb.val hb.nn hb.nd ?_) rfl
  refine PyProof.Rows.callWith_type1 (wpAny_mono (h.run s look base pos hs) ?_ fun _ _ x => x) he hp
  rintro vs s1 ⟨pvs, S1, l1, ⟨l, rfl, k⟩, le1, st1, r1⟩
  obtain ⟨v, rfl, hr⟩ := r1.one
  cases hr with
  | @lst a items m _ ha hrs =>
    have hl : s1.heap.IsList a items := ⟨_, st1.sub _ _ ha, rfl, _, rfl⟩
    have hlen : items.size = l.reverse.length := by simpa using hrs.length
    refine call_reversed_list hl ?_
    have hI : Heap.IsRevIter (s1.heap.push (revObj a ((items.size : Int) - 1))) s1.heap.objs.size a ((items.size : Int) - 1) := ⟨_, Heap.get?_push_size _ rfl, rfl, rfl⟩
    refine wpAny_pyIter_revIter hI ?_
    have W := Walks.listRev (prog := C.G.prog) (w := C.G.w) ok.hand s1.heap.objs.size a (Nat.ne_of_lt (Heap.lt_size (st1.sub _ _ ha))) items
    have hsz : items.size = items.size := rfl
    rw [hlen] at W
    refine ⟨l.reverse, S1, l1, k, le1, s1.heap.objs.size, [s1.heap.objs.size, a], [s1.heap.objs.size], _, rfl, st1.pushDrop (tk := s1.toks) _, Itr.of_walks W ?_ ?_ "list_reverseiterator" ?_ (by decide), ⟨Nat.zero_le _, ?_, hl.push _⟩, ?_, ?_⟩
    · rintro i h' ⟨_, ⟨o, ho, _⟩, _⟩ b hb; rw [List.mem_singleton.mp hb]; exact ⟨o, ho⟩
    · intro i v look' p hv hle hp
      have hi : i < l.length := by
        have := (List.getElem?_eq_some_iff.mp hp).1
        simpa using this
      rw [List.getElem?_reverse hi] at hp
      rw [List.length_reverse] at hv
      obtain ⟨u, hu, hru⟩ := hrs.get hp
      rw [← Array.getElem?_toList] at hv
      rw [hu] at hv; cases hv
      exact hru.mono hle
    · rintro i h' ⟨_, ⟨o, ho, hc, _⟩, _⟩; exact ⟨o, ho, hc⟩
    · rw [← hlen]; simpa using hI
    · intro b hb; rw [List.mem_singleton.mp hb]; exact st1.newApart (get_size _)
    · intro b hb
      rcases List.mem_cons.mp hb with hb | hb
      · exact .inl (by rw [hb]; exact List.mem_singleton.mpr rfl)
      · rw [List.mem_singleton.mp hb]; exact .inr ⟨_, ha⟩

theorem i_enum {n : Nat} (ok : C.Ok n) {e : Expr} {elts : List Expr} {kk : Nat} {tp : Pos} {x : Str} {p pos : Pos} {K : List PV → Store → Prop} (hb : BiOk C x (.type "enumerate"))
    (he : starEach [e] C.env = (false, eval e C.env) :: starEach [] C.env) (hp : (backTo pos (starEach [] C.env)).any (·.1) = false)
    (h : wpL C [e] (fun pvs S1 => ∃ l, pvs = [.lst l] ∧ K (l.mapIdx fun i v => .tup [.int i, v]) S1) S) : wpI C (.Call (.Name x p) [e] [] pos) (.Tuple elts kk tp) K S := by
  refine .mk fun s look base hs => ?_
  refine Call_ (load_bi ok hs hb.kind hb.mem hb.val hb.nn hb.nd ?_) rfl
  refine PyProof.Rows.callWith_type1 (wpAny_mono (h.run s look base pos hs) ?_ fun _ _ x => x) he hp
  rintro vs s1 ⟨pvs, S1, l1, ⟨l, rfl, k⟩, le1, st1, r1⟩
  obtain ⟨v, rfl, hr⟩ := r1.one
  cases hr with
  | @lst a items m _ ha hrs =>
    have hl : s1.heap.IsList a items := ⟨_, st1.sub _ _ ha, rfl, _, rfl⟩
    have hlen : items.size = l.length := by simpa using hrs.length
    have hlt := ltSize (st1.sub _ _ ha)
    refine call_enumerate_list hl fun h' hE hI hz hk => ?_
    refine wpAny_pyIter_enum hE ?_
    have hne : @Ne Nat (s1.heap.objs.size + 1) s1.heap.objs.size := by omega
    have st2 : St C base S1 l1 { s1 with heap := h' } := st1.grow hk (Le.refl _) (fun b o e => hk b o (st1.sub b o e)) fun b o e => .inl ⟨o, e⟩
    have none1 : s1.heap.get? (s1.heap.objs.size + 1) = none := by
      cases q : s1.heap.get? (s1.heap.objs.size + 1) with
      | none => rfl
      | some o => have := ltSize q; omega
    refine ⟨_, S1, l1, k, le1, s1.heap.objs.size + 1, [s1.heap.objs.size + 1, s1.heap.objs.size, a], [s1.heap.objs.size + 1, s1.heap.objs.size],
      fun i h => (∃ old, IsEnum h (s1.heap.objs.size + 1) s1.heap.objs.size i old) ∧ h.IsListIter s1.heap.objs.size a i ∧ h.IsList a items, rfl, st2, ?_, ⟨⟨_, hE⟩, hI, hl.at fun o e => hk _ o e⟩, ?_, ?_⟩
    · refine ⟨?_, ?_, ?_, ?_, ?_, ?_⟩
      · intro b hb
        simp only [List.mem_cons, List.not_mem_nil, or_false] at hb ⊢
        rcases hb with h | h <;> simp [h]
      · rintro i h1 h2 ⟨⟨old, hE⟩, ⟨oi, hoi, ri⟩, hl'⟩ hk'
        exact ⟨⟨old, hk' _ (by simp) _ hE⟩, ⟨oi, hk' _ (by simp) _ hoi, ri⟩, hl'.at fun o e => hk' _ (by simp) o e⟩
      · rintro i h1 ⟨⟨old, hE⟩, ⟨oi, hoi, ri⟩, hl'⟩ b hb
        simp only [List.mem_cons, List.not_mem_nil, or_false] at hb
        rcases hb with rfl | rfl
        · exact ⟨_, hE⟩
        · exact ⟨_, hoi⟩
      · rintro i s2 look p Q hp ⟨⟨old, hE2⟩, hI2, hl2⟩ hle hsub hwr hQ
        simp only [List.getElem?_mapIdx, Option.map_eq_some_iff] at hp
        obtain ⟨p', hp', rfl⟩ := hp
        obtain ⟨u, hu, hru⟩ := hrs.get hp'
        rw [Array.getElem?_toList] at hu
        refine wpAny_pyNext_enum_item hE2 hI2 hl2 hu hne fun h3 hEO hI3 hT hz3 hk3 => ?_
        refine wpAny_letOwnedTupleGo_enum hEO fun h4 hE4 hs4 => ?_
        have hs4 : Heap.SameBut (s1.heap.objs.size + 1) h3 h4 := hs4
        have ltE := ltSize hE2
        obtain ⟨oi, hoi, _⟩ := id hI2
        have ltI := ltSize hoi
        obtain ⟨ol, hol, _⟩ := id hl2
        have ltL := ltSize hol
        have k34 : ∀ b o, b ∉ ([s1.heap.objs.size + 1, s1.heap.objs.size] : List Addr) → s2.heap.get? b = some o → h4.get? b = some o := fun b o hb e => by
          simp only [List.mem_cons, List.not_mem_nil, or_false, not_or] at hb
          exact hs4.extBut b o hb.1 (hk3 b o hb.1 hb.2 e)
        have fresh : s2.heap.get? s2.heap.objs.size = none := get_size _
        have lookf : look s2.heap.objs.size = none := by
          cases q : look s2.heap.objs.size with
          | none => rfl
          | some o => have := hsub _ _ q; rw [fresh] at this; cases this
        have tup4 : h4.get? s2.heap.objs.size = some { cls := .type "tuple", data := .seq #[.int i s2.toks, u] } := hs4.extBut _ _ (show @Ne Nat _ _ by omega) hT
        have le4 : Le look (fun b => if b = s2.heap.objs.size then some { cls := .type "tuple", data := .seq #[.int i s2.toks, u] } else look b) := fun b o e => by
          show (if b = s2.heap.objs.size then _ else look b) = some o
          rw [if_neg, e]
          rintro rfl; rw [lookf] at e; cases e
        refine hQ _ h4 _ (fun b => if b = s2.heap.objs.size then some { cls := .type "tuple", data := .seq #[.int i s2.toks, u] } else look b) ⟨⟨_, hE4⟩, ?_, ?_⟩ k34 le4 ?_ ?_ (.tup look_new ?_)
        · obtain ⟨o, ho, r⟩ := hI3
          exact ⟨o, hs4.extBut _ _ (show @Ne Nat _ _ by omega) ho, r⟩
        · refine hl2.at fun o e => k34 _ o ?_ e
          simp only [List.mem_cons, List.not_mem_nil, or_false, not_or]
          exact ⟨show @Ne Nat _ _ by omega, show @Ne Nat _ _ by omega⟩
        · intro b o e
          by_cases hb : b = s2.heap.objs.size
          · subst hb; exact .inr fresh
          · simp [hb] at e; exact .inl e
        · intro b o e
          by_cases hb : b = s2.heap.objs.size
          · subst hb; simp at e; subst e; exact tup4
          · simp [hb] at e
            exact k34 b o (fun hw => by rw [hwr b hw] at e; cases e) (hsub b o e)
        · exact .cons (.int _ _) (.cons ((hru.mono hle).mono le4) .nil)
      · rintro i s2 Q ⟨⟨old, hE2⟩, _⟩ hQ
        exact wpAny_pyIter_enum hE2 hQ
      · rintro s2 Q ⟨⟨old, hE2⟩, hI2, hl2⟩ hQ
        have hnone : items[l.length]? = none := by
          rw [Array.getElem?_eq_none]; omega
        rw [List.length_mapIdx] at hI2 hE2
        refine wpAny_pyNext_enum_end ok.hand hE2 hI2 hl2 hnone fun h3 hk3 => ?_
        refine hQ h3 _ fun b o hb e => hk3 b o ?_ e
        simp only [List.mem_cons, List.not_mem_nil, or_false, not_or] at hb
        exact hb.2
    · intro b hb
      simp only [List.mem_cons, List.not_mem_nil, or_false] at hb
      rcases hb with rfl | rfl
      · exact st1.newApart none1
      · exact st1.newApart (get_size _)
    · intro b hb
      simp only [List.mem_cons, List.not_mem_nil, or_false] at hb
      rcases hb with rfl | rfl | rfl
      · exact .inl (by simp)
      · exact .inl (by simp)
      · exact .inr ⟨_, ha⟩
end Mine
end

section
set_option maxRecDepth 100000
set_option linter.unusedVariables false

namespace Mine
/-! ### times a linear factor -/
/-- (q X - p) times c, with a carry -/
noncomputable def lm (p q : Int) : Int → List Int → List Int
  | k, [] => [k]
  | k, c :: cs => (k - p * c) :: lm p q (q * c) cs
theorem lm_length (p q k : Int) (c : List Int) : (lm p q k c).length = c.length + 1 := by
  induction c generalizing k with
  | nil => rfl
  | cons x xs ih => simp [lm, ih]
theorem lm_zero (p q k : Int) (c : List Int) : lm p q k (c ++ [0]) = lm p q k c ++ [0] := by
  induction c generalizing k with
  | nil => simp [lm]
  | cons x xs ih => simp [lm, ih]
theorem lm_zeros (p q k : Int) (c : List Int) (z : Nat) : lm p q k (c ++ List.replicate z 0) = lm p q k c ++ List.replicate z 0 := by
  induction z with
  | zero => simp
  | succ z ih =>
    rw [List.replicate_succ', ← List.append_assoc, lm_zero, ih, List.append_assoc]
theorem lm_last (p q k d : Int) (c : List Int) : ∃ X, lm p q k (c ++ [d]) = X ++ [q * d] ∧ X.length = c.length + 1 := by
  induction c generalizing k with
  | nil => exact ⟨[k - p * d], rfl, rfl⟩
  | cons x xs ih =>
    obtain ⟨X, h1, h2⟩ := ih (q * x)
    exact ⟨(k - p * x) :: X, by simp [lm, h1], by simp [h2]⟩
theorem addL_nil_right (a : List Int) : addL a [] = a := by
  unfold addL
  apply List.ext_getElem?
  intro i
  simp only [List.getElem?_map, List.length_nil, Nat.max_zero]
  by_cases h : i < a.length
  · simp [List.getElem?_range h, List.getElem?_eq_getElem h, List.getD]
  · simp [h, List.getElem?_eq_none (show a.length ≤ i by omega)]
theorem addL_cons (x y : Int) (a b : List Int) : addL (x :: a) (y :: b) = (x + y) :: addL a b := by
  unfold addL
  have : max (x :: a).length (y :: b).length = max a.length b.length + 1 := by simp only [List.length_cons]; omega
  rw [this, List.range_succ_eq_map, List.map_cons, List.map_map]
  rfl
theorem lm_sub (p q k d : Int) (c : List Int) : addL (lm p q k (c ++ [d])) (List.replicate c.length 0 ++ [p * d, -(q * d)]) = lm p q k c ++ [0] := by
  induction c generalizing k with
  | nil =>
    simp only [List.nil_append, lm, List.length_nil, List.replicate_zero]
    rw [addL_cons, addL_cons, addL_nil_right]
    congr 1
    · omega
    · congr 1; omega
  | cons x xs ih =>
    simp only [List.cons_append, lm, List.length_cons, List.replicate_succ]
    rw [addL_cons, ih]
    congr 1
    omega
/-- nothing to trim -/
noncomputable def Trim (l : List Int) : Prop := l = [] ∨ ∃ X d, l = X ++ [d] ∧ d ≠ 0
theorem Trim.eq {l : List Int} (h : Trim l) : trimF l = l := by
  rcases h with rfl | ⟨X, d, rfl, hd⟩
  · rfl
  · exact trimF_ne X hd
theorem trim_split (l : List Int) : ∃ r z, l = r ++ List.replicate z 0 ∧ Trim r := by
  suffices h : ∀ n, ∀ l : List Int, l.length = n → ∃ r z, l = r ++ List.replicate z 0 ∧ Trim r from h _ l rfl
  intro n
  induction n with
  | zero =>
    intro l hl
    exact ⟨[], 0, by simpa using hl, .inl rfl⟩
  | succ n ih =>
    intro l hl
    have hne : l ≠ [] := by rintro rfl; cases hl
    have hd := List.dropLast_concat_getLast hne
    by_cases h0 : l.getLast hne = 0
    · obtain ⟨r, z, h1, h2⟩ := ih l.dropLast (by simp [hl])
      refine ⟨r, z + 1, ?_, h2⟩
      rw [← hd, h1, h0, List.append_assoc, ← List.replicate_succ']
    · exact ⟨l, 0, by simp, .inr ⟨l.dropLast, l.getLast hne, hd.symm, h0⟩⟩
theorem trimF_zeros (l : List Int) (z : Nat) : trimF (l ++ List.replicate z 0) = trimF l := by
  induction z with
  | zero => simp
  | succ z ih => rw [List.replicate_succ', ← List.append_assoc, trimF_zero, ih]
/-- the product, trimmed -/
noncomputable def lmT (p q : Int) (c : List Int) : List Int := if c = [] then [] else lm p q 0 c
theorem trimF_lm (p q : Int) {r : List Int} (z : Nat) (hq : q ≠ 0) (h : Trim r) : trimF (lm p q 0 (r ++ List.replicate z 0) ++ [0]) = lmT p q r := by
  rw [trimF_zero, lm_zeros, trimF_zeros]
  unfold lmT
  rcases h with rfl | ⟨X, d, rfl, hd⟩
  · simp [lm]; exact trimF_zero []
  · rw [if_neg (by simp)]
    obtain ⟨Y, e, _⟩ := lm_last p q 0 d X
    rw [e]
    exact trimF_ne Y (Int.mul_ne_zero hq hd)
end Mine
end

section
set_option maxRecDepth 100000
set_option linter.unusedVariables false

namespace Mine
/-! ### values, roots -/
noncomputable def hstep (t b : Int) (fs : Int × Int) (c : Int) : Int × Int := (fs.1 * t + c * fs.2, fs.2 * b)
noncomputable def valF (t b : Int) (l : List Int) : Int := (l.reverse.foldl (hstep t b) (0, 1)).1
noncomputable def hv (t b : Int) (l : List Int) : Int × Int := l.foldr (fun c fs => hstep t b fs c) (0, 1)
theorem valF_hv (t b : Int) (l : List Int) : valF t b l = (hv t b l).1 := by
  unfold valF hv; rw [List.foldl_reverse]
theorem hv_cons (t b c : Int) (l : List Int) : hv t b (c :: l) = ((hv t b l).1 * t + c * (hv t b l).2, (hv t b l).2 * b) := rfl
theorem hv_lm (t b p q k : Int) (c : List Int) : hv t b (lm p q k c) = (k * (hv t b c).2 + (q * t - p * b) * (hv t b c).1, (hv t b c).2 * b) := by
  induction c generalizing k with
  | nil => simp [lm, hv, hstep]
  | cons x xs ih =>
    rw [lm, hv_cons, ih, hv_cons]
    ext
    · show _ = _
      grind
    · rfl
theorem valF_lm (t b p q : Int) (c : List Int) : valF t b (lm p q 0 c) = (q * t - p * b) * valF t b c := by
  rw [valF_hv, valF_hv, hv_lm]; simp
/-- (u X² + s X + r) times c, with two carries -/
noncomputable def lq (r s u : Int) : Int → Int → List Int → List Int
  | k1, k2, [] => [k1, k2]
  | k1, k2, c :: cs => (k1 + r * c) :: lq r s u (k2 + s * c) (u * c) cs
theorem hv_lq (t b r s u k1 k2 : Int) (c : List Int) :
    hv t b (lq r s u k1 k2 c) = (k1 * (hv t b c).2 * b + k2 * (hv t b c).2 * t + (r * b * b + s * t * b + u * t * t) * (hv t b c).1, (hv t b c).2 * b * b) := by
  induction c generalizing k1 k2 with
  | nil => simp [lq, hv, hstep]; omega
  | cons x xs ih =>
    rw [lq, hv_cons, ih, hv_cons]
    ext
    · show _ = _
      grind
    · rfl
theorem valF_lq (t b r s u : Int) (c : List Int) : valF t b (lq r s u 0 0 c) = (r * b * b + s * t * b + u * t * t) * valF t b c := by
  rw [valF_hv, valF_hv, hv_lq]; simp
theorem lq_last (r s u k1 k2 d : Int) (c : List Int) : ∃ X, lq r s u k1 k2 (c ++ [d]) = X ++ [u * d] ∧ X.length = c.length + 2 := by
  induction c generalizing k1 k2 with
  | nil => exact ⟨[k1 + r * d, k2 + s * d], rfl, rfl⟩
  | cons x xs ih =>
    obtain ⟨X, h1, h2⟩ := ih (k2 + s * x) (u * x)
    exact ⟨(k1 + r * x) :: X, by simp [lq, h1], by simp [h2]⟩
theorem lq_length (r s u k1 k2 : Int) (c : List Int) : (lq r s u k1 k2 c).length = c.length + 2 := by
  induction c generalizing k1 k2 with
  | nil => rfl
  | cons x xs ih => simp [lq, ih]
/-- degree three, only to see that factors commute -/
noncomputable def lcu (e0 e1 e2 e3 : Int) : Int → Int → Int → List Int → List Int
  | k1, k2, k3, [] => [k1, k2, k3]
  | k1, k2, k3, c :: cs => (k1 + e0 * c) :: lcu e0 e1 e2 e3 (k2 + e1 * c) (k3 + e2 * c) (e3 * c) cs
theorem lm_lm (p q p' q' k k' : Int) (c : List Int) : lm p q k (lm p' q' k' c) = lq (p * p') (-(p * q' + q * p')) (q * q') (k - p * k') (q * k') c := by
  induction c generalizing k k' with
  | nil => simp [lm, lq]
  | cons x xs ih =>
    simp only [lm, lq]
    rw [ih]
    congr 1
    · grind
    · congr 1 <;> grind
theorem lm_comm (p q p' q' : Int) (c : List Int) : lm p q 0 (lm p' q' 0 c) = lm p' q' 0 (lm p q 0 c) := by
  rw [lm_lm, lm_lm]
  congr 1 <;> grind
theorem lq_lm (r s u p q k1 k2 k : Int) (c : List Int) : lq r s u k1 k2 (lm p q k c) = lcu (-(r * p)) (r * q - s * p) (s * q - u * p) (u * q) (k1 + r * k) (k2 + s * k) (u * k) c := by
  induction c generalizing k1 k2 k with
  | nil => simp [lm, lq, lcu]
  | cons x xs ih =>
    simp only [lm, lq, lcu]
    rw [ih]
    congr 1
    · grind
    · congr 1 <;> grind
theorem lm_lq (r s u p q k1 k2 k : Int) (c : List Int) : lm p q k (lq r s u k1 k2 c) = lcu (-(r * p)) (r * q - s * p) (s * q - u * p) (u * q) (k - p * k1) (q * k1 - p * k2) (q * k2) c := by
  induction c generalizing k1 k2 k with
  | nil => simp [lm, lq, lcu]
  | cons x xs ih =>
    simp only [lm, lq, lcu]
    rw [ih]
    congr 1
    · grind
    · congr 1 <;> grind
theorem lq_lm_comm (r s u p q : Int) (c : List Int) : lq r s u 0 0 (lm p q 0 c) = lm p q 0 (lq r s u 0 0 c) := by
  rw [lq_lm, lm_lq]; congr 1 <;> grind

/-- a product of linear factors and a rest -/
noncomputable def prodL (rs : List (Int × Int)) (Q : List Int) : List Int := rs.foldr (fun x c => lm x.1 x.2 0 c) Q
theorem prodL_cons (x : Int × Int) (rs : List (Int × Int)) (Q : List Int) : prodL (x :: rs) Q = lm x.1 x.2 0 (prodL rs Q) := rfl
theorem prodL_length (rs : List (Int × Int)) (Q : List Int) : (prodL rs Q).length = rs.length + Q.length := by
  induction rs with
  | nil => simp [prodL]
  | cons x rs ih => rw [prodL_cons, lm_length, ih]; simp; omega
theorem prodL_erase {x : Int × Int} {rs : List (Int × Int)} (Q : List Int) (h : x ∈ rs) : prodL rs Q = lm x.1 x.2 0 (prodL (rs.erase x) Q) := by
  induction rs with
  | nil => cases h
  | cons y ys ih =>
    by_cases e : y = x
    · subst e; rw [List.erase_cons_head]; rfl
    · have hx : x ∈ ys := by
        rcases List.mem_cons.mp h with q | q
        · exact absurd q.symm e
        · exact q
      rw [List.erase_cons_tail (by simpa using e), prodL_cons, prodL_cons, ih hx, lm_comm]
theorem prodL_lq (r s u : Int) (rs : List (Int × Int)) (Q : List Int) : lq r s u 0 0 (prodL rs Q) = prodL rs (lq r s u 0 0 Q) := by
  induction rs with
  | nil => rfl
  | cons x rs ih => rw [prodL_cons, lq_lm_comm, ih]; rfl

/-- lowest terms -/
noncomputable def Low (x : Int × Int) : Prop := 0 < x.2 ∧ Int.gcd x.1 x.2 = 1
theorem low_eq {x y : Int × Int} (hx : Low x) (hy : Low y) (h : x.2 * y.1 = x.1 * y.2) : x = y := by
  obtain ⟨p, q⟩ := x
  obtain ⟨t, b⟩ := y
  obtain ⟨h1, h2⟩ := hx
  obtain ⟨h3, h4⟩ := hy
  dsimp only at *
  have d1 : q ∣ b := by
    have : q ∣ b * p := ⟨t, by rw [h, Int.mul_comm]⟩
    have h5 : q.natAbs ∣ b.natAbs * p.natAbs := by rw [← Int.natAbs_mul]; exact Int.natAbs_dvd_natAbs.mpr this
    have h6 : Nat.Coprime q.natAbs p.natAbs := by rw [Nat.Coprime, Nat.gcd_comm]; exact h2
    exact Int.natAbs_dvd_natAbs.mp (h6.dvd_of_dvd_mul_right h5)
  have d2 : b ∣ q := by
    have : b ∣ q * t := ⟨p, by rw [h, Int.mul_comm]⟩
    have h5 : b.natAbs ∣ q.natAbs * t.natAbs := by rw [← Int.natAbs_mul]; exact Int.natAbs_dvd_natAbs.mpr this
    have h6 : Nat.Coprime b.natAbs t.natAbs := by rw [Nat.Coprime, Nat.gcd_comm]; exact h4
    exact Int.natAbs_dvd_natAbs.mp (h6.dvd_of_dvd_mul_right h5)
  have e : q = b := Int.le_antisymm (Int.le_of_dvd h3 d1) (Int.le_of_dvd h1 d2)
  subst e
  rw [Int.mul_comm p q] at h
  have := Int.eq_of_mul_eq_mul_left (by omega) h
  rw [this]
noncomputable def Rootless (Q : List Int) : Prop := ∀ x, Low x → valF x.1 x.2 Q ≠ 0
theorem prodL_root {rs : List (Int × Int)} {Q : List Int} (hQ : Rootless Q) (hrs : ∀ y ∈ rs, Low y) {x : Int × Int} (hx : Low x) : valF x.1 x.2 (prodL rs Q) = 0 ↔ x ∈ rs := by
  induction rs with
  | nil => simp [prodL, hQ x hx]
  | cons y ys ih =>
    rw [prodL_cons, valF_lm, Int.mul_eq_zero, ih fun z hz => hrs z (.tail _ hz), List.mem_cons]
    constructor
    · rintro (h | h)
      · left
        have hy := hrs y (.head _)
        exact (low_eq hy hx (by omega)).symm
      · exact .inr h
    · rintro (rfl | h)
      · left; rw [Int.mul_comm]; omega
      · exact .inr h

/-! the ends -/
theorem lm_head (p q : Int) {c : List Int} (h : c ≠ []) : (lm p q 0 c).getD 0 0 = -p * c.getD 0 0 := by
  cases c with
  | nil => exact absurd rfl h
  | cons x xs => simp [lm, Int.neg_mul]
noncomputable def lastD (l : List Int) : Int := l.getD (l.length - 1) 0
theorem lastD_snoc (X : List Int) (d : Int) : lastD (X ++ [d]) = d := by simp [lastD]
theorem lm_lastD (p q : Int) {c : List Int} (h : c ≠ []) : lastD (lm p q 0 c) = q * lastD c := by
  have e := (List.dropLast_concat_getLast h).symm
  generalize c.getLast h = d at e
  generalize c.dropLast = X at e
  subst e
  obtain ⟨Y, h1, _⟩ := lm_last p q 0 d X
  rw [h1, lastD_snoc, lastD_snoc]
theorem prodL_ne {rs : List (Int × Int)} {Q : List Int} (h : Q ≠ []) : prodL rs Q ≠ [] := by
  have := prodL_length rs Q
  have h2 : 0 < Q.length := List.length_pos_iff.mpr h
  intro e; rw [e] at this; simp at this; omega
theorem prodL_dvd {rs : List (Int × Int)} {Q : List Int} (hQ : Q ≠ []) {y : Int × Int} (hy : y ∈ rs) : y.1 ∣ (prodL rs Q).getD 0 0 ∧ y.2 ∣ lastD (prodL rs Q) := by
  rw [prodL_erase Q hy, lm_head _ _ (prodL_ne hQ), lm_lastD _ _ (prodL_ne hQ)]
  exact ⟨⟨-(prodL (rs.erase y) Q).getD 0 0, by rw [Int.neg_mul, Int.mul_neg]⟩, ⟨_, rfl⟩⟩
theorem Trim.lastD {l : List Int} (h : Trim l) (hne : l ≠ []) : lastD l ≠ 0 := by
  rcases h with rfl | ⟨X, d, rfl, hd⟩
  · exact absurd rfl hne
  · rw [lastD_snoc]; exact hd
theorem lm_trim {p q : Int} {c : List Int} (hq : q ≠ 0) (h : Trim c) (hne : c ≠ []) : Trim (lm p q 0 c) := by
  rcases h with rfl | ⟨X, d, rfl, hd⟩
  · exact absurd rfl hne
  · obtain ⟨Y, h1, _⟩ := lm_last p q 0 d X
    exact .inr ⟨Y, _, h1, Int.mul_ne_zero hq hd⟩
theorem prodL_trim {rs : List (Int × Int)} {Q : List Int} (hrs : ∀ y ∈ rs, Low y) (hQ : Trim Q) (hne : Q ≠ []) : Trim (prodL rs Q) := by
  induction rs with
  | nil => exact hQ
  | cons y ys ih =>
    have := (hrs y (.head _)).1
    exact lm_trim (by omega) (ih fun z hz => hrs z (.tail _ hz)) (prodL_ne hne)

/-! the factors of the letter alone -/
theorem lm_01 (k : Int) (c : List Int) : lm 0 1 k c = k :: c := by
  induction c generalizing k with
  | nil => rfl
  | cons x xs ih => rw [lm, ih]; simp
theorem lm_pad (p q : Int) (z : Nat) {c : List Int} : lm p q 0 (List.replicate z 0 ++ c) = List.replicate z 0 ++ lm p q 0 c := by
  induction z with
  | zero => simp
  | succ z ih => rw [List.replicate_succ, List.cons_append, lm, Int.mul_zero, Int.mul_zero, ih]; rfl
noncomputable def noZ (rs : List (Int × Int)) : List (Int × Int) := rs.filter fun x => x.1 != 0
theorem low_zero {x : Int × Int} (h : Low x) (h0 : x.1 = 0) : x = (0, 1) := by
  obtain ⟨p, q⟩ := x
  obtain ⟨h1, h2⟩ := h
  dsimp only at *
  subst h0
  rw [Int.gcd_comm, Int.gcd_zero] at h2
  have : q = 1 := by omega
  rw [this]
theorem prodL_strip {rs : List (Int × Int)} (Q : List Int) (hrs : ∀ y ∈ rs, Low y) : prodL rs Q = List.replicate (rs.count (0, 1)) 0 ++ prodL (noZ rs) Q := by
  induction rs with
  | nil => simp [prodL, noZ]
  | cons y ys ih =>
    have ih' := ih fun z hz => hrs z (.tail _ hz)
    by_cases h0 : y.1 = 0
    · have := low_zero (hrs y (.head _)) h0
      subst this
      rw [prodL_cons, ih', List.count_cons_self]
      show lm 0 1 0 _ = _
      rw [lm_01, List.replicate_succ]
      simp [noZ]
    · have hne : y ≠ (0, 1) := fun e => h0 (by rw [e])
      rw [prodL_cons, ih', lm_pad, List.count_cons_of_ne hne]
      congr 1
      have : noZ (y :: ys) = y :: noZ ys := by simp [noZ, h0]
      rw [this]; rfl
theorem prodL_head {rs : List (Int × Int)} {Q : List Int} (hQ : Rootless Q) (hne : Q ≠ []) (hrs : ∀ y ∈ rs, y.1 ≠ 0) : (prodL rs Q).getD 0 0 ≠ 0 := by
  induction rs with
  | nil =>
    have := hQ (0, 1) ⟨by decide, by decide⟩
    cases Q with
    | nil => exact absurd rfl hne
    | cons x xs =>
      intro e
      have e : x = 0 := by simpa [prodL] using e
      subst e
      apply this
      rw [valF_hv, hv_cons]
      simp
  | cons y ys ih =>
    rw [prodL_cons, lm_head _ _ (prodL_ne hne)]
    exact Int.mul_ne_zero (by have := hrs y (.head _); omega) (ih fun z hz => hrs z (.tail _ hz))

/-! the coefficients stay small -/
theorem lm_bound {p q : Int} (hp : p.natAbs ≤ 3) (hq : q.natAbs ≤ 3) {B : Nat} {k : Int} {c : List Int} (hk : k.natAbs ≤ 3 * B) (hc : ∀ x ∈ c, x.natAbs ≤ B) : ∀ x ∈ lm p q k c, x.natAbs ≤ 6 * B := by
  induction c generalizing k with
  | nil => intro x hx; simp [lm] at hx; subst hx; omega
  | cons y ys ih =>
    have hy := hc y (.head _)
    have e1 : (p * y).natAbs ≤ 3 * B := by rw [Int.natAbs_mul]; exact Nat.mul_le_mul hp hy
    have e2 : (q * y).natAbs ≤ 3 * B := by rw [Int.natAbs_mul]; exact Nat.mul_le_mul hq hy
    intro x hx
    rw [lm] at hx
    rcases List.mem_cons.mp hx with rfl | hx
    · omega
    · exact ih e2 (fun z hz => hc z (.tail _ hz)) x hx
theorem prodL_bound {rs : List (Int × Int)} {Q : List Int} {B : Nat} (hrs : ∀ y ∈ rs, y.1.natAbs ≤ 3 ∧ y.2.natAbs ≤ 3) (hQ : ∀ x ∈ Q, x.natAbs ≤ B) : ∀ x ∈ prodL rs Q, x.natAbs ≤ 6 ^ rs.length * B := by
  induction rs with
  | nil => simpa [prodL] using hQ
  | cons y ys ih =>
    have h := ih fun z hz => hrs z (.tail _ hz)
    obtain ⟨h1, h2⟩ := hrs y (.head _)
    intro x hx
    have := lm_bound h1 h2 (k := 0) (by simp) h x hx
    rw [List.length_cons, Nat.pow_succ, Nat.mul_comm (6 ^ ys.length) 6, Nat.mul_assoc]
    exact this
end Mine
end

section
open PySem PySem.W PyProof.Rows
set_option maxRecDepth 100000
set_option linter.unusedVariables false

namespace Mine
/-- one argument, two arguments: what the binder makes of them -/
local macro_rules | `(tactic| walk_at "my bind1") => `(tactic| (intro pm code doc vs hv; match vs, hv with | [_], _ => rfl))
local macro_rules | `(tactic| walk_at "my bind2") => `(tactic| (intro pm code doc vs hv; match vs, hv with | [_, _], _ => rfl))
/-- one step of an expression -/
local macro_rules | `(tactic| walk_at "my e") => `(tactic| first
  | refine e_int ?_
  | refine e_bool ?_
  | refine e_var (by assumption) (.loc rfl) rfl rfl ?_
  | refine e_var (by assumption) (.cell _ rfl rfl) rfl rfl ?_
  | refine e_var (by assumption) (.free _ rfl rfl rfl) rfl rfl ?_
  | refine e_bin ?_
  | refine e_cmp rfl ?_
  | refine t_cmp rfl ?_
  | refine t_and ?_
  | refine t_or ?_
  | refine e_neg ?_
  | refine e_ifexp ?_
  | refine e_tup ?_
  | refine l_cons rfl ?_
  | refine l_nil ?_
  | refine e_item (fun _ _ => rfl) ?_
  | refine e_callF (by assumption) (bi_abs rfl) rfl rfl ?_
  | refine e_callF (by assumption) (bi_len rfl) rfl rfl ?_
  | refine e_callF (by assumption) (bi_max rfl) rfl rfl ?_
  | refine e_callF (by assumption) (bi_sorted rfl) rfl rfl ?_
  | refine e_callF (by assumption) (bi_sum rfl) rfl rfl ?_
  | refine e_callT (by assumption) (bi_range rfl) rfl rfl ?_
  | refine e_callT (by assumption) (bi_list rfl) rfl rfl ?_
  | refine e_callT (by assumption) (bi_reversed rfl) rfl rfl ?_
  | refine e_callT (by assumption) (bi_enumerate rfl) rfl rfl ?_
  | refine ⟨_, bin_add, ?_⟩
  | refine ⟨_, bin_sub, ?_⟩
  | refine ⟨_, cmp_eq, ?_⟩
  | refine ⟨_, cmp_ne, ?_⟩
  | refine ⟨_, cmp_lt, ?_⟩
  | refine ⟨_, cmp_le, ?_⟩
  | refine ⟨_, cmp_gt, ?_⟩
  | refine ⟨_, cmp_ge, ?_⟩
  | refine ⟨_, _, call_abs, ?_⟩
  | refine ⟨_, _, call_max (by assumption), ?_⟩
  | refine ⟨_, _, call_range1, ?_⟩
  | refine ⟨_, _, call_range2, ?_⟩)
local macro_rules | `(tactic| walk_at "my es") => `(tactic| (repeat walk_at "my e"))


theorem value_sign_spec {G : GE} {l : List Int} {x : Int × Int} (hl : l.length ≤ 1000) (h1 : Sm x.1) (h2 : Sm x.2) (hs : ∀ c ∈ l, Sm c) :
    FnSpec G d7 2 [polyPV l, prPV x] [] (fun p c => p = .int ((if valF x.1 x.2 l > 0 then 1 else 0) - (if valF x.1 x.2 l < 0 then 1 else 0)) ∧ c = []) := by
  refine fn_intro d7_mem ["p", "x"] (by decide) rfl (by walk_at "my bind2") rfl rfl rfl rfl ?_
  intro A L f pm code doc s₀ ok
  refine b_cons (x_assignT0 ok rfl rfl ?_)
  walk_at "my es"
  refine ⟨_, asg_two ok (.loc rfl) (.loc rfl), ?_⟩
  refine b_cons (x_assignT0 ok rfl rfl ?_)
  walk_at "my es"
  refine ⟨by simp, _, asg_two ok (.loc rfl) (.loc rfl), ?_⟩
  refine b_cons (x_for (fun _ => rfl) (i_rev ok (bi_reversed rfl) rfl rfl ?_))
  walk_at "my es"
  refine ⟨_, rfl, ?_⟩
  refine ⟨fun i S => ∃ fs : Int × Int, S = ⟨[("p", polyPV l), ("x", prPV x), ("top", .int x.1), ("bottom", .int x.2), ("found", .int fs.1), ("scale", .int fs.2)], []⟩ ∧ fs = (l.reverse.take i).foldl (hstep x.1 x.2) (0, 1), ⟨(0, 1), rfl, rfl⟩, ?_, ?_, ?_⟩
  · rintro i S' ⟨fs, rfl, _⟩; rfl
  · rintro i p S1 hp ⟨fs, rfl, hfs⟩
    rw [← List.map_reverse] at hp
    simp only [List.getElem?_map, Option.map_eq_some_iff] at hp
    obtain ⟨c, hc, rfl⟩ := hp
    have hcm : Sm c := hs c (List.mem_reverse.mp (List.mem_of_getElem? hc))
    refine ⟨_, asg_name ok (.loc rfl), ?_⟩
    refine b_cons (x_assign ok (.loc rfl) rfl ?_)
    walk_at "my es"
    refine ⟨_, bin_mul h1.mulR, ?_⟩
    walk_at "my es"
    refine ⟨_, bin_mul hcm.mulL, ?_⟩
    walk_at "my es"
    refine b_cons (x_assign ok (.loc rfl) rfl ?_)
    walk_at "my es"
    refine ⟨_, bin_mul h2.mulR, ?_⟩
    refine b_keep 6 (b_nil ⟨hstep x.1 x.2 fs c, rfl, ?_⟩)
    rw [List.take_add_one, hc, List.foldl_append, ← hfs]
    rfl
  · rintro S1 ⟨fs, rfl, hfs⟩
    rw [List.length_reverse, List.length_map] at hfs
    rw [List.take_of_length_le (by simp)] at hfs
    refine b_cons (x_ret ?_)
    refine e_call ok d6_mem rfl rfl rfl rfl (k := 1) (by omega) ?_
    walk_at "my es"
    refine ⟨_, sign_of_spec, ?_⟩
    rintro _ _ ⟨rfl, rfl⟩
    rw [hfs]
    exact ⟨rfl, rfl⟩

theorem rep_flat {α : Type} (m : Nat) (x : α) : (List.replicate m [x]).flatten = List.replicate m x := by
  induction m with
  | zero => rfl
  | succ m ih => rw [List.replicate_succ, List.flatten_cons, ih, List.replicate_succ]; rfl
theorem zraise_spec {G : GE} {l : List Int} {m : Nat} (hl : l.length ≤ 1000) (hm : m ≤ 1000) (h0 : l ≠ []) : FnSpec G d14 1 [polyPV l, .int m] [] (fun p c => p = polyPV (List.replicate m 0 ++ l) ∧ c = []) := by
  refine fn_intro d14_mem ["p", "many"] (by decide) rfl (by walk_at "my bind2") rfl rfl rfl rfl ?_
  intro A L f pm code doc s₀ ok
  refine b_cons (x_ret ?_)
  walk_at "my es"
  refine ⟨_, _, call_len_lst (by simpa using by omega), ?_⟩
  walk_at "my es"
  have hpos : 0 < l.length := List.length_pos_iff.mpr h0
  refine if_yes (decide_eq_true (by rw [List.length_map]; omega : (((l.map PV.int).length : Nat) : Int) > 0)) ?_
  refine e_bin (e_bin (e_list ?_))
  walk_at "my es"
  refine ⟨by simp, ?_⟩
  walk_at "my es"
  refine ⟨_, bin_mulL (by omega) (by omega) (by simp; omega), ?_⟩
  walk_at "my es"
  refine ⟨_, _, call_list (by simp; omega), ?_⟩
  refine ⟨_, bin_addL (by simp; omega), ?_⟩
  refine ⟨?_, rfl⟩
  show PV.lst _ = .lst _
  rw [show List.replicate (m : Int).toNat [PV.int 0] = List.replicate m [PV.int 0] from rfl, rep_flat, List.map_append, List.map_replicate]
end Mine
end

section
open PySem PySem.W PyProof.Rows
set_option maxRecDepth 100000
set_option linter.unusedVariables false

namespace Mine
/-- one argument, two arguments: what the binder makes of them -/
local macro_rules | `(tactic| walk_at "my bind1") => `(tactic| (intro pm code doc vs hv; match vs, hv with | [_], _ => rfl))
local macro_rules | `(tactic| walk_at "my bind2") => `(tactic| (intro pm code doc vs hv; match vs, hv with | [_, _], _ => rfl))
/-- one step of an expression -/
local macro_rules | `(tactic| walk_at "my e") => `(tactic| first
  | refine e_int ?_
  | refine e_bool ?_
  | refine e_var (by assumption) (.loc rfl) rfl rfl ?_
  | refine e_var (by assumption) (.cell _ rfl rfl) rfl rfl ?_
  | refine e_var (by assumption) (.free _ rfl rfl rfl) rfl rfl ?_
  | refine e_bin ?_
  | refine e_cmp rfl ?_
  | refine t_cmp rfl ?_
  | refine t_and ?_
  | refine t_or ?_
  | refine e_neg ?_
  | refine e_ifexp ?_
  | refine e_tup ?_
  | refine l_cons rfl ?_
  | refine l_nil ?_
  | refine e_item (fun _ _ => rfl) ?_
  | refine e_callF (by assumption) (bi_abs rfl) rfl rfl ?_
  | refine e_callF (by assumption) (bi_len rfl) rfl rfl ?_
  | refine e_callF (by assumption) (bi_max rfl) rfl rfl ?_
  | refine e_callF (by assumption) (bi_sorted rfl) rfl rfl ?_
  | refine e_callF (by assumption) (bi_sum rfl) rfl rfl ?_
  | refine e_callT (by assumption) (bi_range rfl) rfl rfl ?_
  | refine e_callT (by assumption) (bi_list rfl) rfl rfl ?_
  | refine e_callT (by assumption) (bi_reversed rfl) rfl rfl ?_
  | refine e_callT (by assumption) (bi_enumerate rfl) rfl rfl ?_
  | refine ⟨_, bin_add, ?_⟩
  | refine ⟨_, bin_sub, ?_⟩
  | refine ⟨_, cmp_eq, ?_⟩
  | refine ⟨_, cmp_ne, ?_⟩
  | refine ⟨_, cmp_lt, ?_⟩
  | refine ⟨_, cmp_le, ?_⟩
  | refine ⟨_, cmp_gt, ?_⟩
  | refine ⟨_, cmp_ge, ?_⟩
  | refine ⟨_, _, call_abs, ?_⟩
  | refine ⟨_, _, call_max (by assumption), ?_⟩
  | refine ⟨_, _, call_range1, ?_⟩
  | refine ⟨_, _, call_range2, ?_⟩)
local macro_rules | `(tactic| walk_at "my es") => `(tactic| (repeat walk_at "my e"))


set_option maxHeartbeats 2000000 in
theorem zexact_spec {G : GE} {p q : Int} {c : List Int} (hc : c.length ≤ 500) (hc0 : c ≠ []) (ht : Trim c) (hq : q ≠ 0) (hq2 : q.natAbs < 1000000000) (hp : Sm p) :
    FnSpec G d16 4 [polyPV (lm p q 0 c), polyPV [-p, q]] [] (fun r o => r = polyPV c ∧ o = []) := by
  have hlen : (lm p q 0 c).length = c.length + 1 := lm_length ..
  refine fn_intro d16_mem ["a", "b"] (by decide) rfl (by walk_at "my bind2") rfl rfl rfl rfl ?_
  intro A L f pm code doc s₀ ok
  refine b_cons (x_expr ok rfl ?_)
  refine e_call ok d15_mem rfl rfl rfl rfl (k := 1) (by omega) ?_
  walk_at "my es"
  refine ⟨_, check_bottom_spec (l := [-p, q]) (by simp) (by simp), ?_⟩
  rintro _ _ ⟨rfl, rfl⟩
  refine ⟨rfl, ?_⟩
  refine b_cons (x_assignT ok ["rest", "found"] (wr2 (.loc rfl) (.loc rfl)) rfl rfl ?_)
  refine e_tup (l_cons rfl ?_)
  walk_at "my es"
  refine ⟨_, _, call_list (by simp; omega), ?_⟩
  refine l_cons rfl (e_mulO (e_list ?_))
  walk_at "my es"
  refine ⟨by simp, ?_⟩
  walk_at "my es"
  refine ⟨_, _, call_len_lst (by simp; omega), ?_⟩
  walk_at "my es"
  refine ⟨_, _, call_len_lst (by simp), ?_⟩
  walk_at "my es"
  have hmx : max (0 : Int) (((List.map PV.int (lm p q 0 c)).length : Int) - ((List.map PV.int [-p, q]).length : Int) + 1) = c.length := by
    simp only [List.length_map, hlen, List.length_cons, List.length_nil]; omega
  rw [hmx]
  refine ⟨_, _, rfl, rfl, by omega, by omega, by simp; omega, fun ad => ?_⟩
  walk_at "my es"
  refine ⟨by simp, _, rfl, rfl, ?_⟩
  rw [show List.replicate (c.length : Int).toNat [PV.int 0] = List.replicate c.length [PV.int 0] from rfl, rep_flat]
  refine b_cons (x_while (fun k S => ∃ r t : List Int, S = ⟨[("a", polyPV (lm p q 0 c)), ("b", polyPV [-p, q]), ("found", .ptr ad), ("rest", polyPV (lmT p q r))], [(ad, .lst ((List.replicate r.length 0 ++ t).map .int))]⟩ ∧ c = r ++ t ∧ Trim r ∧ k = r.length)
    _ ⟨c, [], ?_, by simp, ht, rfl⟩ ?_)
  · show (⟨[("a", polyPV (lm p q 0 c)), ("b", polyPV [-p, q]), ("found", .ptr ad), ("rest", polyPV (lm p q 0 c))], [(ad, .lst (List.replicate c.length (PV.int 0)))]⟩ : Store) = _
    rw [lmT, if_neg hc0]
    simp
  rintro k S ⟨r, t, rfl, hct, htr, rfl⟩
  have hlc : r.length + t.length ≤ 500 := by rw [hct] at hc; simpa using hc
  have hlr : (lmT p q r).length ≤ 501 := by
    unfold lmT; split
    · simp
    · rw [lm_length]; omega
  walk_at "my es"
  refine ⟨_, _, call_len_lst (by simp; omega), ?_⟩
  walk_at "my es"
  refine ⟨_, _, call_len_lst (by simp), ?_⟩
  walk_at "my es"
  rw [List.length_map, List.length_map]
  rcases htr with rfl | ⟨X, d, rfl, hd⟩
  · rw [show lmT p q [] = [] from rfl]
    refine if_no (decide_eq_false (by simp)) ?_
    refine b_cons (x_ret ?_)
    walk_at "my es"
    refine ⟨_, _, call_len_lst (by simp), ?_⟩
    walk_at "my es"
    refine if_yes (show (((List.map PV.int ([] : List Int)).length : Int) == 0) = true from rfl) ?_
    refine e_call ok d8_mem rfl rfl rfl rfl (k := 1) (by omega) ?_
    refine l_cons rfl (e_freeze ?_)
    walk_at "my es"
    refine ⟨ad, _, _, rfl, .head, ?_⟩
    walk_at "my es"
    refine ⟨_, ztrim_spec (l := t) (by simp at hlc; omega), ?_⟩
    rintro _ _ ⟨rfl, rfl⟩
    rw [List.nil_append] at hct
    subst hct
    rw [ht.eq]
    exact ⟨rfl, rfl⟩
  · have hne : X ++ [d] ≠ [] := by simp
    have hX5 : X.length + 1 + t.length ≤ 500 := by simpa using hlc
    have hlT : lmT p q (X ++ [d]) = lm p q 0 (X ++ [d]) := by unfold lmT; rw [if_neg hne]
    have hll : (lm p q 0 (X ++ [d])).length = X.length + 2 := by rw [lm_length]; simp
    obtain ⟨Y, hY, hYl⟩ := lm_last p q 0 d X
    rw [hlT, hll]
    refine if_yes (decide_eq_true (by simp; omega)) ?_
    have hget : ((lm p q 0 (X ++ [d])).map PV.int)[X.length + 1]? = some (.int (q * d)) := by
      rw [hY]; simp [hYl]
    have hfm : (q * d).fmod q = 0 := by
      rw [Int.fmod_eq_zero_of_dvd]; exact ⟨d, rfl⟩
    have hfd : (q * d).fdiv q = d := by
      exact Int.mul_fdiv_cancel_left _ hq
    refine b_cons (x_if ?_)
    walk_at "my es"
    refine ⟨_, rfl, ?_⟩
    refine ⟨_, item_lst (by decide) (by decide) (j := X.length + 1) ?_ hget, ?_⟩
    · rw [List.length_map, hll, seqIndex_last (by omega)]; rfl
    walk_at "my es"
    refine ⟨_, rfl, ?_⟩
    refine ⟨_, item_lst (by decide) (by decide) (j := 1) rfl rfl, ?_⟩
    refine ⟨_, bin_mod hq, ?_⟩
    walk_at "my es"
    rw [hfm]
    refine if_no (show ((0 : Int) != 0) = false from rfl) ?_
    refine b_nil ?_
    refine b_cons (x_assignT ok ["number", "power"] (wr2 (.loc rfl) (.loc rfl)) rfl rfl ?_)
    walk_at "my es"
    refine ⟨_, rfl, ?_⟩
    refine ⟨_, item_lst (by decide) (by decide) (j := X.length + 1) ?_ hget, ?_⟩
    · rw [List.length_map, hll, seqIndex_last (by omega)]; rfl
    walk_at "my es"
    refine ⟨_, rfl, ?_⟩
    refine ⟨_, item_lst (by decide) (by decide) (j := 1) rfl rfl, ?_⟩
    refine ⟨_, bin_div hq (by omega), ?_⟩
    rw [hfd]
    walk_at "my es"
    refine ⟨_, _, call_len_lst (by rw [List.length_map]; omega), ?_⟩
    walk_at "my es"
    refine ⟨_, _, call_len_lst (by simp), ?_⟩
    walk_at "my es"
    refine ⟨by simp, _, rfl, rfl, ?_⟩
    have hpw : ((List.map PV.int (lm p q 0 (X ++ [d]))).length : Int) - ((List.map PV.int [-p, q]).length : Int) = X.length := by
      simp only [List.length_map, hll, List.length_cons, List.length_nil]; omega
    rw [hpw]
    refine b_cons (x_setitem rfl ?_)
    walk_at "my es"
    refine ⟨_, set_list .head (by simp; omega) (by simp; omega), ?_⟩
    refine b_cons (x_assign ok (.loc rfl) rfl ?_)
    refine e_call ok d12_mem rfl rfl rfl rfl (k := 3) (by omega) ?_
    refine l_cons rfl ?_
    walk_at "my es"
    refine e_call ok d14_mem rfl rfl rfl rfl (k := 1) (by omega) ?_
    refine l_cons rfl ?_
    refine e_call ok d13_mem rfl rfl rfl rfl (k := 1) (by omega) ?_
    walk_at "my es"
    refine ⟨_, zscale_spec (l := [-p, q]) (k := d) (by simp) hd ?_, ?_⟩
    · intro x hx
      simp only [List.mem_cons, List.not_mem_nil, or_false] at hx
      rcases hx with rfl | rfl
      · unfold Sm at hp ⊢; omega
      · unfold Sm; omega
    rintro _ _ ⟨rfl, rfl⟩
    walk_at "my es"
    refine ⟨_, zraise_spec (l := [-p, q].map (· * d)) (m := X.length) (by simp) (by omega) (by simp), ?_⟩
    rintro _ _ ⟨rfl, rfl⟩
    walk_at "my es"
    refine ⟨_, zsub_spec (a := lm p q 0 (X ++ [d])) (b := List.replicate X.length 0 ++ [-p, q].map (· * d)) (by omega) (by simp; omega), ?_⟩
    rintro _ _ ⟨rfl, rfl⟩
    have hmap : (List.replicate X.length 0 ++ [-p, q].map (· * d)).map (fun x : Int => -x) = List.replicate X.length 0 ++ [p * d, -(q * d)] := by
      simp [Int.neg_mul]
    rw [hmap, lm_sub]
    obtain ⟨r', z, hX, hr'⟩ := trim_split X
    have hrest : trimF (lm p q 0 X ++ [0]) = lmT p q r' := by rw [hX]; exact trimF_lm p q z hq hr'
    rw [hrest]
    refine b_keep 4 (b_nil ⟨r'.length, ?_, r', List.replicate z 0 ++ d :: t, ?_, ?_, hr', rfl⟩)
    · rw [hX]; simp
    · show (⟨[("a", polyPV (lm p q 0 c)), ("b", polyPV [-p, q]), ("found", .ptr ad), ("rest", polyPV (lmT p q r'))], [(ad, .lst (((List.replicate (X ++ [d]).length 0 ++ t).map PV.int).set X.length (.int d)))]⟩ : Store) = _
      have e : ((List.replicate (X ++ [d]).length 0 ++ t).map PV.int).set X.length (.int d) = (List.replicate r'.length 0 ++ (List.replicate z 0 ++ d :: t)).map .int := by
        have hXl : X.length = r'.length + z := by rw [hX]; simp
        rw [← List.map_set, ← List.append_assoc, List.replicate_append_replicate, ← hXl]
        congr 1
        rw [List.length_append, List.length_singleton, List.replicate_succ', List.append_assoc]
        rw [List.set_append_right _ _ (by simp)]
        simp
      rw [e]
    · rw [hct, hX]; simp
end Mine
end

section
open PySem PySem.W PyProof.Rows
set_option maxRecDepth 100000
set_option linter.unusedVariables false

namespace Mine
variable {C : Cx} {S : Store} {base : Lk}

/-- a new object somewhere in a grown heap, frozen -/
theorem St.newObj {look : Lk} {s : Shared} (h : St C base S look s) {h' : Heap} {tk : Nat} {b : Addr} {o : Obj} (hk : ∀ b o, s.heap.get? b = some o → h'.get? b = some o) (hb : s.heap.get? b = none) (ho : h'.get? b = some o) :
    St C base S (fun x => if x = b then some o else look x) { s with heap := h', toks := tk } ∧ Ext base look (fun x => if x = b then some o else look x) := by
  have lb : look b = none := by
    cases q : look b with
    | none => rfl
    | some o' => have := h.sub _ _ q; rw [hb] at this; cases this
  have le : Le look (fun x => if x = b then some o else look x) := fun x o' e => by
    show (if x = b then some o else look x) = some o'
    rw [if_neg, e]
    rintro rfl; rw [lb] at e; cases e
  refine ⟨h.grow hk le (fun x o' e => ?_) (fun x o' e => ?_), le, fun x o' e => ?_⟩
  · by_cases hx : x = b
    · subst hx; simp at e; subst e; exact ho
    · simp [hx] at e; exact hk _ _ (h.sub _ _ e)
  · by_cases hx : x = b
    · subst hx; exact .inr hb
    · simp [hx] at e; exact .inl ⟨_, e⟩
  · by_cases hx : x = b
    · subst hx
      right
      cases q : base x with
      | none => rfl
      | some o' => have := h.keep _ _ q; rw [hb] at this; cases this
    · simp [hx] at e; exact .inl e

/-- a call that gives one of many -/
structure CallR (C : Cx) (S : Store) (f : Value) (pvs : List PV) (R : PV → Prop) : Prop where
  run : ∀ s look base vs, St C base S look s → Reps look vs pvs → wpAny (model C.G.prog C.G.w) C.A (call f vs) (fun r s' => ∃ c look', R c ∧ Ext base look look' ∧ St C base S look' s' ∧ Rep look' r c) NoE s
theorem e_callR {n : Nat} (ok : C.Ok n) {x : Str} {p pos : Pos} {e : Expr} {rest : List Expr} {id : String} {K : PV → Store → Prop} (hb : BiOk C x (.builtin id))
    (he : starEach (e :: rest) C.env = (false, eval e C.env) :: starEach rest C.env) (hp : (backTo pos (starEach rest C.env)).any (·.1) = false)
    (h : wpL C (e :: rest) (fun pvs S1 => ∃ R, CallR C S1 (.builtin id) pvs R ∧ ∀ c, R c → K c S1) S) : wpE C (.Call (.Name x p) (e :: rest) [] pos) K S := by
  refine .mk fun s look base hs => ?_
  refine Call_ (load_bi ok hs hb.kind hb.mem hb.val hb.nn hb.nd ?_) rfl
  refine callWith_builtin1 (wpAny_mono (h.run s look base pos hs) ?_ fun _ _ x => x) he hp
  rintro vs s1 ⟨pvs, S1, l1, ⟨R, hc, k⟩, le1, st1, r1⟩
  refine wpAny_mono (hc.run s1 l1 base vs st1 r1) ?_ fun _ _ x => x
  rintro r s2 ⟨c, l2, hR, le2, st2, r2⟩
  exact ⟨c, S1, l2, k c hR, le1.trans le2, st2, r2⟩

theorem Reps.ofInts {look : Lk} {vs : List Value} {ns : List Int} (h : IntsAre vs ns) : Reps look vs (ns.map PV.int) := by
  induction h with
  | nil => exact .nil
  | cons n t _ ih => exact .cons (.int _ _) ih

theorem size_succ (h : Heap) : h.get? (h.objs.size + 1) = none := by
  cases q : h.get? (h.objs.size + 1) with
  | none => rfl
  | some o => have := ltSize q; omega

theorem call_sorted_ints {ns : List Int} (h64 : ns.length < 64) : CallR C S (.builtin "sorted") [.lst (ns.map .int)] (fun c => ∃ ns' : List Int, c = .lst (ns'.map .int) ∧ ns'.Perm ns ∧ ns'.Pairwise (· ≤ ·)) := by
  refine .mk fun s look base vs hs hr => ?_
  obtain ⟨v, rfl, hv⟩ := hr.one
  cases hv with
  | @lst a items m _ ha hrs =>
    have hl : s.heap.IsList a items.toList.toArray := ⟨_, hs.sub _ _ ha, rfl, m, by simp⟩
    have hlen : items.toList.length = ns.length := by simpa using hrs.length
    refine sorted_ints hl hrs.ints (by omega) fun out ns' a1 a2 a3 => ?_
    obtain ⟨e, he⟩ := sortedAll_at s.heap items.toList out
    have st := hs.newObj (tk := s.toks) (fun _ _ => sortedAll_old) (size_succ s.heap) he
    exact ⟨_, _, ⟨ns', rfl, a2, a3⟩, st.2, st.1, .lst (if_pos rfl) (Reps.ofInts a1)⟩

/-- variables of a comprehension are forgotten at the end of a turn -/
theorem u_keep {m : Sem Unit} {K : Store → Prop} (n : Nat) (h : wpU C m (fun S' => K ⟨S'.vs.take n, S'.cel⟩) S) : wpU C m K S := by
  refine .mk fun s look base hs => wpAny_mono (h.run s look base hs) ?_ fun _ _ x => x
  rintro _ s' ⟨S', l', k, le, st⟩
  exact ⟨_, l', k, le, st.forget _ fun x pv e => vget_take _ _ _ _ e⟩
end Mine
end

section
set_option maxRecDepth 100000
set_option linter.unusedVariables false

namespace Mine
noncomputable def stepD (ds : List Int) (p : Int) (m : Nat) : List Int := ds.flatMap fun one => (List.range (m + 1)).map fun t => one * p ^ t
theorem stepD_length (ds : List Int) (p : Int) (m : Nat) : (stepD ds p m).length = ds.length * (m + 1) := by
  induction ds with
  | nil => simp [stepD]
  | cons x xs ih =>
    simp only [stepD, List.flatMap_cons, List.length_append, List.length_map, List.length_range, List.length_cons] at ih ⊢
    rw [ih, Nat.add_mul]; omega
structure DivOk (ds : List Int) (P : Int) : Prop where
  pos : ∀ d ∈ ds, 1 ≤ d ∧ d ≤ P
  all : ∀ d, 1 ≤ d → d ∣ P → d ∈ ds
theorem prime_gcd {p d : Int} (hp : IsPrime p) (hd : ¬ p ∣ d) : Int.gcd d p = 1 := by
  have h2 := hp.1
  have hne : Int.gcd d p ≠ 0 := by
    intro e
    rw [Int.gcd_eq_zero_iff] at e
    omega
  rcases Nat.lt_or_ge (Int.gcd d p) 2 with h | h
  · omega
  · exfalso
    have h3 := hp.2.2 (Int.gcd d p) (by omega) (Int.gcd_dvd_right ..)
    have h4 : (Int.gcd d p : Int) ≤ p := Int.le_of_dvd (by omega) (Int.gcd_dvd_right ..)
    have h5 : (Int.gcd d p : Int) = p := by omega
    exact hd (h5 ▸ Int.gcd_dvd_left ..)
theorem cop_dvd {d p P : Int} (h : Int.gcd d p = 1) (hd : d ∣ P * p) : d ∣ P := by
  have h1 : d.natAbs ∣ P.natAbs * p.natAbs := by rw [← Int.natAbs_mul]; exact Int.natAbs_dvd_natAbs.mpr hd
  have h2 : Nat.Coprime d.natAbs p.natAbs := h
  exact Int.natAbs_dvd_natAbs.mp (h2.dvd_of_dvd_mul_right h1)
theorem div_split {p P : Int} (hp : IsPrime p) (m : Nat) : ∀ d, 1 ≤ d → d ∣ P * p ^ m → ∃ e t, 1 ≤ e ∧ e ∣ P ∧ t ≤ m ∧ d = e * p ^ t := by
  have h2 := hp.1
  induction m with
  | zero => intro d h1 hd; exact ⟨d, 0, h1, by simpa using hd, Nat.le_refl _, by simp⟩
  | succ m ih =>
    intro d h1 hd
    rw [Int.pow_succ, ← Int.mul_assoc] at hd
    by_cases hpd : p ∣ d
    · obtain ⟨d', rfl⟩ := hpd
      have hd' : 1 ≤ d' := by
        rcases Int.lt_or_le 0 d' with h | h
        · omega
        · have : p * d' ≤ 0 := Int.mul_nonpos_of_nonneg_of_nonpos (by omega) h
          omega
      have hdv : d' ∣ P * p ^ m := by
        rw [Int.mul_comm (P * p ^ m) p] at hd
        exact Int.dvd_of_mul_dvd_mul_left (by omega) hd
      obtain ⟨e, t, e1, e2, e3, rfl⟩ := ih d' hd' hdv
      exact ⟨e, t + 1, e1, e2, by omega, by rw [Int.pow_succ]; grind⟩
    · obtain ⟨e, t, e1, e2, e3, rfl⟩ := ih d h1 (cop_dvd (prime_gcd hp hpd) hd)
      exact ⟨e, t, e1, e2, by omega, rfl⟩
theorem DivOk.one : DivOk [1] 1 := ⟨by simp, fun d h1 h2 => by
  have := Int.le_of_dvd (by omega) h2
  simp; omega⟩
theorem DivOk.step {ds : List Int} {P p : Int} (h : DivOk ds P) (hP : 1 ≤ P) (hp : IsPrime p) (m : Nat) : DivOk (stepD ds p m) (P * p ^ m) := by
  have h2 := hp.1
  refine ⟨fun d hd => ?_, fun d h1 h2 => ?_⟩
  · simp only [stepD, List.mem_flatMap, List.mem_map, List.mem_range] at hd
    obtain ⟨e, he, t, ht, rfl⟩ := hd
    obtain ⟨e1, e2⟩ := h.pos e he
    have q1 : 1 ≤ p ^ t := Int.pow_pos (by omega)
    have q2 : p ^ t ≤ p ^ m := by
      have e : p ^ m = p ^ t * p ^ (m - t) := by rw [← Int.pow_add]; congr 1; omega
      have q3 : 1 ≤ p ^ (m - t) := Int.pow_pos (by omega)
      have : p ^ t * 1 ≤ p ^ t * p ^ (m - t) := Int.mul_le_mul_of_nonneg_left q3 (by omega)
      omega
    refine ⟨?_, Int.mul_le_mul e2 q2 (by omega) (by omega)⟩
    have : 1 * 1 ≤ e * p ^ t := Int.mul_le_mul e1 q1 (by omega) (by omega)
    omega
  · obtain ⟨e, t, e1, e2, e3, rfl⟩ := div_split hp m d h1 h2
    simp only [stepD, List.mem_flatMap, List.mem_map, List.mem_range]
    exact ⟨e, h.all e e1 e2, t, by omega, rfl⟩
end Mine
end

section
open PySem PySem.W PyProof.Rows
set_option maxRecDepth 100000
set_option linter.unusedVariables false

namespace Mine
/-- one argument, two arguments: what the binder makes of them -/
local macro_rules | `(tactic| walk_at "my bind1") => `(tactic| (intro pm code doc vs hv; match vs, hv with | [_], _ => rfl))
local macro_rules | `(tactic| walk_at "my bind2") => `(tactic| (intro pm code doc vs hv; match vs, hv with | [_, _], _ => rfl))
/-- one step of an expression -/
local macro_rules | `(tactic| walk_at "my e") => `(tactic| first
  | refine e_int ?_
  | refine e_bool ?_
  | refine e_var (by assumption) (.loc rfl) rfl rfl ?_
  | refine e_var (by assumption) (.cell _ rfl rfl) rfl rfl ?_
  | refine e_var (by assumption) (.free _ rfl rfl rfl) rfl rfl ?_
  | refine e_bin ?_
  | refine e_cmp rfl ?_
  | refine t_cmp rfl ?_
  | refine t_and ?_
  | refine t_or ?_
  | refine e_neg ?_
  | refine e_ifexp ?_
  | refine e_tup ?_
  | refine l_cons rfl ?_
  | refine l_nil ?_
  | refine e_item (fun _ _ => rfl) ?_
  | refine e_callF (by assumption) (bi_abs rfl) rfl rfl ?_
  | refine e_callF (by assumption) (bi_len rfl) rfl rfl ?_
  | refine e_callF (by assumption) (bi_max rfl) rfl rfl ?_
  | refine e_callF (by assumption) (bi_sorted rfl) rfl rfl ?_
  | refine e_callF (by assumption) (bi_sum rfl) rfl rfl ?_
  | refine e_callT (by assumption) (bi_range rfl) rfl rfl ?_
  | refine e_callT (by assumption) (bi_list rfl) rfl rfl ?_
  | refine e_callT (by assumption) (bi_reversed rfl) rfl rfl ?_
  | refine e_callT (by assumption) (bi_enumerate rfl) rfl rfl ?_
  | refine ⟨_, bin_add, ?_⟩
  | refine ⟨_, bin_sub, ?_⟩
  | refine ⟨_, cmp_eq, ?_⟩
  | refine ⟨_, cmp_ne, ?_⟩
  | refine ⟨_, cmp_lt, ?_⟩
  | refine ⟨_, cmp_le, ?_⟩
  | refine ⟨_, cmp_gt, ?_⟩
  | refine ⟨_, cmp_ge, ?_⟩
  | refine ⟨_, _, call_abs, ?_⟩
  | refine ⟨_, _, call_max (by assumption), ?_⟩
  | refine ⟨_, _, call_range1, ?_⟩
  | refine ⟨_, _, call_range2, ?_⟩)
local macro_rules | `(tactic| walk_at "my es") => `(tactic| (repeat walk_at "my e"))


theorem prodF_app (a b : List (Int × Nat)) : prodF (a ++ b) = prodF a * prodF b := by
  induction a with
  | nil => simp [prodF]
  | cons x r ih => obtain ⟨q, k⟩ := x; simp only [List.cons_append, prodF, ih, Int.mul_assoc]
theorem cntF_app (a b : List (Int × Nat)) : cntF (a ++ b) = cntF a * cntF b := by
  induction a with
  | nil => simp [cntF]
  | cons x r ih => obtain ⟨q, k⟩ := x; simp only [List.cons_append, cntF, ih, Nat.mul_assoc]
theorem cntF_pos (a : List (Int × Nat)) : 1 ≤ cntF a := by
  induction a with
  | nil => simp [cntF]
  | cons x r ih => obtain ⟨q, k⟩ := x; simp only [cntF]; exact Nat.mul_pos (by omega) ih
theorem divisors_spec {G : GE} {n : Int} (h0 : n ≠ 0) (hn : n.natAbs ≤ 1000) : FnSpec G d3 3 [.int n] [] (fun p c => (∃ ds, p = polyPV ds ∧ ds.length ≤ 64 ∧ (∀ d ∈ ds, 1 ≤ d ∧ d ≤ n.natAbs) ∧ ∀ d : Int, 1 ≤ d → d ∣ n → d ∈ ds) ∧ c = []) := by
  have habs : (if n < 0 then -n else n) = n.natAbs := by split <;> omega
  refine fn_intro d3_mem ["n"] (by decide) rfl (by walk_at "my bind1") rfl rfl rfl rfl ?_
  intro A L f pm code doc s₀ ok
  refine b_cons (x_assign ok (.loc rfl) rfl (e_list ?_))
  walk_at "my es"
  refine ⟨by simp, ?_⟩
  refine b_cons (x_for (fun _ => rfl) (i_val ?_))
  refine e_call ok d2_mem rfl rfl rfl rfl (k := 2) (by omega) ?_
  walk_at "my es"
  rw [habs]
  refine ⟨_, prime_factors_spec (N := n.natAbs) (by omega) (by omega), ?_⟩
  rintro _ _ ⟨⟨fs, rfl, hfs, hprod, hcnt, hlen⟩, rfl⟩
  have hpos : ∀ gs : List (Int × Nat), (∀ x ∈ gs, x ∈ fs) → 1 ≤ prodF gs := fun gs hg => by
    have := prodF_pos (fs := gs) (fun x hx => (hfs x (hg x hx)).1.1)
    omega
  have hc54 : cntF fs ≤ 54 := by
    rcases Nat.lt_or_ge (cntF fs) 55 with h | h
    · omega
    · exfalso
      have : (55 : Int) * 55 ≤ (cntF fs : Int) * (cntF fs : Int) := Int.mul_le_mul (by omega) (by omega) (by omega) (by omega)
      rw [Int.pow_succ, Int.pow_succ, Int.pow_zero, Int.one_mul] at hcnt
      omega
  refine ⟨_, iter_lst ok, fun i S => ∃ ds, S = ⟨[("n", .int n), ("found", polyPV ds)], []⟩ ∧ DivOk ds (prodF (fs.take i)) ∧ ds.length = cntF (fs.take i), ⟨[1], rfl, ?_, rfl⟩, ?_, ?_, ?_⟩
  · exact DivOk.one
  · rintro i S' ⟨ds, rfl, _⟩; rfl
  · rintro i p S1 hp ⟨ds, rfl, hdiv, hds⟩
    simp only [facPV, List.getElem?_map, Option.map_eq_some_iff] at hp
    obtain ⟨⟨pr, m⟩, hx, rfl⟩ := hp
    have hmem := List.mem_of_getElem? hx
    obtain ⟨hprime, hm64⟩ := hfs _ hmem
    have htake : fs.take (i + 1) = fs.take i ++ [(pr, m)] := by rw [List.take_add_one, hx]; rfl
    have hP1 := hpos (fs.take i) fun x hx => List.mem_of_mem_take hx
    have hP2 := hpos (fs.take (i + 1)) fun x hx => List.mem_of_mem_take hx
    have hstep := hdiv.step hP1 hprime m
    have hpm : (pr, m) ∈ fs := hmem
    have hPdvd : prodF (fs.take (i + 1)) ≤ n.natAbs := by
      have : prodF fs = prodF (fs.take (i + 1)) * prodF (fs.drop (i + 1)) := by
        rw [← prodF_app, List.take_append_drop]
      have q := hpos (fs.drop (i + 1)) fun x hx => List.mem_of_mem_drop hx
      have : prodF (fs.take (i + 1)) * 1 ≤ prodF (fs.take (i + 1)) * prodF (fs.drop (i + 1)) := Int.mul_le_mul_of_nonneg_left q (by omega)
      omega
    rw [htake, prodF_snoc] at hPdvd
    have hpr2 := hprime.1
    have hpm1 : 1 ≤ pr ^ m := Int.pow_pos (by omega)
    have hPle : prodF (fs.take i) ≤ 1000 := by
      have : prodF (fs.take i) * 1 ≤ prodF (fs.take i) * pr ^ m := Int.mul_le_mul_of_nonneg_left hpm1 (by omega)
      omega
    have hprle : m ≠ 0 → pr ≤ 1000 := fun hm => by
      obtain ⟨k, rfl⟩ : ∃ k, m = k + 1 := ⟨m - 1, by omega⟩
      have q1 : 1 ≤ pr ^ k := Int.pow_pos (by omega)
      have q2 : 1 * pr ≤ pr ^ k * pr := Int.mul_le_mul_of_nonneg_right q1 (by omega)
      have q3 : 1 * pr ^ (k + 1) ≤ prodF (fs.take i) * pr ^ (k + 1) := Int.mul_le_mul_of_nonneg_right hP1 (by omega)
      rw [Int.pow_succ] at q3 hPdvd
      omega
    have hcntle : ds.length ≤ 54 := by
      have q : cntF fs = cntF (fs.take i) * cntF (fs.drop i) := by rw [← cntF_app, List.take_append_drop]
      have q2 : cntF (fs.take i) * 1 ≤ cntF (fs.take i) * cntF (fs.drop i) := Nat.mul_le_mul_left _ (cntF_pos _)
      omega
    refine ⟨_, asg_two ok (.cell _ rfl rfl rfl) (.cell _ rfl rfl rfl), ?_⟩
    refine b_cons (x_compG ok rfl (.loc rfl) (fun L a it => turn_outer _ _ _ _ _ _ _ _ _ it (.ref a) _) (fun L a it => yes_nest) (fun _ => rfl) rfl (by decide) rfl (by decide) (.cons rfl (.cons rfl .nil)) (i_val ?_))
    walk_at "my es"
    refine ⟨_, iter_lst ok, [("prime", .int pr), ("many", .int m)], fun l => l = (stepD ds pr m).map .int, .cons rfl rfl (fun _ => rfl) (.cons rfl rfl (fun _ => rfl) .nil), ?_, ?_⟩
    · refine .mk fun L' a ok' => ⟨fun j S => S = ⟨[("prime", .int pr), ("many", .int m)], [(a, .lst ((stepD (ds.take j) pr m).map .int))]⟩, rfl, ?_, ?_, ?_⟩
      · rintro j S' rfl; rfl
      · rintro j p S1 hp rfl
        simp only [List.getElem?_map, Option.map_eq_some_iff] at hp
        obtain ⟨one, hone, rfl⟩ := hp
        have hon := hdiv.pos one (List.mem_of_getElem? hone)
        refine ⟨_, asg_name ok' (.loc rfl), q_nil ?_⟩
        refine if_yes rfl ?_
        refine u_keep 2 (u_nest (fun _ => rfl) (i_val ?_))
        walk_at "my es"
        refine ⟨_, iter_rng ok' (by omega) (by omega), ?_⟩
        refine ⟨fun t S => S = ⟨[("prime", .int pr), ("many", .int m), ("one", .int one)], [(a, .lst ((stepD (ds.take j) pr m ++ (List.range t).map fun t => one * pr ^ t).map .int))]⟩, by simp; rfl, ?_, ?_, ?_⟩
        · rintro t S' rfl; rfl
        · rintro t p S1 hp rfl
          have hr : (((m : Int) + 1) - 0).toNat = m + 1 := by omega
          rw [hr] at hp
          simp only [List.getElem?_map, Option.map_eq_some_iff] at hp
          obtain ⟨t', ht', rfl⟩ := hp
          have htt : t' = t ∧ t < m + 1 := by
            obtain ⟨q1, e⟩ := List.getElem?_eq_some_iff.mp ht'
            simp at q1 e
            exact ⟨e.symm, q1⟩
          obtain ⟨rfl, htm⟩ := htt
          refine ⟨_, asg_name ok' (.loc rfl), q_nil ?_⟩
          refine if_yes rfl ?_
          refine u_keep 3 (u_emit ?_)
          walk_at "my es"
          refine ⟨_, bin_pow (by omega) ?_, ?_⟩
          · by_cases hm0 : m = 0
            · have : t' = 0 := by omega
              subst this
              simp
            · have q1 := hprle hm0
              have q2 : Builtin.Int.intBits pr ≤ 64 := intBits_le_64 (by omega) (by omega)
              have q3 : (Builtin.Int.intBits pr : Int) * (0 + (t' : Int)) ≤ 64 * 64 := Int.mul_le_mul (by omega) (by omega) (by omega) (by omega)
              omega
          refine ⟨_, bin_mul (Sm.mulL (by unfold Sm; omega)), ?_⟩
          refine ⟨_, _, .head, ?_, ?_⟩
          · rw [List.length_map, List.length_append, stepD_length, List.length_map, List.length_range, List.length_take]
            have : min j ds.length * (m + 1) ≤ 54 * 65 := Nat.mul_le_mul (by omega) (by omega)
            omega
          · show (⟨[("prime", .int pr), ("many", .int m), ("one", .int one)], [(a, .lst ((stepD (ds.take j) pr m ++ (List.range t').map fun t => one * pr ^ t).map .int ++ [.int (one * pr ^ (0 + (t' : Int)).toNat)]))]⟩ : Store) = _
            have e0 : (0 + (t' : Int)).toNat = t' := by omega
            rw [e0, List.range_succ]
            simp
        · rintro S' rfl
          have hr : (((m : Int) + 1) - 0).toNat = m + 1 := by omega
          rw [hr, List.length_map, List.length_range]
          have e : stepD (ds.take (j + 1)) pr m = stepD (ds.take j) pr m ++ (List.range (m + 1)).map fun t => one * pr ^ t := by
            rw [List.take_add_one, hone, stepD, List.flatMap_append]
            simp [stepD]
          rw [← e]
          rfl
      · rintro S' rfl
        refine ⟨_, rfl, ?_⟩
        rw [List.length_map, List.take_length]
    · rintro l rfl
      refine b_keep 2 (b_nil ⟨stepD ds pr m, rfl, ?_, ?_⟩)
      · rw [htake, prodF_snoc]; exact hstep
      · rw [htake, cntF_snoc, stepD_length, hds]
  · rintro S1 ⟨ds, rfl, hdiv, hds⟩
    have hl : (facPV fs).length = fs.length := by simp [facPV]
    rw [hl, List.take_length] at hdiv hds
    rw [hprod] at hdiv
    have hd64 : ds.length < 64 := by
      omega
    refine b_cons (x_ret ?_)
    refine e_callR ok (bi_sorted rfl) rfl rfl ?_
    walk_at "my es"
    refine ⟨_, call_sorted_ints hd64, ?_⟩
    rintro c ⟨ns', rfl, hperm, _⟩
    refine ⟨⟨ns', rfl, by rw [hperm.length_eq]; omega, fun d hd => hdiv.pos d (hperm.mem_iff.mp hd), fun d h1 h2 => hperm.mem_iff.mpr (hdiv.all d h1 ?_)⟩, rfl⟩
    rwa [Int.dvd_natAbs]
end Mine
end

section
open PySem PySem.W PyProof.Rows
set_option maxRecDepth 100000
set_option linter.unusedVariables false

namespace Mine
variable {C : Cx} {S : Store} {base : Lk}

/-! ### dicts with pairs for keys -/
theorem St.sizeNe {look : Lk} {s : Shared} (h : St C base S look s) : (s.heap.objs.size == sysModules) = false := by
  have T := C.G.top.g.keeps (fun b o e => h.keep b o (h.top b o e))
  have : @LT.lt Nat _ mainGlobals s.heap.objs.size := T.lt
  have h2 : @Eq Nat mainGlobals 3 := rfl
  have h3 : @Eq Nat sysModules 1 := rfl
  simp only [beq_eq_false_iff_ne, ne_eq]
  intro e
  have e : @Eq Nat s.heap.objs.size sysModules := e
  omega

theorem rep_pair {look : Lk} {v : Value} {x : Int × Int} (h : Rep look v (.tup [.int x.1, .int x.2])) : ∃ a, v = .ref a ∧ PairAt look a x := by
  cases h with
  | @tup a items n _ ha hs =>
    obtain ⟨u, w, e, h1, h2⟩ := hs.two
    cases h1 with
    | int _ t =>
      cases h2 with
      | int _ t2 =>
        refine ⟨a, rfl, n, t, t2, ?_⟩
        have : items = #[.int x.1 t, .int x.2 t2] := by rw [← Array.toArray_toList (xs := items), e]
        rw [← this]; exact ha
theorem PairAt.rep {look : Lk} {a : Addr} {x : Int × Int} (h : PairAt look a x) : Rep look (.ref a) (.tup [.int x.1, .int x.2]) := by
  obtain ⟨n, t, u, e⟩ := h
  exact .tup e (.cons (.int _ _) (.cons (.int _ _) .nil))
theorem isInt_self (i : Int) (t : Tok) : Value.isInt i (.int i t) = true := by simp [Value.isInt]
theorem PairAt.key {G : GE} {look : Lk} {h : Heap} {a : Addr} {x : Int × Int} (p : PairAt look a x) (hs : ∀ b o, look b = some o → h.get? b = some o) : (tupK G).is h [x.1, x.2] a := by
  obtain ⟨n, t, u, e⟩ := p
  exact ⟨_, _, n, hs _ _ e, rfl, rfl, .cons (isInt_self x.1 t) (.cons (isInt_self x.2 u) .nil)⟩
theorem room {n : Nat} (ok : C.Ok n) : (tupK C.G).room C.A.in1 := by
  have := ok.units
  show C.A.in1.units < cLine
  show C.A.units + 1 < 9900
  omega

theorem atKey_isSome {xs : List (List Int × Addr × Value)} {l : List (Int × Int)} (h : xs.map (fun x => x.1) = l.map (fun x => [x.1, x.2])) (x : Int × Int) : (atKey xs [x.1, x.2]).isSome = decide (x ∈ l) := by
  have e : (atKey xs [x.1, x.2]).isSome = (xs.map (fun x => x.1)).any (fun k => decide (k = [x.1, x.2])) := by
    unfold atKey
    induction xs generalizing l with
    | nil => rfl
    | cons y ys ih =>
      cases l with
      | nil => cases h
      | cons z zs =>
        simp only [List.map_cons, List.cons.injEq] at h
        by_cases q : y.1 = [x.1, x.2]
        · simp [q]
        · simpa [q] using ih h.2
  rw [e, h, Bool.eq_iff_iff]
  simp only [List.any_eq_true, List.mem_map, decide_eq_true_eq]
  constructor
  · rintro ⟨_, ⟨y, hy, rfl⟩, e⟩
    have : y = x := by
      simp only [List.cons.injEq, and_true] at e
      exact Prod.ext e.1 e.2
    exact this ▸ hy
  · intro hx
    exact ⟨_, ⟨x, hx, rfl⟩, rfl⟩

/-- an empty dict, owned -/
theorem e_dictM {pos : Pos} {K : PV → Store → Prop} (h : ∀ a, K (.ptr a) { S with cel := (a, .met []) :: S.cel }) : wpE C (.Dict [] [] pos) K S := by
  refine .mk fun s look base hs => ?_
  refine wpAny_Dict_empty ?_
  have p := hs.own1 { cls := .type "dict", data := .dict #[] } (.met []) (tk := s.toks) ⟨hs.sizeNe, [], Heap.DictOfH.new _, rfl, fun _ _ _ e => by simp at e⟩
  exact ⟨_, _, look, h _, Ext.refl _ _, p, .ptr _⟩
theorem e_dictT {pos : Pos} {K : PV → Store → Prop} (h : ∀ a, K (.ptr a) { S with cel := (a, .told []) :: S.cel }) : wpE C (.Dict [] [] pos) K S := by
  refine .mk fun s look base hs => ?_
  refine wpAny_Dict_empty ?_
  have p := hs.own1 { cls := .type "dict", data := .dict #[] } (.told []) (tk := s.toks) ⟨hs.sizeNe, [], Heap.DictOfH.new _, rfl, fun _ _ _ e => by simp at e⟩
  exact ⟨_, _, look, h _, Ext.refl _ _, p, .ptr _⟩

theorem met_notin {n : Nat} (ok : C.Ok n) {a : Addr} {l : List (Int × Int)} {x : Int × Int} (hm : (a, Cont.met l) ∈ S.cel) : CmpOk C S .NotIn (.tup [.int x.1, .int x.2]) (.ptr a) (!decide (x ∈ l)) := by
  refine .mk fun s look base v u hs hv hu => ?_
  cases hu
  obtain ⟨b, rfl, hp⟩ := rep_pair hv
  obtain ⟨q, xs, hx, hl, _⟩ := hs.own a _ hm
  refine wpAny_notIn_heap (room ok) (hp.key hs.sub) q hx ⟨?_, look, Ext.refl _ _, hs.tok _⟩
  rw [atKey_isSome hl]

theorem met_set {n : Nat} (ok : C.Ok n) {a : Addr} {l : List (Int × Int)} {x : Int × Int} {cel' : List (Addr × Cont)} (u : CUpd a (.met l) (.met (l ++ [x])) S.cel cel') (hx : x ∉ l) (hsz : l.length ≤ 1000000) :
    SetOk C S (.ptr a) (.tup [.int x.1, .int x.2]) (.bool true) { S with cel := cel' } := by
  refine .mk fun s look base y j z hs hy hj hz => ?_
  cases hy; cases hz
  obtain ⟨b, rfl, hp⟩ := rep_pair hj
  obtain ⟨q, xs, hxs, hl, hr⟩ := hs.own a _ u.mem
  have hlen : xs.length = l.length := by simpa using congrArg List.length hl
  have hk : atKey xs [x.1, x.2] = none := by
    have := atKey_isSome hl x
    rw [decide_eq_false hx] at this
    simpa using this
  refine wpAny_setItem_heap (room ok) (hp.key hs.sub) hxs (fun h' hd hsb => ?_) (by rw [hlen, sizeLine_eq]; omega)
  rw [storedH_new hk] at hd
  refine ⟨look, Ext.refl _ _, hs.upd u hsb ⟨q, _, hd, by simp [hl], ?_⟩⟩
  intro i e y h1 h2
  by_cases hi : i < xs.length
  · rw [List.getElem?_append_left hi] at h1
    rw [List.getElem?_append_left (by omega)] at h2
    exact hr i e y h1 h2
  · rw [List.getElem?_append_right (by omega)] at h1 h2
    rw [hlen] at h1
    have : i - l.length = 0 := by
      have := (List.getElem?_eq_some_iff.mp h2).1
      simp at this; omega
    rw [this] at h1 h2
    simp at h1 h2
    subst h1 h2
    exact ⟨hp, rfl⟩

/-- owned objects that nobody needs any more -/
theorem e_drop {e : Expr} {K : PV → Store → Prop} (h : wpE C e (fun p S1 => ∃ cel', cel'.Sublist S1.cel ∧ K p { S1 with cel := cel' }) S) : wpE C e K S := by
  refine .mk fun s look base hs => ?_
  refine wpAny_mono (h.run s look base hs) ?_ fun _ _ x => x
  rintro v s1 ⟨p, S1, l1, ⟨cel', hsub, k⟩, le1, st1, r1⟩
  exact ⟨p, _, l1, k, le1, st1.drop _ hsub, r1⟩
end Mine
end

section
open PySem PySem.W PyProof.Rows
set_option maxRecDepth 100000
set_option linter.unusedVariables false

namespace Mine
/-- one argument, two arguments: what the binder makes of them -/
local macro_rules | `(tactic| walk_at "my bind1") => `(tactic| (intro pm code doc vs hv; match vs, hv with | [_], _ => rfl))
local macro_rules | `(tactic| walk_at "my bind2") => `(tactic| (intro pm code doc vs hv; match vs, hv with | [_, _], _ => rfl))
/-- one step of an expression -/
local macro_rules | `(tactic| walk_at "my e") => `(tactic| first
  | refine e_int ?_
  | refine e_bool ?_
  | refine e_var (by assumption) (.loc rfl) rfl rfl ?_
  | refine e_var (by assumption) (.cell _ rfl rfl) rfl rfl ?_
  | refine e_var (by assumption) (.free _ rfl rfl rfl) rfl rfl ?_
  | refine e_bin ?_
  | refine e_cmp rfl ?_
  | refine t_cmp rfl ?_
  | refine t_and ?_
  | refine t_or ?_
  | refine e_neg ?_
  | refine e_ifexp ?_
  | refine e_tup ?_
  | refine l_cons rfl ?_
  | refine l_nil ?_
  | refine e_item (fun _ _ => rfl) ?_
  | refine e_callF (by assumption) (bi_abs rfl) rfl rfl ?_
  | refine e_callF (by assumption) (bi_len rfl) rfl rfl ?_
  | refine e_callF (by assumption) (bi_max rfl) rfl rfl ?_
  | refine e_callF (by assumption) (bi_sorted rfl) rfl rfl ?_
  | refine e_callF (by assumption) (bi_sum rfl) rfl rfl ?_
  | refine e_callT (by assumption) (bi_range rfl) rfl rfl ?_
  | refine e_callT (by assumption) (bi_list rfl) rfl rfl ?_
  | refine e_callT (by assumption) (bi_reversed rfl) rfl rfl ?_
  | refine e_callT (by assumption) (bi_enumerate rfl) rfl rfl ?_
  | refine ⟨_, bin_add, ?_⟩
  | refine ⟨_, bin_sub, ?_⟩
  | refine ⟨_, cmp_eq, ?_⟩
  | refine ⟨_, cmp_ne, ?_⟩
  | refine ⟨_, cmp_lt, ?_⟩
  | refine ⟨_, cmp_le, ?_⟩
  | refine ⟨_, cmp_gt, ?_⟩
  | refine ⟨_, cmp_ge, ?_⟩
  | refine ⟨_, _, call_abs, ?_⟩
  | refine ⟨_, _, call_max (by assumption), ?_⟩
  | refine ⟨_, _, call_range1, ?_⟩
  | refine ⟨_, _, call_range2, ?_⟩)
local macro_rules | `(tactic| walk_at "my es") => `(tactic| (repeat walk_at "my e"))


noncomputable def ratF (t b : Int) : Int × Int := (t.fdiv (Int.gcd t b), b.fdiv (Int.gcd t b))
/-- lowest terms, small -/
structure GoodX (x : Int × Int) : Prop where
  pos : 0 < x.2
  low : Int.gcd x.1 x.2 = 1
  sm1 : x.1.natAbs ≤ 1000
  sm2 : x.2.natAbs ≤ 1000
theorem ratF_good {t b : Int} (hb : 0 < b) (h1 : t.natAbs ≤ 1000) (h2 : b.natAbs ≤ 1000) : GoodX (ratF t b) := by
  have hg0 : Int.gcd t b ≠ 0 := by
    intro e
    rw [Int.gcd_eq_zero_iff] at e
    omega
  obtain ⟨t', ht⟩ := Int.gcd_dvd_left t b
  obtain ⟨b', hb'⟩ := Int.gcd_dvd_right t b
  generalize hg : Int.gcd t b = g at *
  have e1 : t.fdiv g = t' := by rw [ht]; exact Int.mul_fdiv_cancel_left _ (by omega)
  have e2 : b.fdiv g = b' := by rw [hb']; exact Int.mul_fdiv_cancel_left _ (by omega)
  have hgg : Int.gcd t' b' = 1 := by
    have : Int.gcd ((g : Int) * t') ((g : Int) * b') = g * Int.gcd t' b' := by rw [Int.gcd_mul_left]; simp
    rw [← ht, ← hb', hg] at this
    have h3 : g * 1 = g * Int.gcd t' b' := by omega
    exact (Nat.eq_of_mul_eq_mul_left (by omega) h3).symm
  have ha : t.natAbs = g * t'.natAbs := by rw [ht, Int.natAbs_mul]; simp
  have hbb : b.natAbs = g * b'.natAbs := by rw [hb', Int.natAbs_mul]; simp
  have q1 : 1 * t'.natAbs ≤ g * t'.natAbs := Nat.mul_le_mul_right _ (by omega)
  have q2 : 1 * b'.natAbs ≤ g * b'.natAbs := Nat.mul_le_mul_right _ (by omega)
  have hbp : 0 < b' := by
    rcases Int.lt_or_le 0 b' with h | h
    · exact h
    · have : (g : Int) * b' ≤ 0 := Int.mul_nonpos_of_nonneg_of_nonpos (by omega) h
      omega
  unfold ratF
  rw [hg, e1, e2]
  exact ⟨hbp, hgg, by show t'.natAbs ≤ 1000; omega, by show b'.natAbs ≤ 1000; omega⟩
theorem ratF_low {x : Int × Int} (h : Int.gcd x.1 x.2 = 1) : ratF x.1 x.2 = x := by
  unfold ratF
  rw [h]
  simp

structure Inv (l : List (Int × Int)) (must : Int × Int → Prop) : Prop where
  nodup : l.Nodup
  good : ∀ x ∈ l, GoodX x
  has : ∀ x, must x → x ∈ l
theorem Inv.mono {l : List (Int × Int)} {m m' : Int × Int → Prop} (h : Inv l m) (hm : ∀ x, m' x → m x) : Inv l m' := ⟨h.nodup, h.good, fun x q => h.has x (hm x q)⟩
theorem Inv.old {l : List (Int × Int)} {m : Int × Int → Prop} (h : Inv l m) {x : Int × Int} (hx : x ∈ l) : Inv l (fun y => m y ∨ y = x) :=
  ⟨h.nodup, h.good, fun y q => q.elim (h.has y) fun e => e ▸ hx⟩
theorem Inv.new {l : List (Int × Int)} {m : Int × Int → Prop} (h : Inv l m) {x : Int × Int} (hx : x ∉ l) (hg : GoodX x) : Inv (l ++ [x]) (fun y => m y ∨ y = x) := by
  refine ⟨?_, fun y hy => ?_, fun y q => ?_⟩
  · rw [List.nodup_append]
    refine ⟨h.nodup, by simp, ?_⟩
    intro a ha b hb
    rw [List.mem_singleton.mp hb]
    rintro rfl; exact hx ha
  · rcases List.mem_append.mp hy with q | q
    · exact h.good y q
    · rw [List.mem_singleton.mp q]; exact hg
  · rcases q with q | rfl
    · exact List.mem_append_left _ (h.has y q)
    · simp

structure CandOk (cs : List (Int × Int)) (a0 an : Int) : Prop where
  nodup : cs.Nodup
  good : ∀ x ∈ cs, GoodX x
  all : ∀ x : Int × Int, 0 < x.2 → Int.gcd x.1 x.2 = 1 → x.1 ≠ 0 → x.1 ∣ a0 → x.2 ∣ an → x ∈ cs

/-- the sizes stay small: as many as the turns -/
theorem candidates_spec {G : GE} {l : List Int} {a0 an : Int} (hl : l.length ≤ 1000) (hl2 : 2 ≤ l.length) (h0 : l.getD 0 0 = a0) (hn : l.getD (l.length - 1) 0 = an) (ha0 : a0 ≠ 0) (han : an ≠ 0) (hs0 : a0.natAbs ≤ 1000) (hsn : an.natAbs ≤ 1000) :
    FnSpec G d19 5 [polyPV l] [] (fun p c => (∃ cs, p = .lst (cs.map prPV) ∧ CandOk cs a0 an ∧ cs.length ≤ 100000) ∧ c = []) := by
  have habs : ∀ i : Int, (if i < 0 then -i else i) = i.natAbs := fun i => by split <;> omega
  refine fn_intro d19_mem ["f"] (by decide) rfl (by walk_at "my bind1") rfl rfl rfl rfl ?_
  intro A L f pm code doc s₀ ok
  refine b_cons (x_if ?_)
  walk_at "my es"
  refine e_call ok d9_mem rfl rfl rfl rfl (k := 1) (by omega) ?_
  walk_at "my es"
  refine ⟨_, zdegree_spec hl, ?_⟩
  rintro _ _ ⟨rfl, rfl⟩
  walk_at "my es"
  refine if_no (decide_eq_false (by omega)) ?_
  refine b_nil ?_
  refine b_cons (x_assignT ok ["met", "found"] (wr2 (.loc rfl) (.loc rfl)) rfl rfl ?_)
  refine e_tup (l_cons rfl (e_dictM fun adm => l_cons rfl (e_listO (l_nil ⟨by simp, fun adf => l_nil ?_⟩))))
  refine ⟨by simp, _, rfl, rfl, ?_⟩
  refine b_cons (x_for (fun _ => rfl) (i_val ?_))
  refine e_call ok d3_mem rfl rfl rfl rfl (k := 3) (by omega) ?_
  walk_at "my es"
  refine ⟨_, item_lst (by decide) (by decide) (j := 0) (seqIndex_nat rfl (by simp; omega)) (poly_get (by omega)), ?_⟩
  walk_at "my es"
  rw [h0, habs]
  refine ⟨_, divisors_spec (n := a0.natAbs) (by omega) (by omega), ?_⟩
  rintro _ _ ⟨⟨ts, rfl, hts, htp, hta⟩, rfl⟩
  refine ⟨_, iter_lst ok, fun i S => ∃ cs : List (Int × Int), S = ⟨[("f", polyPV l), ("found", .ptr adf), ("met", .ptr adm)], [(adf, .lst (cs.map prPV)), (adm, .met cs)]⟩ ∧ cs.length ≤ i * 200 ∧
    Inv cs (fun x => ∃ t ∈ ts.take i, ∃ d : Int, 1 ≤ d ∧ d ∣ an ∧ (x = ratF t d ∨ x = ratF (-t) d)), ⟨[], rfl, by simp, by simp, by simp, by simp⟩, ?_, ?_, ?_⟩
  · rintro i S' ⟨cs, rfl, _⟩; rfl
  · rintro i p S1 hp ⟨cs, rfl, hcl, hI⟩
    have hi64 : i < ts.length := by
      have := (List.getElem?_eq_some_iff.mp hp).1
      simpa using this
    simp only [List.getElem?_map, Option.map_eq_some_iff] at hp
    obtain ⟨t, ht, rfl⟩ := hp
    have htb := htp t (List.mem_of_getElem? ht)
    refine ⟨_, asg_name ok (.loc rfl), ?_⟩
    refine b_cons (x_for (fun _ => rfl) (i_val ?_))
    refine e_call ok d3_mem rfl rfl rfl rfl (k := 3) (by omega) ?_
    walk_at "my es"
    refine ⟨_, rfl, ?_⟩
    refine ⟨_, item_lst (by decide) (by decide) (j := l.length - 1) (by rw [List.length_map]; exact seqIndex_last (by omega)) (poly_get (by omega)), ?_⟩
    walk_at "my es"
    rw [hn, habs]
    refine ⟨_, divisors_spec (n := an.natAbs) (by omega) (by omega), ?_⟩
    rintro _ _ ⟨⟨bs, rfl, hbs, hbp, hba⟩, rfl⟩
    refine ⟨_, iter_lst ok, fun k S => ∃ cs : List (Int × Int), S = ⟨[("f", polyPV l), ("found", .ptr adf), ("met", .ptr adm), ("top", .int t)], [(adf, .lst (cs.map prPV)), (adm, .met cs)]⟩ ∧ cs.length ≤ i * 200 + k * 2 ∧
      Inv cs (fun x => (∃ t ∈ ts.take i, ∃ d : Int, 1 ≤ d ∧ d ∣ an ∧ (x = ratF t d ∨ x = ratF (-t) d)) ∨ ∃ b ∈ bs.take k, x = ratF t b ∨ x = ratF (-t) b), ⟨cs, rfl, by omega, hI.mono (by simp)⟩, ?_, ?_, ?_⟩
    · rintro k S' ⟨cs, rfl, _⟩; rfl
    · rintro k p S1 hp ⟨cs, rfl, hcl, hI⟩
      have hk64 : k < bs.length := by
        have := (List.getElem?_eq_some_iff.mp hp).1
        simpa using this
      simp only [List.getElem?_map, Option.map_eq_some_iff] at hp
      obtain ⟨b, hb, rfl⟩ := hp
      have hbb := hbp b (List.mem_of_getElem? hb)
      refine ⟨_, asg_name ok (.loc rfl), ?_⟩
      refine b_cons (x_for (fun _ => rfl) (i_val ?_))
      refine e_tup (l_cons rfl ?_)
      refine e_call ok d4_mem rfl rfl rfl rfl (k := 2) (by omega) ?_
      walk_at "my es"
      refine ⟨_, rat_spec (t := t) (b := b) (by omega) (by omega), ?_⟩
      rintro _ _ ⟨rfl, rfl⟩
      refine l_cons rfl ?_
      refine e_call ok d4_mem rfl rfl rfl rfl (k := 2) (by omega) ?_
      walk_at "my es"
      refine ⟨_, rfl, ?_⟩
      walk_at "my es"
      refine ⟨_, rat_spec (t := -t) (b := b) (by omega) (by omega), ?_⟩
      rintro _ _ ⟨rfl, rfl⟩
      walk_at "my es"
      refine ⟨by simp, ?_⟩
      refine ⟨_, iter_tup ok, fun m S => ∃ cs : List (Int × Int), S = ⟨[("f", polyPV l), ("found", .ptr adf), ("met", .ptr adm), ("top", .int t), ("bottom", .int b)], [(adf, .lst (cs.map prPV)), (adm, .met cs)]⟩ ∧ cs.length ≤ i * 200 + k * 2 + m ∧
        Inv cs (fun x => ((∃ t ∈ ts.take i, ∃ d : Int, 1 ≤ d ∧ d ∣ an ∧ (x = ratF t d ∨ x = ratF (-t) d)) ∨ ∃ b ∈ bs.take k, x = ratF t b ∨ x = ratF (-t) b) ∨ x ∈ [ratF t b, ratF (-t) b].take m), ⟨cs, rfl, by omega, hI.mono (by simp)⟩, ?_, ?_, ?_⟩
      · rintro k S' ⟨cs, rfl, _⟩; rfl
      · rintro m p S1 hp ⟨cs, rfl, hcl, hI⟩
        have hpx : ∃ x, [ratF t b, ratF (-t) b][m]? = some x ∧ p = prPV x ∧ GoodX x ∧ m < 2 := by
          match m with
          | 0 => exact ⟨_, rfl, (Option.some.inj hp).symm, ratF_good (by omega) (by omega) (by omega), by omega⟩
          | 1 => exact ⟨_, rfl, (Option.some.inj hp).symm, ratF_good (by omega) (by omega) (by omega), by omega⟩
          | m + 2 => simp at hp
        obtain ⟨x, hx, rfl, hgx, hm2⟩ := hpx
        have htk : [ratF t b, ratF (-t) b].take (m + 1) = [ratF t b, ratF (-t) b].take m ++ [x] := by rw [List.take_add_one, hx]; rfl
        refine ⟨_, asg_name ok (.loc rfl), ?_⟩
        refine b_cons (x_if ?_)
        walk_at "my es"
        refine ⟨_, met_notin ok (.tail _ (.head _)), ?_⟩
        by_cases hmem : x ∈ cs
        · rw [decide_eq_true hmem]
          refine if_no Bool.not_true ?_
          refine b_nil (b_keep 5 (b_nil ⟨cs, rfl, by omega, (hI.old hmem).mono fun y hy => ?_⟩))
          rw [htk] at hy
          simp only [List.mem_append, List.mem_singleton] at hy
          rcases hy with h | h | h
          · exact .inl (.inl h)
          · exact .inl (.inr h)
          · exact .inr h
        · rw [decide_eq_false hmem]
          refine if_yes Bool.not_false ?_
          refine b_cons (x_setitem rfl ?_)
          walk_at "my es"
          refine ⟨_, met_set ok (.tail .head) hmem (by omega), ?_⟩
          refine b_cons (x_expr ok rfl (e_methL rfl rfl rfl PySem.F.slot_list_append PySem.F.type_list_append rfl rfl ?_))
          walk_at "my es"
          refine ⟨adf, _, rfl, .head _, ?_⟩
          walk_at "my es"
          refine ⟨_, _, call_append .head (by rw [List.length_map]; omega), rfl, ?_⟩
          refine b_nil (b_keep 5 (b_nil ⟨cs ++ [x], ?_, by simp; omega, (hI.new hmem hgx).mono fun y hy => ?_⟩))
          · show (⟨_, [(adf, .lst (cs.map prPV ++ [prPV x])), (adm, .met (cs ++ [x]))]⟩ : Store) = _
            rw [List.map_append]; rfl
          · rw [htk] at hy
            simp only [List.mem_append, List.mem_singleton] at hy
            rcases hy with h | h | h
            · exact .inl (.inl h)
            · exact .inl (.inr h)
            · exact .inr h
      · rintro S1 ⟨cs, rfl, hcl, hI⟩
        refine b_keep 4 (b_nil ⟨cs, rfl, by simp at hcl; omega, hI.mono fun y hy => ?_⟩)
        rcases hy with h | ⟨b', hb', h⟩
        · exact .inl (.inl h)
        · rw [List.take_add_one, hb] at hb'
          rcases List.mem_append.mp hb' with q | q
          · exact .inl (.inr ⟨b', q, h⟩)
          · simp at q; subst q
            right; simpa using h
    · rintro S1 ⟨cs, rfl, hcl, hI⟩
      rw [List.length_map] at hcl hI
      refine b_keep 3 (b_nil ⟨cs, rfl, by omega, hI.mono fun y hy => ?_⟩)
      obtain ⟨t', ht', d, hd1, hd2, h⟩ := hy
      rw [List.take_add_one, ht] at ht'
      rcases List.mem_append.mp ht' with q | q
      · exact .inl ⟨t', q, d, hd1, hd2, h⟩
      · simp at q; subst q
        right
        rw [List.take_length]
        exact ⟨d, hba d hd1 (by rwa [Int.dvd_natAbs]), h⟩
  · rintro S1 ⟨cs, rfl, hcl, hI⟩
    rw [List.length_map] at hcl hI
    rw [List.take_length] at hI
    refine b_cons (x_ret (e_drop (e_freeze ?_)))
    walk_at "my es"
    refine ⟨adf, _, _, rfl, .head, ?_⟩
    refine ⟨[], List.nil_sublist _, ⟨cs, rfl, ⟨hI.nodup, hI.good, fun x h1 h2 h3 h4 h5 => ?_⟩, by omega⟩, rfl⟩
    refine hI.has x ⟨x.1.natAbs, hta _ (by omega) (by rw [Int.dvd_natAbs, Int.natAbs_dvd]; exact h4), x.2, by omega, h5, ?_⟩
    by_cases hx : 0 ≤ x.1
    · left
      rw [Int.natAbs_of_nonneg hx, ratF_low h2]
    · right
      rw [show -(x.1.natAbs : Int) = x.1 by omega, ratF_low h2]
end Mine
end

section
open PySem PySem.W PyProof.Rows
set_option maxRecDepth 100000
set_option linter.unusedVariables false

namespace Mine
/-- one argument, two arguments: what the binder makes of them -/
local macro_rules | `(tactic| walk_at "my bind1") => `(tactic| (intro pm code doc vs hv; match vs, hv with | [_], _ => rfl))
local macro_rules | `(tactic| walk_at "my bind2") => `(tactic| (intro pm code doc vs hv; match vs, hv with | [_, _], _ => rfl))
/-- one step of an expression -/
local macro_rules | `(tactic| walk_at "my e") => `(tactic| first
  | refine e_int ?_
  | refine e_bool ?_
  | refine e_var (by assumption) (.loc rfl) rfl rfl ?_
  | refine e_var (by assumption) (.cell _ rfl rfl) rfl rfl ?_
  | refine e_var (by assumption) (.free _ rfl rfl rfl) rfl rfl ?_
  | refine e_bin ?_
  | refine e_cmp rfl ?_
  | refine t_cmp rfl ?_
  | refine t_and ?_
  | refine t_or ?_
  | refine e_neg ?_
  | refine e_ifexp ?_
  | refine e_tup ?_
  | refine l_cons rfl ?_
  | refine l_nil ?_
  | refine e_item (fun _ _ => rfl) ?_
  | refine e_callF (by assumption) (bi_abs rfl) rfl rfl ?_
  | refine e_callF (by assumption) (bi_len rfl) rfl rfl ?_
  | refine e_callF (by assumption) (bi_max rfl) rfl rfl ?_
  | refine e_callF (by assumption) (bi_sorted rfl) rfl rfl ?_
  | refine e_callF (by assumption) (bi_sum rfl) rfl rfl ?_
  | refine e_callT (by assumption) (bi_range rfl) rfl rfl ?_
  | refine e_callT (by assumption) (bi_list rfl) rfl rfl ?_
  | refine e_callT (by assumption) (bi_reversed rfl) rfl rfl ?_
  | refine e_callT (by assumption) (bi_enumerate rfl) rfl rfl ?_
  | refine ⟨_, bin_add, ?_⟩
  | refine ⟨_, bin_sub, ?_⟩
  | refine ⟨_, cmp_eq, ?_⟩
  | refine ⟨_, cmp_ne, ?_⟩
  | refine ⟨_, cmp_lt, ?_⟩
  | refine ⟨_, cmp_le, ?_⟩
  | refine ⟨_, cmp_gt, ?_⟩
  | refine ⟨_, cmp_ge, ?_⟩
  | refine ⟨_, _, call_abs, ?_⟩
  | refine ⟨_, _, call_max (by assumption), ?_⟩
  | refine ⟨_, _, call_range1, ?_⟩
  | refine ⟨_, _, call_range2, ?_⟩)
local macro_rules | `(tactic| walk_at "my es") => `(tactic| (repeat walk_at "my e"))


noncomputable def rootPV (r : (Int × Int) × Int) : PV := .tup [prPV r.1, .int r.2]
abbrev rlt (a b : Int × Int) : Prop := a.1 * b.2 < b.1 * a.2
abbrev Roots := List ((Int × Int) × Int)
noncomputable def insK (p : (Int × Int) × Int) : Roots → Nat
  | [] => 0
  | x :: xs => if rlt x.1 p.1 then insK p xs + 1 else 0
noncomputable def insR (p : (Int × Int) × Int) (l : Roots) : Roots := l.take (insK p l) ++ p :: l.drop (insK p l)
noncomputable def sortR (l : Roots) : Roots := l.foldl (fun acc p => insR p acc) []
theorem insK_le (p : (Int × Int) × Int) (l : Roots) : insK p l ≤ l.length := by
  induction l with
  | nil => simp [insK]
  | cons x xs ih => simp only [insK]; split <;> simp <;> omega

theorem sorted_roots_spec {G : GE} {l : Roots} (hl : l.length ≤ 1000) (hs : ∀ r ∈ l, Sm r.1.1) : FnSpec G d20 2 [.lst (l.map rootPV)] [] (fun p c => p = .lst ((sortR l).map rootPV) ∧ c = []) := by
  refine fn_intro d20_mem ["pairs"] (by decide) rfl (by walk_at "my bind1") rfl rfl rfl rfl ?_
  intro A L f pm code doc s₀ ok
  refine b_cons (x_assign ok (.loc rfl) rfl (e_listO (l_nil ⟨by simp, fun ad => ?_⟩)))
  refine b_cons (x_for (fun _ => rfl) (i_val ?_))
  walk_at "my es"
  refine ⟨_, iter_lst ok, fun i S => ∃ acc : Roots, S = ⟨[("pairs", .lst (l.map rootPV)), ("found", .ptr ad)], [(ad, .lst (acc.map rootPV))]⟩ ∧ acc = (l.take i).foldl (fun acc p => insR p acc) [] ∧ acc.length ≤ i ∧ (∀ r ∈ acc, Sm r.1.1), ⟨[], rfl, rfl, by simp, by simp⟩, ?_, ?_, ?_⟩
  · rintro i S' ⟨acc, rfl, _⟩; rfl
  · rintro i p S1 hp ⟨acc, rfl, hacc, hlen, hsm⟩
    have hi : i < l.length := by
      have := (List.getElem?_eq_some_iff.mp hp).1
      simpa using this
    simp only [List.getElem?_map, Option.map_eq_some_iff] at hp
    obtain ⟨r, hr, rfl⟩ := hp
    have hrs := hs r (List.mem_of_getElem? hr)
    refine ⟨_, asg_name ok (.loc rfl), ?_⟩
    refine b_cons (x_assign ok (.loc rfl) rfl ?_)
    walk_at "my es"
    refine b_cons (x_while (fun k S => ∃ n : Nat, S = ⟨[("pairs", .lst (l.map rootPV)), ("found", .ptr ad), ("pair", rootPV r), ("at", .int n)], [(ad, .lst (acc.map rootPV))]⟩ ∧ n ≤ acc.length ∧ insK r acc = n + insK r (acc.drop n) ∧ k = acc.length - n)
      _ ⟨0, rfl, by omega, by simp, rfl⟩ ?_)
    rintro k S ⟨n, rfl, hn, hk, rfl⟩
    have hnext : insK r acc = n → (⟨[("pairs", .lst (l.map rootPV)), ("found", .ptr ad)], [(ad, .lst ((acc.map rootPV).take n ++ rootPV r :: (acc.map rootPV).drop n))]⟩ : Store) = ⟨[("pairs", .lst (l.map rootPV)), ("found", .ptr ad)], [(ad, .lst ((insR r acc).map rootPV))]⟩ := fun h => by
      rw [insR, h, List.map_append, List.map_cons, List.map_take, List.map_drop]
    have hfold : insR r acc = (l.take (i + 1)).foldl (fun acc p => insR p acc) [] := by
      rw [List.take_add_one, hr, List.foldl_append, ← hacc]; rfl
    have hlen' : (insR r acc).length ≤ i + 1 := by
      have := insK_le r acc
      unfold insR
      simp; omega
    have hsm' : ∀ q ∈ insR r acc, Sm q.1.1 := fun q hq => by
      unfold insR at hq
      rcases List.mem_append.mp hq with h | h
      · exact hsm q (List.mem_of_mem_take h)
      · rcases List.mem_cons.mp h with rfl | h
        · exact hrs
        · exact hsm q (List.mem_of_mem_drop h)
    walk_at "my es"
    refine ⟨_, _, call_len_ptr (.head _) (by simp; omega), ?_⟩
    walk_at "my es"
    rw [List.length_map]
    by_cases h0 : n < acc.length
    · refine if_yes (decide_eq_true (by omega : (n : Int) < acc.length)) ?_
      have hget : (acc.map rootPV)[n]? = some (rootPV acc[n]) := by simp [h0]
      walk_at "my es"
      refine e_call ok d5_mem rfl rfl rfl rfl (k := 1) (by omega) ?_
      walk_at "my es"
      refine ⟨_, item_ptr (.head _) (by omega) (by omega) (j := n) (seqIndex_nat rfl (by simp; omega)) hget, ?_⟩
      walk_at "my es"
      refine ⟨_, item_tup (by decide) (by decide) (j := 0) rfl rfl, ?_⟩
      walk_at "my es"
      refine ⟨_, item_tup (by decide) (by decide) (j := 0) rfl rfl, ?_⟩
      walk_at "my es"
      refine ⟨_, rcompare_spec (a := acc[n].1) (b := r.1) (hsm _ (List.getElem_mem _)) hrs, ?_⟩
      rintro _ _ ⟨rfl, rfl⟩
      walk_at "my es"
      have hdrop : acc.drop n = acc[n] :: acc.drop (n + 1) := (List.drop_eq_getElem_cons h0)
      rw [hdrop] at hk
      by_cases h1 : rlt acc[n].1 r.1
      · have hneg : acc[n].1.1 * r.1.2 - r.1.1 * acc[n].1.2 < 0 := by unfold rlt at h1; omega
        have hdec : decide (((if acc[n].1.1 * r.1.2 - r.1.1 * acc[n].1.2 > 0 then 1 else 0 : Int) - (if acc[n].1.1 * r.1.2 - r.1.1 * acc[n].1.2 < 0 then 1 else 0)) < 0) = true := by
          rw [if_neg (show ¬ acc[n].1.1 * r.1.2 - r.1.1 * acc[n].1.2 > 0 by omega), if_pos hneg]; rfl
        refine if_yes hdec ?_
        refine b_cons (x_aug ok (.loc rfl) (.loc rfl) rfl ?_)
        walk_at "my es"
        refine ⟨_, _, rfl, rfl, .inl ⟨rfl, ?_⟩⟩
        refine b_nil ⟨acc.length - (n + 1), by omega, n + 1, rfl, by omega, ?_, rfl⟩
        rw [hk, insK, if_pos h1]; omega
      · have hnn : ¬ acc[n].1.1 * r.1.2 - r.1.1 * acc[n].1.2 < 0 := by unfold rlt at h1; omega
        have hdec : decide (((if acc[n].1.1 * r.1.2 - r.1.1 * acc[n].1.2 > 0 then 1 else 0 : Int) - (if acc[n].1.1 * r.1.2 - r.1.1 * acc[n].1.2 < 0 then 1 else 0)) < 0) = false := by
          rw [if_neg hnn]; split <;> rfl
        refine if_no hdec ?_
        rw [insK, if_neg h1] at hk
        refine b_cons (x_expr ok rfl (e_methL rfl rfl rfl PySem.F.slot_list_insert PySem.F.type_list_insert rfl rfl ?_))
        walk_at "my es"
        refine ⟨ad, _, rfl, .head _, ?_⟩
        walk_at "my es"
        refine ⟨_, _, call_insert .head (by simp; omega) (by simp; omega), rfl, ?_⟩
        exact b_keep 2 (b_nil ⟨insR r acc, hnext hk, hfold, hlen', hsm'⟩)
    · refine if_no (decide_eq_false (by omega : ¬ (n : Int) < acc.length)) (if_no rfl ?_)
      have : acc.drop n = [] := List.drop_eq_nil_of_le (by omega)
      rw [this, insK] at hk
      refine b_cons (x_expr ok rfl (e_methL rfl rfl rfl PySem.F.slot_list_insert PySem.F.type_list_insert rfl rfl ?_))
      walk_at "my es"
      refine ⟨ad, _, rfl, .head _, ?_⟩
      walk_at "my es"
      refine ⟨_, _, call_insert .head (by simp; omega) (by simp; omega), rfl, ?_⟩
      exact b_keep 2 (b_nil ⟨insR r acc, hnext hk, hfold, hlen', hsm'⟩)
  · rintro S1 ⟨acc, rfl, hacc, hlen, hsm⟩
    refine b_cons (x_ret (e_freeze ?_))
    walk_at "my es"
    refine ⟨ad, _, _, rfl, .head, ?_⟩
    rw [List.length_map, List.take_length] at hacc
    rw [hacc]
    exact ⟨rfl, rfl⟩
end Mine
end

section
set_option maxRecDepth 100000
set_option linter.unusedVariables false

namespace Mine
/-! ### the order of the roots -/
theorem rlt_trans {a b c : Int × Int} (ha : Low a) (hb : Low b) (hc : Low c) (h1 : rlt a b) (h2 : rlt b c) : rlt a c := by
  unfold rlt at *
  have e1 : a.1 * b.2 * c.2 < b.1 * a.2 * c.2 := Int.mul_lt_mul_of_pos_right h1 hc.1
  have e2 : b.1 * c.2 * a.2 < c.1 * b.2 * a.2 := Int.mul_lt_mul_of_pos_right h2 ha.1
  have e3 : b.2 * (a.1 * c.2) < b.2 * (c.1 * a.2) := by
    have q1 : b.2 * (a.1 * c.2) = a.1 * b.2 * c.2 := by grind
    have q2 : b.2 * (c.1 * a.2) = c.1 * b.2 * a.2 := by grind
    have q3 : b.1 * a.2 * c.2 = b.1 * c.2 * a.2 := by grind
    omega
  exact Int.lt_of_mul_lt_mul_left e3 (Int.le_of_lt hb.1)
theorem rlt_total {a b : Int × Int} (ha : Low a) (hb : Low b) (hne : a ≠ b) (h : ¬ rlt a b) : rlt b a := by
  unfold rlt at *
  rcases Int.lt_or_le (b.1 * a.2) (a.1 * b.2) with h1 | h1
  · exact h1
  · exfalso
    have : b.1 * a.2 = a.1 * b.2 := by omega
    exact hne (low_eq ha hb (by rw [Int.mul_comm, this]))
theorem insR_perm (p : (Int × Int) × Int) (l : Roots) : (insR p l).Perm (p :: l) := by
  unfold insR
  have := List.perm_middle (a := p) (l₁ := l.take (insK p l)) (l₂ := l.drop (insK p l))
  rwa [List.take_append_drop] at this
abbrev Asc (l : Roots) : Prop := l.Pairwise (fun a b => rlt a.1 b.1)
theorem insR_cons_lt {p x : (Int × Int) × Int} {xs : Roots} (h : rlt x.1 p.1) : insR p (x :: xs) = x :: insR p xs := by
  simp [insR, insK, h]
theorem insR_cons_ge {p x : (Int × Int) × Int} {xs : Roots} (h : ¬ rlt x.1 p.1) : insR p (x :: xs) = p :: x :: xs := by
  simp [insR, insK, h]
theorem insR_asc {p : (Int × Int) × Int} {l : Roots} (hp : Low p.1) (hl : ∀ x ∈ l, Low x.1) (hne : ∀ x ∈ l, x.1 ≠ p.1) (h : Asc l) : Asc (insR p l) := by
  induction l with
  | nil => simp [insR, insK]
  | cons x xs ih =>
    have hx := hl x (.head _)
    rw [Asc, List.pairwise_cons] at h
    by_cases hlt : rlt x.1 p.1
    · rw [insR_cons_lt hlt, Asc, List.pairwise_cons]
      refine ⟨fun y hy => ?_, ih (fun z hz => hl z (.tail _ hz)) (fun z hz => hne z (.tail _ hz)) h.2⟩
      rcases List.mem_cons.mp ((insR_perm p xs).mem_iff.mp hy) with rfl | hy
      · exact hlt
      · exact h.1 y hy
    · have hpx := rlt_total hx hp (hne x (.head _)) hlt
      rw [insR_cons_ge hlt, Asc, List.pairwise_cons]
      refine ⟨fun y hy => ?_, List.pairwise_cons.mpr h⟩
      rcases List.mem_cons.mp hy with rfl | hy
      · exact hpx
      · exact rlt_trans hp hx (hl y (.tail _ hy)) hpx (h.1 y hy)
theorem sortR_aux (l acc : Roots) (hl : ∀ x ∈ l, Low x.1) (ha : ∀ x ∈ acc, Low x.1) (hn : ((acc ++ l).map (·.1)).Nodup) (h : Asc acc) :
    (l.foldl (fun acc p => insR p acc) acc).Perm (acc ++ l) ∧ Asc (l.foldl (fun acc p => insR p acc) acc) := by
  induction l generalizing acc with
  | nil => simp [h]
  | cons x xs ih =>
    have hp := insR_perm x acc
    have hperm : (insR x acc ++ xs).Perm (acc ++ x :: xs) := (hp.append_right xs).trans List.perm_middle.symm
    have hmem : ∀ y ∈ insR x acc, Low y.1 := fun y hy => by
      rcases List.mem_cons.mp (hp.mem_iff.mp hy) with rfl | hy
      · exact hl _ (.head _)
      · exact ha y hy
    have hne : ∀ y ∈ acc, y.1 ≠ x.1 := fun y hy e => by
      rw [List.map_append, List.nodup_append] at hn
      exact hn.2.2 y.1 (List.mem_map.mpr ⟨y, hy, rfl⟩) x.1 (by simp) e
    have := ih (insR x acc) (fun y hy => hl y (.tail _ hy)) hmem ((hperm.map _).nodup_iff.mpr hn) (insR_asc (hl x (.head _)) ha hne h)
    exact ⟨this.1.trans hperm, this.2⟩
theorem sortR_ok {l : Roots} (hl : ∀ x ∈ l, Low x.1) (hn : (l.map (·.1)).Nodup) : (sortR l).Perm l ∧ Asc (sortR l) := by
  have := sortR_aux l [] hl (by simp) (by simpa using hn) (by simp)
  simpa [sortR] using this

/-! ### what rational_roots is given -/
structure RootsHyp (rs : List (Int × Int)) (Q : List Int) : Prop where
  low : ∀ y ∈ rs, Low y
  sm : ∀ y ∈ rs, y.1.natAbs ≤ 3 ∧ y.2.natAbs ≤ 3
  len : rs.length ≤ 8
  rootless : Rootless Q
  trim : Trim Q
  ne : Q ≠ []
  qlen : Q.length ≤ 8
  qb : ∀ c ∈ Q, c.natAbs ≤ 1000
  h0 : ((prodL (noZ rs) Q).getD 0 0).natAbs ≤ 1000
  hn : (lastD (prodL (noZ rs) Q)).natAbs ≤ 1000
theorem noZ_sub {rs : List (Int × Int)} : ∀ y ∈ noZ rs, y ∈ rs ∧ y.1 ≠ 0 := fun y hy => by
  simpa [noZ] using hy
/-- what has been met so far -/
noncomputable def one1 (R : List (Int × Int)) (x : Int × Int) : Option ((Int × Int) × Int) := if 0 < R.count x then some (x, (R.count x : Int)) else none
noncomputable def filt (R cs : List (Int × Int)) : Roots := cs.filterMap (one1 R)
theorem filt_snoc (R cs : List (Int × Int)) (x : Int × Int) : filt R (cs ++ [x]) = filt R cs ++ (if 0 < R.count x then [(x, (R.count x : Int))] else []) := by
  unfold filt
  rw [List.filterMap_append]
  congr 1
  by_cases h : 0 < R.count x
  · rw [if_pos h, List.filterMap_cons_some (f := one1 R) (if_pos h)]; rfl
  · rw [if_neg h, List.filterMap_cons_none (f := one1 R) (if_neg h)]; rfl
theorem mem_filt {R cs : List (Int × Int)} {x : Int × Int} {m : Int} : (x, m) ∈ filt R cs ↔ x ∈ cs ∧ 0 < R.count x ∧ m = R.count x := by
  unfold filt
  rw [List.mem_filterMap]
  constructor
  · rintro ⟨y, hy, e⟩
    unfold one1 at e
    by_cases h : 0 < R.count y
    · rw [if_pos h] at e
      cases e
      exact ⟨hy, h, rfl⟩
    · rw [if_neg h] at e; cases e
  · rintro ⟨h1, h2, rfl⟩
    exact ⟨x, h1, if_pos h2⟩
theorem filt_keys (R cs : List (Int × Int)) (h : cs.Nodup) : ((filt R cs).map (·.1)).Nodup := by
  have : (filt R cs).map (·.1) = cs.filter (fun x => decide (0 < R.count x)) := by
    unfold filt
    induction cs with
    | nil => rfl
    | cons x xs ih =>
      have ih := ih (List.nodup_cons.mp h).2
      by_cases q : 0 < R.count x
      · rw [List.filterMap_cons_some (f := one1 R) (if_pos q), List.filter_cons_of_pos (by exact decide_eq_true q), List.map_cons, ih]
      · rw [List.filterMap_cons_none (f := one1 R) (if_neg q), List.filter_cons_of_neg (by simpa using q), ih]
  rw [this]
  exact h.filter _
theorem count_noZ {rs : List (Int × Int)} {x : Int × Int} (h : x.1 ≠ 0) : (noZ rs).count x = rs.count x := by
  unfold noZ
  rw [List.count_filter]
  simpa using h
theorem count_noZ0 {rs : List (Int × Int)} {x : Int × Int} (h : x.1 = 0) : (noZ rs).count x = 0 := by
  rw [List.count_eq_zero]
  intro hx
  exact (noZ_sub x hx).2 h

theorem nodup_len {α : Type} [DecidableEq α] {a b : List α} (h : a.Nodup) (hs : ∀ x ∈ a, x ∈ b) : a.length ≤ b.length := by
  induction a generalizing b with
  | nil => simp
  | cons x xs ih =>
    rw [List.nodup_cons] at h
    have hx := hs x (.head _)
    have := ih (b := b.erase x) h.2 fun y hy => (List.mem_erase_of_ne (fun e => h.1 (by rw [← e]; exact hy))).mpr (hs y (.tail _ hy))
    have e := List.length_erase_of_mem hx
    have : 0 < b.length := List.length_pos_of_mem hx
    simp; omega
/-- a law of the roots -/
structure RootsOk (rs : List (Int × Int)) (l : Roots) : Prop where
  keys : (l.map (·.1)).Nodup
  mem : ∀ x m, (x, m) ∈ l ↔ 0 < rs.count x ∧ m = rs.count x
  asc : Asc l
noncomputable def F0 (z : Nat) : Roots := if 0 < z then [((0, 1), (z : Int))] else []
theorem roots_final {rs cs : List (Int × Int)} {Q : List Int} (h : RootsHyp rs Q) (hcs : cs.Nodup) (hcz : ∀ y ∈ noZ rs, y ∈ cs) :
    RootsOk rs (sortR (F0 (rs.count (0, 1)) ++ filt (noZ rs) cs)) ∧ (∀ r ∈ F0 (rs.count (0, 1)) ++ filt (noZ rs) cs, r.1 ∈ rs) ∧ ((F0 (rs.count (0, 1)) ++ filt (noZ rs) cs).map (·.1)).Nodup := by
  have hmem : ∀ x m, (x, m) ∈ F0 (rs.count (0, 1)) ++ filt (noZ rs) cs ↔ 0 < rs.count x ∧ m = rs.count x := by
    intro x m
    rw [List.mem_append, mem_filt]
    constructor
    · rintro (h1 | ⟨h1, h2, h3⟩)
      · unfold F0 at h1
        split at h1
        · rename_i hz
          simp only [List.mem_singleton, Prod.mk.injEq] at h1
          obtain ⟨rfl, rfl⟩ := h1
          exact ⟨hz, rfl⟩
        · cases h1
      · by_cases q : x.1 = 0
        · rw [count_noZ0 q] at h2; omega
        · rw [count_noZ q] at h2 h3
          exact ⟨h2, h3⟩
    · rintro ⟨h1, h2⟩
      have hx := List.count_pos_iff.mp h1
      by_cases q : x.1 = 0
      · left
        have := low_zero (h.low x hx) q
        subst this
        unfold F0
        rw [if_pos h1, h2]
        exact .head _
      · right
        have hn : x ∈ noZ rs := by simp [noZ, hx, q]
        exact ⟨hcz x hn, by rw [count_noZ q]; exact h1, by rw [count_noZ q]; exact h2⟩
  have hin : ∀ r ∈ F0 (rs.count (0, 1)) ++ filt (noZ rs) cs, r.1 ∈ rs := fun r hr => by
    obtain ⟨x, m⟩ := r
    exact List.count_pos_iff.mp ((hmem x m).mp hr).1
  have hkeys : ((F0 (rs.count (0, 1)) ++ filt (noZ rs) cs).map (·.1)).Nodup := by
    rw [List.map_append, List.nodup_append]
    refine ⟨by unfold F0; split <;> simp, filt_keys _ _ hcs, ?_⟩
    intro a ha b hb e
    subst e
    obtain ⟨⟨y, m⟩, hy, rfl⟩ := List.mem_map.mp hb
    have h2 := (mem_filt.mp hy).2.1
    unfold F0 at ha
    split at ha
    · simp at ha
      rw [show y = (0, 1) from ha, count_noZ0 rfl] at h2
      omega
    · cases ha
  obtain ⟨hperm, hasc⟩ := sortR_ok (fun r hr => h.low _ (hin r hr)) hkeys
  refine ⟨⟨(hperm.map _).nodup_iff.mpr hkeys, fun x m => ?_, hasc⟩, hin, hkeys⟩
  rw [hperm.mem_iff]
  exact hmem x m
end Mine
end

section
open PySem PySem.W PyProof.Rows
set_option maxRecDepth 100000
set_option linter.unusedVariables false

namespace Mine
/-- one argument, two arguments: what the binder makes of them -/
local macro_rules | `(tactic| walk_at "my bind1") => `(tactic| (intro pm code doc vs hv; match vs, hv with | [_], _ => rfl))
local macro_rules | `(tactic| walk_at "my bind2") => `(tactic| (intro pm code doc vs hv; match vs, hv with | [_, _], _ => rfl))
/-- one step of an expression -/
local macro_rules | `(tactic| walk_at "my e") => `(tactic| first
  | refine e_int ?_
  | refine e_bool ?_
  | refine e_var (by assumption) (.loc rfl) rfl rfl ?_
  | refine e_var (by assumption) (.cell _ rfl rfl) rfl rfl ?_
  | refine e_var (by assumption) (.free _ rfl rfl rfl) rfl rfl ?_
  | refine e_bin ?_
  | refine e_cmp rfl ?_
  | refine t_cmp rfl ?_
  | refine t_and ?_
  | refine t_or ?_
  | refine e_neg ?_
  | refine e_ifexp ?_
  | refine e_tup ?_
  | refine l_cons rfl ?_
  | refine l_nil ?_
  | refine e_item (fun _ _ => rfl) ?_
  | refine e_callF (by assumption) (bi_abs rfl) rfl rfl ?_
  | refine e_callF (by assumption) (bi_len rfl) rfl rfl ?_
  | refine e_callF (by assumption) (bi_max rfl) rfl rfl ?_
  | refine e_callF (by assumption) (bi_sorted rfl) rfl rfl ?_
  | refine e_callF (by assumption) (bi_sum rfl) rfl rfl ?_
  | refine e_callT (by assumption) (bi_range rfl) rfl rfl ?_
  | refine e_callT (by assumption) (bi_list rfl) rfl rfl ?_
  | refine e_callT (by assumption) (bi_reversed rfl) rfl rfl ?_
  | refine e_callT (by assumption) (bi_enumerate rfl) rfl rfl ?_
  | refine ⟨_, bin_add, ?_⟩
  | refine ⟨_, bin_sub, ?_⟩
  | refine ⟨_, cmp_eq, ?_⟩
  | refine ⟨_, cmp_ne, ?_⟩
  | refine ⟨_, cmp_lt, ?_⟩
  | refine ⟨_, cmp_le, ?_⟩
  | refine ⟨_, cmp_gt, ?_⟩
  | refine ⟨_, cmp_ge, ?_⟩
  | refine ⟨_, _, call_abs, ?_⟩
  | refine ⟨_, _, call_max (by assumption), ?_⟩
  | refine ⟨_, _, call_range1, ?_⟩
  | refine ⟨_, _, call_range2, ?_⟩)
local macro_rules | `(tactic| walk_at "my es") => `(tactic| (repeat walk_at "my e"))


theorem candidates_short {G : GE} {l : List Int} (hl : l.length ≤ 1) : FnSpec G d19 5 [polyPV l] [] (fun p c => p = .lst [] ∧ c = []) := by
  refine fn_intro d19_mem ["f"] (by decide) rfl (by walk_at "my bind1") rfl rfl rfl rfl ?_
  intro A L f pm code doc s₀ ok
  refine b_cons (x_if ?_)
  walk_at "my es"
  refine e_call ok d9_mem rfl rfl rfl rfl (k := 1) (by omega) ?_
  walk_at "my es"
  refine ⟨_, zdegree_spec (l := l) (by omega), ?_⟩
  rintro _ _ ⟨rfl, rfl⟩
  walk_at "my es"
  refine if_yes (decide_eq_true (by omega)) ?_
  refine b_cons (x_ret (e_list (l_nil ⟨by simp, rfl, rfl⟩)))

theorem candidates_all {G : GE} {rs : List (Int × Int)} {Q : List Int} (h : RootsHyp rs Q) :
    FnSpec G d19 5 [polyPV (prodL (noZ rs) Q)] [] (fun p c => (∃ cs : List (Int × Int), p = .lst (cs.map prPV) ∧ cs.Nodup ∧ (∀ x ∈ cs, GoodX x) ∧ (∀ y ∈ noZ rs, y ∈ cs) ∧ cs.length ≤ 100000) ∧ c = []) := by
  have hlen := prodL_length (noZ rs) Q
  have hq : 0 < Q.length := List.length_pos_iff.mpr h.ne
  have hn : (noZ rs).length ≤ rs.length := List.length_filter_le ..
  have h1 := h.len
  have h2 := h.qlen
  by_cases hs : (prodL (noZ rs) Q).length ≤ 1
  · refine (candidates_short hs).mono ?_
    rintro _ _ ⟨rfl, rfl⟩
    have : noZ rs = [] := List.length_eq_zero_iff.mp (by omega)
    exact ⟨⟨[], rfl, by simp, by simp, by simp [this], by simp⟩, rfl⟩
  · refine (candidates_spec (by omega) (by omega) rfl rfl ?_ ?_ h.h0 h.hn).mono ?_
    · exact prodL_head h.rootless h.ne fun y hy => (noZ_sub y hy).2
    · exact (prodL_trim (fun y hy => h.low y (noZ_sub y hy).1) h.trim h.ne).lastD (prodL_ne h.ne)
    · rintro _ _ ⟨⟨cs, rfl, hc, hl⟩, rfl⟩
      refine ⟨⟨cs, rfl, hc.nodup, hc.good, fun y hy => ?_, hl⟩, rfl⟩
      have hy' := noZ_sub y hy
      have hd := prodL_dvd h.ne hy
      have hlo := h.low y hy'.1
      exact hc.all y hlo.1 hlo.2 hy'.2 hd.1 hd.2

theorem nodup_take {α : Type} {l : List α} (h : l.Nodup) {i : Nat} {x : α} (hx : l[i]? = some x) : x ∉ l.take i := by
  intro hm
  obtain ⟨j, hj⟩ := List.mem_iff_getElem?.mp hm
  have hji : j < i := by
    have := (List.getElem?_eq_some_iff.mp hj).1
    rw [List.length_take] at this; omega
  rw [List.getElem?_take_of_lt hji] at hj
  have := (List.getElem?_inj (List.getElem?_eq_some_iff.mp hj).1 h).mp (hj.trans hx.symm)
  omega
set_option maxHeartbeats 4000000 in
theorem rational_roots_spec {G : GE} {rs : List (Int × Int)} {Q : List Int} (h : RootsHyp rs Q) :
    FnSpec G d18 6 [polyPV (prodL rs Q)] [] (fun p c => (∃ l, p = .lst (l.map rootPV) ∧ RootsOk rs l) ∧ c = []) := by
  have hlen := prodL_length (noZ rs) Q
  have hq : 0 < Q.length := List.length_pos_iff.mpr h.ne
  have hn : (noZ rs).length ≤ rs.length := List.length_filter_le ..
  have h1 := h.len
  have h2 := h.qlen
  have hz : rs.count (0, 1) ≤ rs.length := List.count_le_length
  have hg0 : (prodL (noZ rs) Q).getD 0 0 ≠ 0 := prodL_head h.rootless h.ne fun y hy => (noZ_sub y hy).2
  have hgne : prodL (noZ rs) Q ≠ [] := prodL_ne h.ne
  have hf := prodL_strip Q h.low
  rw [hf]
  generalize hzd : rs.count (0, 1) = z at hf hz
  refine fn_intro d18_mem ["f"] (by decide) rfl (by walk_at "my bind1") rfl rfl rfl rfl ?_
  intro A L f pm code doc s₀ ok
  refine b_cons (x_assignT ok ["left", "found"] (wr2 (.loc rfl) (.loc rfl)) rfl rfl ?_)
  refine e_tup ?_
  walk_at "my es"
  refine e_listO (l_nil ⟨by simp, fun ad => l_nil ?_⟩)
  refine ⟨by simp, _, rfl, rfl, ?_⟩
  have rest : ∀ F : Roots, F = F0 z → wpB (fnCx G d18 A L f pm code doc s₀) (d18.body.drop 3) (fun fl S' => match fl with
      | .ret pv => (∃ l, pv = PV.lst (l.map rootPV) ∧ RootsOk rs l) ∧ S'.cel = []
      | .next => (∃ l, PV.none = PV.lst (l.map rootPV) ∧ RootsOk rs l) ∧ S'.cel = []
      | _ => False) ⟨[("f", polyPV (List.replicate z 0 ++ prodL (noZ rs) Q)), ("found", .ptr ad), ("left", polyPV (prodL (noZ rs) Q))], [(ad, .lst (F.map rootPV))]⟩ := by
    intro F hF
    have hFl : F.length ≤ 1 := by rw [hF]; unfold F0; split <;> simp
    refine b_cons (x_for (fun _ => rfl) (i_val ?_))
    refine e_call ok d19_mem rfl rfl rfl rfl (k := 5) (by omega) ?_
    walk_at "my es"
    refine ⟨_, candidates_all h, ?_⟩
    rintro _ _ ⟨⟨cs, rfl, hcn, hcg, hcz, hcl⟩, rfl⟩
    refine ⟨_, iter_lst ok, fun i S => ∃ r0 : List (Int × Int), S = ⟨[("f", polyPV (List.replicate z 0 ++ prodL (noZ rs) Q)), ("found", .ptr ad), ("left", polyPV (prodL r0 Q))], [(ad, .lst ((F ++ filt (noZ rs) (cs.take i)).map rootPV))]⟩ ∧
      (∀ y ∈ r0, y ∈ noZ rs) ∧ r0.length ≤ 8 ∧ (∀ y, r0.count y = if y ∈ cs.take i then 0 else (noZ rs).count y), ⟨noZ rs, by simp [filt], fun _ hy => hy, by omega, by simp⟩, ?_, ?_, ?_⟩
    · rintro i S' ⟨r0, rfl, _⟩; rfl
    · rintro i p S1 hp ⟨r0, rfl, hsub, hl8, hcnt⟩
      simp only [List.getElem?_map, Option.map_eq_some_iff] at hp
      obtain ⟨x, hx, rfl⟩ := hp
      have hgx := hcg x (List.mem_of_getElem? hx)
      have hlow : Low x := ⟨hgx.pos, hgx.low⟩
      have hxi := nodup_take hcn hx
      have hcx : r0.count x = (noZ rs).count x := by rw [hcnt, if_neg hxi]
      have htake : cs.take (i + 1) = cs.take i ++ [x] := by rw [List.take_add_one, hx]; rfl
      have hbig : (F ++ filt (noZ rs) (cs.take i)).length ≤ 1000000 := by
        have : (filt (noZ rs) (cs.take i)).length ≤ (cs.take i).length := List.length_filterMap_le ..
        rw [List.length_append]
        rw [List.length_take] at this
        omega
      have hR : ∀ y ∈ noZ rs, Low y ∧ y.1.natAbs ≤ 3 ∧ y.2.natAbs ≤ 3 := fun y hy => ⟨h.low y (noZ_sub y hy).1, h.sm y (noZ_sub y hy).1⟩
      refine ⟨_, asg_name ok (.loc rfl), ?_⟩
      refine b_cons (x_assign ok (.loc rfl) rfl ?_)
      walk_at "my es"
      refine b_cons (x_while (fun k S => ∃ (r : List (Int × Int)) (m : Nat), S = ⟨[("f", polyPV (List.replicate z 0 ++ prodL (noZ rs) Q)), ("found", .ptr ad), ("left", polyPV (prodL r Q)), ("x", prPV x), ("many", .int m)], [(ad, .lst ((F ++ filt (noZ rs) (cs.take i)).map rootPV))]⟩ ∧
        (∀ y ∈ r, y ∈ r0) ∧ r.length ≤ 8 ∧ (∀ y, y ≠ x → r.count y = r0.count y) ∧ r.count x + m = r0.count x ∧ k = r.length) _ ⟨r0, 0, rfl, fun _ hy => hy, hl8, fun _ _ => rfl, rfl, rfl⟩ ?_)
      rintro k S ⟨r, m, rfl, hr1, hr8, hr2, hr3, rfl⟩
      have hrl := prodL_length r Q
      have hrR : ∀ y ∈ r, Low y ∧ y.1.natAbs ≤ 3 ∧ y.2.natAbs ≤ 3 := fun y hy => hR y (hsub y (hr1 y hy))
      have hroot := prodL_root h.rootless (fun y hy => (hrR y hy).1) hlow
      have hbound : ∀ c ∈ prodL r Q, Sm c := fun c hc => by
        have q1 := prodL_bound (fun y hy => (hrR y hy).2) h.qb c hc
        have q2 : 6 ^ r.length ≤ 6 ^ 8 := Nat.pow_le_pow_right (by omega) hr8
        have q3 : 6 ^ r.length * 1000 ≤ 6 ^ 8 * 1000 := Nat.mul_le_mul_right _ q2
        unfold Sm; omega
      walk_at "my es"
      refine e_call ok d9_mem rfl rfl rfl rfl (k := 1) (by omega) ?_
      walk_at "my es"
      refine ⟨_, zdegree_spec (l := prodL r Q) (by omega), ?_⟩
      rintro _ _ ⟨rfl, rfl⟩
      walk_at "my es"
      by_cases hxr : x ∈ r
      · have hr0 : 0 < r.length := List.length_pos_iff.mpr (fun e => by rw [e] at hxr; cases hxr)
        refine if_yes (decide_eq_true (by omega)) ?_
        walk_at "my es"
        refine e_call ok d7_mem rfl rfl rfl rfl (k := 2) (by omega) ?_
        walk_at "my es"
        refine ⟨_, value_sign_spec (l := prodL r Q) (x := x) (by omega) (by have := hgx.sm1; unfold Sm; omega) (by have := hgx.sm2; unfold Sm; omega) hbound, ?_⟩
        rintro _ _ ⟨rfl, rfl⟩
        walk_at "my es"
        rw [hroot.mpr hxr]
        refine if_yes (show (((if (0 : Int) > 0 then 1 else 0 : Int) - (if (0 : Int) < 0 then 1 else 0)) == 0) = true from rfl) ?_
        have hel : (r.erase x).length = r.length - 1 := List.length_erase_of_mem hxr
        have hz := zexact_spec (G := G) (p := x.1) (q := x.2) (c := prodL (r.erase x) Q) (by rw [prodL_length]; omega) (prodL_ne h.ne) (prodL_trim (fun y hy => (hrR y (List.mem_of_mem_erase hy)).1) h.trim h.ne) (by have := hgx.pos; omega) (by have := hgx.sm2; omega) (by have := hgx.sm1; unfold Sm; omega)
        rw [← prodL_erase Q hxr] at hz
        refine b_cons (x_assign ok (.loc rfl) rfl ?_)
        refine e_call ok d16_mem rfl rfl rfl rfl (k := 4) (by omega) ?_
        walk_at "my es"
        refine e_call ok d17_mem rfl rfl rfl rfl (k := 1) (by omega) ?_
        walk_at "my es"
        refine ⟨_, linear_of_spec (x := x), ?_⟩
        rintro _ _ ⟨rfl, rfl⟩
        walk_at "my es"
        refine ⟨_, hz, ?_⟩
        rintro _ _ ⟨rfl, rfl⟩
        refine b_cons (x_aug ok (.loc rfl) (.loc rfl) rfl ?_)
        walk_at "my es"
        refine ⟨_, _, rfl, rfl, .inl ⟨rfl, ?_⟩⟩
        have hc1 : 0 < r.count x := List.count_pos_iff.mpr hxr
        refine b_nil ⟨(r.erase x).length, by omega, r.erase x, m + 1, rfl, fun y hy => hr1 y (List.mem_of_mem_erase hy), by omega, fun y hy => ?_, ?_, rfl⟩
        · rw [List.count_erase_of_ne hy]; exact hr2 y hy
        · rw [List.count_erase_self]; omega
      · have hc0 : r.count x = 0 := List.count_eq_zero.mpr hxr
        have hmc : (m : Int) = (noZ rs).count x := by omega
        have hcnt' : ∀ y, r.count y = if y ∈ cs.take (i + 1) then 0 else (noZ rs).count y := fun y => by
          by_cases e : y = x
          · subst e
            rw [hc0, htake, if_pos (by simp)]
          · rw [hr2 y e, hcnt y, htake]
            simp [e]
        by_cases hshort : (prodL r Q).length ≤ 1
        · refine if_no (decide_eq_false (by omega)) (if_no rfl ?_)
          refine b_cons (x_if ?_)
          walk_at "my es"
          by_cases hm : 0 < m
          · refine if_yes (decide_eq_true (by omega)) ?_
            refine b_cons (x_expr ok rfl (e_methL rfl rfl rfl PySem.F.slot_list_append PySem.F.type_list_append rfl rfl ?_))
            walk_at "my es"
            refine ⟨ad, _, rfl, .head _, ?_⟩
            walk_at "my es"
            refine ⟨by simp, ?_⟩
            refine l_nil ⟨_, _, call_append .head (by rw [List.length_map]; exact hbig), rfl, ?_⟩
            refine b_nil (b_keep 3 (b_nil ⟨r, ?_, fun y hy => hsub y (hr1 y hy), by omega, hcnt'⟩))
            have hlist : (F ++ filt (noZ rs) (cs.take (i + 1))).map rootPV = (F ++ filt (noZ rs) (cs.take i)).map rootPV ++ [rootPV (x, (m : Int))] := by
              rw [htake, filt_snoc, if_pos (by omega), ← hmc, ← List.append_assoc, List.map_append]; rfl
            rw [hlist]
            rfl
          · refine if_no (decide_eq_false (by omega)) ?_
            refine b_nil (b_keep 3 (b_nil ⟨r, ?_, fun y hy => hsub y (hr1 y hy), by omega, hcnt'⟩))
            have hlist : (F ++ filt (noZ rs) (cs.take (i + 1))).map rootPV = (F ++ filt (noZ rs) (cs.take i)).map rootPV := by
              rw [htake, filt_snoc, if_neg (by omega), List.append_nil]
            rw [hlist]
            rfl
        · refine if_yes (decide_eq_true (by omega)) ?_
          walk_at "my es"
          refine e_call ok d7_mem rfl rfl rfl rfl (k := 2) (by omega) ?_
          walk_at "my es"
          refine ⟨_, value_sign_spec (l := prodL r Q) (x := x) (by omega) (by have := hgx.sm1; unfold Sm; omega) (by have := hgx.sm2; unfold Sm; omega) hbound, ?_⟩
          rintro _ _ ⟨rfl, rfl⟩
          walk_at "my es"
          have hv : valF x.1 x.2 (prodL r Q) ≠ 0 := fun e => hxr (hroot.mp e)
          generalize valF x.1 x.2 (prodL r Q) = v at hv
          have hdec : (((if v > 0 then 1 else 0 : Int) - (if v < 0 then 1 else 0)) == 0) = false := by
            rcases Int.lt_or_gt_of_ne hv with q | q
            · rw [if_neg (show ¬ v > 0 by omega), if_pos q]; rfl
            · rw [if_pos q, if_neg (show ¬ v < 0 by omega)]; rfl
          refine if_no hdec ?_
          refine b_cons (x_if ?_)
          walk_at "my es"
          by_cases hm : 0 < m
          · refine if_yes (decide_eq_true (by omega)) ?_
            refine b_cons (x_expr ok rfl (e_methL rfl rfl rfl PySem.F.slot_list_append PySem.F.type_list_append rfl rfl ?_))
            walk_at "my es"
            refine ⟨ad, _, rfl, .head _, ?_⟩
            walk_at "my es"
            refine ⟨by simp, ?_⟩
            refine l_nil ⟨_, _, call_append .head (by rw [List.length_map]; exact hbig), rfl, ?_⟩
            refine b_nil (b_keep 3 (b_nil ⟨r, ?_, fun y hy => hsub y (hr1 y hy), by omega, hcnt'⟩))
            have hlist : (F ++ filt (noZ rs) (cs.take (i + 1))).map rootPV = (F ++ filt (noZ rs) (cs.take i)).map rootPV ++ [rootPV (x, (m : Int))] := by
              rw [htake, filt_snoc, if_pos (by omega), ← hmc, ← List.append_assoc, List.map_append]; rfl
            rw [hlist]
            rfl
          · refine if_no (decide_eq_false (by omega)) ?_
            refine b_nil (b_keep 3 (b_nil ⟨r, ?_, fun y hy => hsub y (hr1 y hy), by omega, hcnt'⟩))
            have hlist : (F ++ filt (noZ rs) (cs.take (i + 1))).map rootPV = (F ++ filt (noZ rs) (cs.take i)).map rootPV := by
              rw [htake, filt_snoc, if_neg (by omega), List.append_nil]
            rw [hlist]
            rfl
    · rintro S1 ⟨r0, rfl, _, _, _⟩
      rw [List.length_map, List.take_length]
      have hfin := roots_final h hcn hcz
      rw [hzd, ← hF] at hfin
      refine b_cons (x_ret ?_)
      refine e_call ok d20_mem rfl rfl rfl rfl (k := 2) (by omega) ?_
      refine l_cons rfl (e_freeze ?_)
      walk_at "my es"
      refine ⟨ad, _, _, rfl, .head, ?_⟩
      walk_at "my es"
      refine ⟨_, sorted_roots_spec (l := F ++ filt (noZ rs) cs) ?_ (fun r hr => ?_), ?_⟩
      · have q1 := nodup_len hfin.2.2 (fun a ha => by
          obtain ⟨r, hr, rfl⟩ := List.mem_map.mp ha
          exact hfin.2.1 r hr)
        rw [List.length_map] at q1
        omega
      · have := h.sm _ (hfin.2.1 r hr)
        unfold Sm; omega
      rintro _ _ ⟨rfl, rfl⟩
      exact ⟨⟨_, rfl, hfin.1⟩, rfl⟩
  refine b_cons (x_while (fun k S => S = ⟨[("f", polyPV (List.replicate z 0 ++ prodL (noZ rs) Q)), ("found", .ptr ad), ("left", polyPV (List.replicate k 0 ++ prodL (noZ rs) Q))], [(ad, .lst [])]⟩ ∧ k ≤ z) z ⟨rfl, Nat.le_refl _⟩ ?_)
  rintro k S ⟨rfl, hk⟩
  walk_at "my es"
  refine ⟨_, _, call_len_lst (by simp; omega), ?_⟩
  walk_at "my es"
  refine if_yes (decide_eq_true (by simp; omega)) ?_
  walk_at "my es"
  have hget : ((List.replicate k 0 ++ prodL (noZ rs) Q).map PV.int)[0]? = some (.int ((List.replicate k 0 ++ prodL (noZ rs) Q).getD 0 0)) := poly_get (by simp; omega)
  refine ⟨_, item_lst (by decide) (by decide) (j := 0) (seqIndex_nat rfl (by simp; omega)) hget, ?_⟩
  walk_at "my es"
  cases k with
  | succ k =>
    refine if_yes (show ((List.replicate (k + 1) (0 : Int) ++ prodL (noZ rs) Q).getD 0 0 == (0 : Int)) = true by simp [List.replicate_succ]) ?_
    refine b_cons (x_assign ok (.loc rfl) rfl (e_slice ?_))
    walk_at "my es"
    refine ⟨_, rfl, by simp; omega, ?_⟩
    dsimp only
    walk_at "my es"
    refine ⟨1, rfl, by simp; omega, ?_⟩
    refine b_nil ⟨k, by omega, ?_, by omega⟩
    rw [List.replicate_succ]; rfl
  | zero =>
    refine if_no (show ((List.replicate 0 (0 : Int) ++ prodL (noZ rs) Q).getD 0 0 == (0 : Int)) = false by simpa using hg0) ?_
    refine b_cons (x_if ?_)
    walk_at "my es"
    refine ⟨_, _, call_len_lst (by simp; omega), ?_⟩
    walk_at "my es"
    refine ⟨_, _, call_len_lst (by simp; omega), ?_⟩
    walk_at "my es"
    by_cases hz0 : 0 < z
    · refine if_yes (decide_eq_true (by simp; omega)) ?_
      refine b_cons (x_expr ok rfl (e_methL rfl rfl rfl PySem.F.slot_list_append PySem.F.type_list_append rfl rfl ?_))
      walk_at "my es"
      refine ⟨ad, _, rfl, .head _, ?_⟩
      walk_at "my es"
      refine ⟨by simp, ?_⟩
      walk_at "my es"
      refine ⟨_, _, call_len_lst (by simp; omega), ?_⟩
      walk_at "my es"
      refine ⟨_, _, call_len_lst (by simp; omega), ?_⟩
      walk_at "my es"
      refine ⟨by simp, ?_⟩
      refine l_nil ⟨_, _, call_append .head (by simp), rfl, ?_⟩
      refine b_nil ?_
      have e : (((List.replicate z 0 ++ prodL (noZ rs) Q).map PV.int).length : Int) - (((List.replicate 0 0 ++ prodL (noZ rs) Q).map PV.int).length : Int) = z := by simp
      rw [e]
      exact rest [((0, 1), (z : Int))] (by unfold F0; rw [if_pos hz0])
    · refine if_no (decide_eq_false (by simp; omega)) ?_
      exact b_nil (rest [] (by unfold F0; rw [if_neg hz0]))
end Mine
end

section
open PySem PySem.W PyProof.Rows
set_option maxRecDepth 100000
set_option linter.unusedVariables false

namespace Mine
variable {C : Cx} {S : Store} {base : Lk}

/-! ### the draws: a dict of two numbers -/
theorem str_ne : (Str.ofString "great" = Str.ofString "mixed") = False := by decide
theorem str_ne' : (Str.ofString "mixed" = Str.ofString "great") = False := by decide
theorem item_great {a : Addr} {g m : Int} (hm : (a, Cont.draws g m) ∈ S.cel) : ItemOk C S (.ptr a) (.str "great") (.int g) := by
  refine .mk fun s look base v j hs hv hj => ?_
  cases hv
  cases hj with
  | str _ t =>
    obtain ⟨q, kvs, hd, t1, t2, rfl⟩ := hs.own a _ hm
    exact ⟨"dict", _, hd.typeIs, slot_dict_getitem.lookup, wpAny_getItem_of (k := Str.ofString "great") (by simp [PySem.strKind, Value.isStrOf]) hd.mapOf (v := .int g t1) (by simp [valueAt]) ⟨look, Ext.refl _ _, hs.tok _, .int _ _⟩⟩
theorem item_mixed {a : Addr} {g m : Int} (hm : (a, Cont.draws g m) ∈ S.cel) : ItemOk C S (.ptr a) (.str "mixed") (.int m) := by
  refine .mk fun s look base v j hs hv hj => ?_
  cases hv
  cases hj with
  | str _ t =>
    obtain ⟨q, kvs, hd, t1, t2, rfl⟩ := hs.own a _ hm
    exact ⟨"dict", _, hd.typeIs, slot_dict_getitem.lookup, wpAny_getItem_of (k := Str.ofString "mixed") (by simp [PySem.strKind, Value.isStrOf]) hd.mapOf (v := .int m t2) (by simp [valueAt, str_ne]) ⟨look, Ext.refl _ _, hs.tok _, .int _ _⟩⟩
theorem set_great {a : Addr} {g m g' : Int} {cel' : List (Addr × Cont)} (u : CUpd a (.draws g m) (.draws g' m) S.cel cel') : SetOk C S (.ptr a) (.str "great") (.int g') { S with cel := cel' } := by
  refine .mk fun s look base x j y hs hx hj hy => ?_
  cases hx
  cases hj with
  | str _ t =>
    cases hy with
    | int _ t' =>
      obtain ⟨q, kvs, hd, t1, t2, rfl⟩ := hs.own a _ u.mem
      refine wpAny_setItem_pairs (k := Str.ofString "great") (by simp [PySem.strKind, Value.isStrOf]) hd (fun h' hd' hsb => ?_) (by rw [sizeLine_eq]; simp)
      exact ⟨look, Ext.refl _ _, hs.upd u hsb ⟨q, _, hd', t', t2, by simp [stored, str_ne, str_ne']⟩⟩
theorem set_mixed {a : Addr} {g m m' : Int} {cel' : List (Addr × Cont)} (u : CUpd a (.draws g m) (.draws g m') S.cel cel') : SetOk C S (.ptr a) (.str "mixed") (.int m') { S with cel := cel' } := by
  refine .mk fun s look base x j y hs hx hj hy => ?_
  cases hx
  cases hj with
  | str _ t =>
    cases hy with
    | int _ t' =>
      obtain ⟨q, kvs, hd, t1, t2, rfl⟩ := hs.own a _ u.mem
      refine wpAny_setItem_pairs (k := Str.ofString "mixed") (by simp [PySem.strKind, Value.isStrOf]) hd (fun h' hd' hsb => ?_) (by rw [sizeLine_eq]; simp)
      exact ⟨look, Ext.refl _ _, hs.upd u hsb ⟨q, _, hd', t1, t', by simp [stored, str_ne, str_ne']⟩⟩

/-- the display of the draws -/
theorem e_draws {n : Nat} (ok : C.Ok n) {k1 k2 v1 v2 : Expr} {pos : Pos} {K : PV → Store → Prop}
    (h : ∀ a, wpE C k1 (fun x S1 => x = .str "great" ∧ wpE C v1 (fun y S2 => ∃ g, y = .int g ∧ wpE C k2 (fun z S3 => z = .str "mixed" ∧ wpE C v2 (fun w S4 => ∃ m cel', w = .int m ∧ CUpd a (.met []) (.draws g m) S4.cel cel' ∧ K (.ptr a) { S4 with cel := cel' }) S3) S2) S1)
      { S with cel := (a, .met []) :: S.cel }) : wpE C (.Dict [some k1, some k2] [v1, v2] pos) K S := by
  refine .mk fun s look base hs => ?_
  refine wpAny_Dict_pairs (knd := PySem.strKind C.G.prog C.G.w) (pairs := [(eval k1 C.env, do let x ← eval v1 C.env; standAt pos; pure x), (eval k2 C.env, do let x ← eval v2 C.env; standAt pos; pure x)]) rfl (by simp) (by simp) ?_
  have p := hs.own1 { cls := .type "dict", data := .dict #[] } (.met []) (tk := s.toks) ⟨hs.sizeNe, [], Heap.DictOfH.new _, rfl, fun _ _ _ e => by simp at e⟩
  unfold evalPairs
  refine wpAny_bind (wpAny_mono ((h _).run _ look base p) ?_ fun _ _ x => x.elim)
  rintro u1 s1 ⟨x, S1, l1, ⟨rfl, h1⟩, le1, st1, r1⟩
  refine wpAny_bind (wpAny_holding (wpAny_bind (wpAny_mono (h1.run _ l1 base st1) ?_ fun _ _ x => x.elim)))
  rintro u2 s2 ⟨y, S2, l2, ⟨g, rfl, h2⟩, le2, st2, r2⟩
  refine wpAny_bind (wpAny_standAt (wpAny_pure ?_))
  unfold evalPairs
  refine wpAny_bind (wpAny_holding (wpAny_bind (wpAny_mono (h2.run _ l2 base st2) ?_ fun _ _ x => x.elim)))
  rintro u3 s3 ⟨z, S3, l3, ⟨rfl, h3⟩, le3, st3, r3⟩
  refine wpAny_bind (wpAny_holding (wpAny_bind (wpAny_mono (h3.run _ l3 base st3) ?_ fun _ _ x => x.elim)))
  rintro u4 s4 ⟨w, S4, l4, ⟨m, cel', rfl, hu, hK⟩, le4, st4, r4⟩
  refine wpAny_bind (wpAny_standAt (wpAny_pure ?_))
  unfold evalPairs
  refine wpAny_bind (wpAny_holding (wpAny_pure (wpAny_pure (wpAny_pure ?_))))
  cases r1 with
  | str _ t1 =>
    cases r2 with
    | int _ t2 =>
      cases r3 with
      | str _ t3 =>
        cases r4 with
        | int _ t4 =>
          refine ⟨[(Str.ofString "great", .int g t2), (Str.ofString "mixed", .int m t4)], ⟨by simp [PySem.strKind, Value.isStrOf], rfl, by simp [PySem.strKind, Value.isStrOf], rfl, trivial⟩, ?_, ?_⟩
          · obtain ⟨_, xs, ⟨o, es, ep, ho, he, hdt, hes, _⟩, hl, _⟩ := st4.own _ _ hu.mem
            have hxs : xs = [] := by simpa using hl
            subst hxs
            have hes0 : es = #[] := by simpa using hes
            subst hes0
            exact ⟨o, #[], ep, ho, he, hdt, by intro e he; simp at he, .nil, by simp⟩
          · intro h' hd hsb
            refine ⟨.ptr s.heap.objs.size, _, l4, hK, le1.trans (le2.trans (le3.trans le4)), st4.upd hu hsb ⟨hs.sizeNe, _, hd, t2, t4, by simp [merged, stored, str_ne, str_ne']⟩, .ptr _⟩
end Mine
end

section
open PySem PySem.W PyProof.Rows
set_option maxRecDepth 100000
set_option linter.unusedVariables false

namespace Mine
variable {C : Cx} {S : Store} {base : Lk}

/-- as St.move; what was written may have been frozen -/
theorem St.moveW {look : Lk} {s : Shared} (h : St C base S look s) (wr : List Addr) (w1 : ∀ b ∈ wr, base b = none) (w2 : ∀ b ∈ wr, look b = none) (w3 : C.env.locals ∉ wr) (w4 : ∀ a k, (a, k) ∈ S.cel → a ∉ wr)
    (w5 : ∀ x c, C.env.cells.lookup x = some c → c ∉ wr) {h' : Heap} {tk : Nat} {look' : Lk} (hk' : ∀ b o, b ∉ wr → s.heap.get? b = some o → h'.get? b = some o) (hl : Le look look')
    (hs : ∀ b o, look' b = some o → h'.get? b = some o) (hn : ∀ b o, look' b = some o → (∃ o', look b = some o') ∨ s.heap.get? b = none ∨ b ∈ wr) : St C base S look' { s with heap := h', toks := tk } := by
  have hk : ∀ b o, (look b = some o ∨ base b = some o) → s.heap.get? b = some o → h'.get? b = some o := fun b o q e => by
    refine hk' b o ?_ e
    rcases q with q | q
    · intro w; rw [w2 b w] at q; cases q
    · intro w; rw [w1 b w] at q; cases q
  have nl : ∀ {a}, look a = none → (∃ o, s.heap.get? a = some o) → a ∉ wr → look' a = none := fun {a} e ⟨o, ho⟩ hw => by
    cases q : look' a with
    | none => rfl
    | some o' =>
      rcases hn a o' q with ⟨o'', h2⟩ | h2 | h2
      · rw [e] at h2; cases h2
      · rw [ho] at h2; cases h2
      · exact absurd h2 hw
  refine ⟨?_, h.top, fun b o e => hk b o (.inr e) (h.keep b o e), hs, ?_, ?_, ?_, h.nodup, ?_, ?_, ?_⟩
  · obtain ⟨h₁, tk₁, e⟩ := h.same; exact ⟨h', tk, by rw [e]⟩
  · obtain ⟨m, hn', hv⟩ := h.vars
    exact ⟨m, hn'.at' fun o e => hk' _ o w3 e, fun x pv e1 e2 => let ⟨v, e3, r⟩ := hv x pv e1 e2; ⟨v, e3, r.mono hl⟩⟩
  · intro x c e
    obtain ⟨ov, hc, hv⟩ := h.cellv x c e
    exact ⟨ov, let ⟨o, ho, hd⟩ := hc; ⟨o, hk' c o (w5 x c e) ho, hd⟩, fun nl pv e1 => let ⟨v, e3, r⟩ := hv nl pv e1; ⟨v, e3, r.mono hl⟩⟩
  · exact fun a k e => (h.own a k e).keeps hl h.sub (fun o q => hk' a o (w4 a k e) q) fun b o q => hk _ _ (.inl q) (h.sub _ _ q)
  · intro a k e
    obtain ⟨⟨f1, f2⟩, r⟩ := h.ownFree a k e
    exact ⟨⟨nl f1 (h.own a k e).some (w4 a k e), f2⟩, r⟩
  · exact ⟨nl h.locFree.1 (let ⟨_, n, _⟩ := h.vars; let ⟨o, _, _, ho, _⟩ := n; ⟨o, ho⟩) w3, h.locFree.2⟩
  · intro wc x c e e2
    obtain ⟨⟨f1, f2⟩, r⟩ := h.cellFree wc x c e e2
    obtain ⟨ov, ⟨o, ho, _⟩, _⟩ := h.cellv x c e
    exact ⟨⟨nl f1 ⟨o, ho⟩ (w5 x c e), f2⟩, r⟩

/-- a call of a def that is handed one owned object -/
theorem e_callO {n : Nat} (ok : C.Ok (n + 1)) {d : DefRec} (hd : d ∈ myDefs) {p pos : Pos} {x : Str} {e : Expr} {rest : List Expr} {K : PV → Store → Prop} (hx : x = d.name) (hkind : C.env.kindOf x = some .globalImplicit) (hdb : (x == ("__debug__" : Str)) = false)
    (he : starEach (e :: rest) C.env = (false, eval e C.env) :: starEach rest C.env) {k : Nat} (hk : k ≤ n + 1)
    (h : wpL C (e :: rest) (fun pvs S1 => ∃ a c cel' R, CDel a c S1.cel cel' ∧ FnSpec C.G d k pvs [(a, c)] R ∧ ∀ pv cout, R pv cout → K pv { S1 with cel := cout ++ cel' }) S) : wpE C (.Call (.Name x p) (e :: rest) [] pos) K S := by
  subst hx
  refine .mk fun s look base hs => ?_
  obtain ⟨f, o, pm, code, doc, e1, e2, e3, e4⟩ := C.G.top.fn d (C.G.fns d hd)
  have keep : ∀ {s : Shared} {S : Store} {look : Lk}, St C base S look s → ∀ b o, C.G.h₀.get? b = some o → s.heap.get? b = some o := fun hs b o e => hs.keep b o (hs.top b o e)
  refine Call_ (Calls.Name_function_global ok.kind hkind (Calls.loadGlobal_global (by rw [ok.glob]; exact C.G.top.g.keeps (keep hs)) e1 ?_) hdb) rfl
  refine callWith_def e3 (wpAny_mono (h.run s look base pos hs) ?_ fun _ _ x => x) he
  rintro vs s1 ⟨pvs, S1, l1, ⟨a, c, cel', R, hdel, hfn, hK⟩, le1, st1, r1⟩
  refine ⟨keep st1 _ _ e2, ?_⟩
  have fa := st1.ownFree a c hdel.mem
  have h0a : C.G.h₀.get? a = none := by
    cases q : C.G.h₀.get? a with
    | none => rfl
    | some o' => have := st1.top _ _ q; rw [fa.1.2] at this; cases this
  refine wpAny_mono (hfn C.A s1 l1 vs f e1 ok.hand (by have := ok.depth; omega) (by have := ok.units; omega) (keep st1) st1.sub r1 (fun b c' hb => by
    rw [List.mem_singleton] at hb; cases hb
    exact ⟨st1.own a c hdel.mem, fa.1.1, h0a⟩) (by simp)) ?_ fun _ _ x => x
  rintro v s2 ⟨pv, cout, l2, hR, ⟨h', tk, rfl⟩, hkeep, hle, hsub, hgrow, hrep, hcout, hcn⟩
  have mem1 : ∀ b, b ∈ [(a, c)].map (·.1) ↔ b = a := fun b => by simp
  have hk' : ∀ b o, b ∉ [a] → s1.heap.get? b = some o → h'.get? b = some o := fun b o hb e => hkeep b o (fun q => hb (by rw [(mem1 b).mp q]; exact List.mem_singleton.mpr rfl)) e
  have stD : St C base ⟨S1.vs, cel'⟩ l1 s1 := st1.drop _ hdel.sub
  have sing : ∀ {b}, b ∈ [a] → b = a := fun hb => List.mem_singleton.mp hb
  have st2 : St C base ⟨S1.vs, cel'⟩ l2 { s1 with heap := h', toks := tk } := stD.moveW [a] (fun b hb => by rw [sing hb]; exact fa.1.2) (fun b hb => by rw [sing hb]; exact fa.1.1) (fun hb => fa.2.1 (sing hb).symm)
    (fun b k e hb => hdel.ne st1.nodup e (sing hb)) (fun x c' e hb => fa.2.2 x c' e (sing hb).symm) hk' hle hsub fun b o e => (hgrow b o e).imp (fun q => ⟨o, q⟩) fun q => q.imp id fun q => by rw [(mem1 b).mp q]; exact List.mem_singleton.mpr rfl
  have ext : Ext base l1 l2 := ⟨hle, fun b o e => (hgrow b o e).imp id fun q => q.elim (fun q => by
    cases w : base b with
    | none => rfl
    | some o' => rw [st1.keep b o' w] at q; cases q) fun q => by rw [(mem1 b).mp q]; exact fa.1.2⟩
  have apart : ∀ b c', (b, c') ∈ cout → base b = none ∧ b ≠ C.env.locals ∧ (∀ a' k', (a', k') ∈ cel' → a' ≠ b) ∧ ∀ x c, C.env.cells.lookup x = some c → b ≠ c := fun b c' e => by
    rcases (hcout b c' e).2.2 with q | q
    · rw [(mem1 b).mp q]
      exact ⟨fa.1.2, fa.2.1, fun a' k' e' => hdel.ne st1.nodup e', fa.2.2⟩
    · have ap := st1.newApart q
      exact ⟨ap.1, Ne.symm ap.2.2.1, fun a' k' e' => ap.2.2.2.1 a' k' (hdel.sub.subset e'), fun x c e' => Ne.symm (ap.2.2.2.2 x c e')⟩
  refine ⟨pv, _, l2, hK pv cout hR, le1.trans ext, ⟨st2.same, st2.top, st2.keep, st2.sub, st2.vars, st2.cellv, ?_, ?_, ?_, st2.locFree, st2.cellFree⟩, hrep⟩
  · intro b c' e
    rcases List.mem_append.mp e with e | e
    · exact (hcout b c' e).1
    · exact st2.own b c' e
  · show ((cout ++ cel').map (·.1)).Nodup
    rw [List.map_append, List.nodup_append]
    refine ⟨hcn, st2.nodup, ?_⟩
    intro b hb b' hb' e
    subst e
    obtain ⟨⟨b1, c1⟩, hm, rfl⟩ := List.mem_map.mp hb
    obtain ⟨⟨b2, c2⟩, hm', e2⟩ := List.mem_map.mp hb'
    exact (apart b1 c1 hm).2.2.1 b2 c2 hm' e2
  · intro b c' e
    rcases List.mem_append.mp e with e | e
    · exact ⟨⟨(hcout b c' e).2.1, (apart b c' e).1⟩, (apart b c' e).2.1, (apart b c' e).2.2.2⟩
    · exact st2.ownFree b c' e

/-- a name and an item of a dict take a pair -/
theorem asg_nameSub {n : Nat} (ok : C.Ok n) {x : Str} {o i : Expr} {px po p : Pos} {k : Nat} {a b : PV} {S' : Store} (hx : Wr1 C x)
    (h : wpE C o (fun d S1 => wpE C i (fun j S2 => SetOk C S2 d j b S') S1) (S.set x a)) : AsgOk C (.Tuple [.Name x px, .Subscript o i po] k p) (.tup [a, b]) S S' := by
  refine .mk fun s look base v hs hr => ?_
  rw [arm_assign_Tuple]
  refine wpAny_bind (wpAny_standAt ?_)
  show wpAny _ _ (do assignInOrder ((assignEach [.Name x px, .Subscript o i po] C.env).map (·.2)) (← holding [v] (unpackItems v 2 none))) _ _ _
  refine wpAny_bind (wpAny_holding (unpack_tup ok hs hr rfl fun vs s' hvs st => ?_))
  obtain ⟨u, w, rfl, h1, h2⟩ := hvs.two
  show wpAny _ _ (do holding [w] (assign (.Name x px) C.env u); do holding [] (assign (.Subscript o i po) C.env w); pure ()) _ _ _
  refine wpAny_bind (wpAny_holding (PyProof.Rows.assign_Name (store_var ok st hx h1 fun s2 st2 => ?_)))
  refine wpAny_bind (wpAny_holding ?_)
  rw [arm_assign_Subscript]
  refine wpAny_bind (wpAny_holding (wpAny_mono (h.run s2 look base st2) ?_ fun _ _ x => x))
  rintro d s3 ⟨dd, S3, l3, k3, le3, st3, r3⟩
  refine wpAny_bind (wpAny_holding (wpAny_mono (k3.run s3 l3 base st3) ?_ fun _ _ x => x))
  rintro j s4 ⟨jj, S4, l4, k4, le4, st4, r4⟩
  refine wpAny_bind (wpAny_standAt (wpAny_bind (wpAny_holding (wpAny_mono (k4.run s4 l4 base d j w st4 (r3.mono le4.1) r4 (h2.mono (le3.trans le4).1)) ?_ fun _ _ x => x))))
  rintro _ s5 ⟨l5, le5, st5⟩
  refine PyProof.Rows.wpAny_release' ?_
  exact wpAny_pure ⟨l5, le3.trans (le4.trans le5), st5⟩

end Mine
end

section
open PySem PySem.W PyProof.Rows
set_option maxRecDepth 100000
set_option linter.unusedVariables false

namespace Mine
variable {C : Cx} {S : Store} {base : Lk}

theorem units1 {n : Nat} (ok : C.Ok n) : C.A.units + 64 < cLine := by
  have := ok.units
  show C.A.units + 64 < 9900
  omega

/-! ### lists compared -/
theorem cmp_eqNil {n : Nat} (ok : C.Ok n) {l : List PV} : CmpOk C S .Eq (.lst l) (.lst []) l.isEmpty := by
  refine .mk fun s look base v u hs hv hu => ?_
  cases hv with
  | @lst a items m _ ha hr =>
    cases hu with
    | @lst b items2 m2 _ hb hr2 =>
      have e1 : items.size = l.length := by simpa using hr.length
      have e2 : items2.size = 0 := by simpa using hr2.length
      have hl : s.heap.IsList a items := ⟨_, hs.sub _ _ ha, rfl, _, rfl⟩
      have hl2 : s.heap.IsList b items2 := ⟨_, hs.sub _ _ hb, rfl, _, rfl⟩
      have hun := units1 ok
      cases l with
      | nil =>
        refine SeqAt.eq_listAt (e := fun _ => true) hl hl2 (by rw [e1, e2]; rfl) (by omega) (fun j h1 h2 => by omega) ⟨?_, look, Ext.refl _ _, hs⟩
        simp
      | cons x xs =>
        exact SeqAt.eq_list_lengthsAt hl hl2 (by rw [e1, e2]; simp) (by omega) ⟨rfl, look, Ext.refl _ _, hs⟩

mutual
/-- the value as data -/
noncomputable def pd : PV → PyData
  | .int i => .int i
  | .bool b => .bool b
  | .tup l => .tuple (pds l)
  | .lst l => .list (pds l)
  | _ => .none
noncomputable def pds : List PV → List PyData
  | [] => []
  | p :: r => pd p :: pds r
end
mutual
noncomputable def isD : PV → Bool
  | .int _ => true
  | .bool _ => true
  | .tup l => isDs l
  | .lst l => isDs l
  | _ => false
noncomputable def isDs : List PV → Bool
  | [] => true
  | p :: r => isD p && isDs r
end
mutual
theorem Rep.reads {look : Lk} {h : Heap} (hs : ∀ b o, look b = some o → h.get? b = some o) : ∀ {v : Value} {p : PV}, Rep look v p → isD p = true → ∃ as, Reads h v (pd p) as
  | _, _, .int i t, _ => ⟨_, by rw [pd]; exact .int i t⟩
  | _, _, .bool b, _ => ⟨_, by rw [pd]; exact .bool b⟩
  | _, _, .tup e r, hd => by
    rw [isD] at hd
    obtain ⟨as, ra⟩ := Reps.reads hs r hd
    exact ⟨_, by rw [pd]; exact .tuple (hs _ _ e) rfl rfl ra⟩
  | _, _, .lst e r, hd => by
    rw [isD] at hd
    obtain ⟨as, ra⟩ := Reps.reads hs r hd
    exact ⟨_, by rw [pd]; exact .list (hs _ _ e) rfl rfl ra⟩
  | _, _, .none, hd => by simp [isD] at hd
  | _, _, .str _ _, hd => by simp [isD] at hd
  | _, _, .ptr _, hd => by simp [isD] at hd
  | _, _, .rng _, hd => by simp [isD] at hd
  | _, _, .told _, hd => by simp [isD] at hd
theorem Reps.reads {look : Lk} {h : Heap} (hs : ∀ b o, look b = some o → h.get? b = some o) : ∀ {vs : List Value} {ps : List PV}, Reps look vs ps → isDs ps = true → ∃ as, ReadsAll h vs (pds ps) as
  | _, _, .nil, _ => ⟨_, by rw [pds]; exact .nil⟩
  | _, _, .cons r rs, hd => by
    rw [isDs, Bool.and_eq_true] at hd
    obtain ⟨as, ra⟩ := Rep.reads hs r hd.1
    obtain ⟨bs, rb⟩ := Reps.reads hs rs hd.2
    exact ⟨_, by rw [pds]; exact .cons ra rb⟩
end
mutual
theorem canLay_pd : ∀ p : PV, isD p = true → (pd p).canLay0 = true
  | .int _, _ => by simp [pd, PyData.canLay0]
  | .bool _, _ => by simp [pd, PyData.canLay0]
  | .tup l, h => by rw [pd, PyData.canLay0]; exact canLay_pds l (by rw [isD] at h; exact h)
  | .lst l, h => by rw [pd, PyData.canLay0]; exact canLay_pds l (by rw [isD] at h; exact h)
  | .none, h => by simp [isD] at h
  | .str _, h => by simp [isD] at h
  | .ptr _, h => by simp [isD] at h
  | .rng _ _, h => by simp [isD] at h
  | .told _, h => by simp [isD] at h
theorem canLay_pds : ∀ l : List PV, isDs l = true → PyData.canLayAll0 (pds l) = true
  | [], _ => by simp [pds, PyData.canLayAll0]
  | p :: r, h => by
    rw [isDs, Bool.and_eq_true] at h
    rw [pds, PyData.canLayAll0, canLay_pd p h.1, canLay_pds r h.2]; rfl
end
theorem cmp_eqSelf {n : Nat} (ok : C.Ok n) {p : PV} (hd : isD p = true) (hdep : (pd p).depth ≤ 64) : CmpOk C S .Eq p p true := by
  refine .mk fun s look base v u hs hv hu => ?_
  obtain ⟨as, ra⟩ := hv.reads hs.sub hd
  obtain ⟨bs, rb⟩ := hu.reads hs.sub hd
  have hsh : SeqAt.shaped (pd p) = true := by unfold SeqAt.shaped; rw [canLay_pd p hd, decide_eq_true hdep]; rfl
  refine eq_dataH ra rb hsh hsh (units1 ok) ⟨?_, look, Ext.refl _ _, hs⟩
  rw [SeqAt.eqv_refl _ (canLay_pd p hd)]
theorem cmp_neSelf {n : Nat} (ok : C.Ok n) {p : PV} (hd : isD p = true) (hdep : (pd p).depth ≤ 64) : CmpOk C S .NotEq p p false := by
  refine .mk fun s look base v u hs hv hu => ?_
  obtain ⟨as, ra⟩ := hv.reads hs.sub hd
  obtain ⟨bs, rb⟩ := hu.reads hs.sub hd
  have hsh : SeqAt.shaped (pd p) = true := by unfold SeqAt.shaped; rw [canLay_pd p hd, decide_eq_true hdep]; rfl
  refine ne_dataH ra rb hsh hsh (units1 ok) ⟨?_, look, Ext.refl _ _, hs⟩
  rw [SeqAt.eqv_refl _ (canLay_pd p hd)]; rfl
end Mine
end

section
open PySem PySem.W PyProof.Rows
set_option maxRecDepth 100000
set_option linter.unusedVariables false

namespace Mine
/-- one argument, two arguments: what the binder makes of them -/
local macro_rules | `(tactic| walk_at "my bind1") => `(tactic| (intro pm code doc vs hv; match vs, hv with | [_], _ => rfl))
local macro_rules | `(tactic| walk_at "my bind2") => `(tactic| (intro pm code doc vs hv; match vs, hv with | [_, _], _ => rfl))
/-- one step of an expression -/
local macro_rules | `(tactic| walk_at "my e") => `(tactic| first
  | refine e_int ?_
  | refine e_bool ?_
  | refine e_var (by assumption) (.loc rfl) rfl rfl ?_
  | refine e_var (by assumption) (.cell _ rfl rfl) rfl rfl ?_
  | refine e_var (by assumption) (.free _ rfl rfl rfl) rfl rfl ?_
  | refine e_bin ?_
  | refine e_cmp rfl ?_
  | refine t_cmp rfl ?_
  | refine t_and ?_
  | refine t_or ?_
  | refine e_neg ?_
  | refine e_ifexp ?_
  | refine e_tup ?_
  | refine l_cons rfl ?_
  | refine l_nil ?_
  | refine e_item (fun _ _ => rfl) ?_
  | refine e_callF (by assumption) (bi_abs rfl) rfl rfl ?_
  | refine e_callF (by assumption) (bi_len rfl) rfl rfl ?_
  | refine e_callF (by assumption) (bi_max rfl) rfl rfl ?_
  | refine e_callF (by assumption) (bi_sorted rfl) rfl rfl ?_
  | refine e_callF (by assumption) (bi_sum rfl) rfl rfl ?_
  | refine e_callT (by assumption) (bi_range rfl) rfl rfl ?_
  | refine e_callT (by assumption) (bi_list rfl) rfl rfl ?_
  | refine e_callT (by assumption) (bi_reversed rfl) rfl rfl ?_
  | refine e_callT (by assumption) (bi_enumerate rfl) rfl rfl ?_
  | refine ⟨_, bin_add, ?_⟩
  | refine ⟨_, bin_sub, ?_⟩
  | refine ⟨_, cmp_eq, ?_⟩
  | refine ⟨_, cmp_ne, ?_⟩
  | refine ⟨_, cmp_lt, ?_⟩
  | refine ⟨_, cmp_le, ?_⟩
  | refine ⟨_, cmp_gt, ?_⟩
  | refine ⟨_, cmp_ge, ?_⟩
  | refine ⟨_, _, call_abs, ?_⟩
  | refine ⟨_, _, call_max (by assumption), ?_⟩
  | refine ⟨_, _, call_range1, ?_⟩
  | refine ⟨_, _, call_range2, ?_⟩)
local macro_rules | `(tactic| walk_at "my es") => `(tactic| (repeat walk_at "my e"))


/-! ### what the law draws -/
theorem law_take_spec {G : GE} {a : Addr} {g m k : Int} (hg : 0 ≤ g) (hm : 0 ≤ m) (hm2 : m < 2147483647) (hk : 0 < k) (hk2 : k ≤ 100) :
    FnSpec G d21 1 [.ptr a, .int k] [(a, .draws g m)] (fun p c => ∃ r g' m', p = .int r ∧ c = [(a, .draws g' m')] ∧ 0 ≤ r ∧ r < k ∧ 0 ≤ g' ∧ 0 ≤ m' ∧ m' < 2147483647) := by
  refine fn_intro d21_mem ["draws", "many"] (by decide) rfl (by walk_at "my bind2") rfl rfl rfl rfl ?_
  intro A L f pm code doc s₀ ok
  have fm : ∀ x : Int, 0 ≤ x.fmod k ∧ x.fmod k < k := fun x => by
    rw [Int.fmod_eq_emod_of_nonneg _ (by omega)]
    exact ⟨Int.emod_nonneg _ (by omega), Int.emod_lt_of_pos _ hk⟩
  refine b_cons (x_if ?_)
  walk_at "my es"
  refine e_str ?_
  refine ⟨_, item_great (.head _), ?_⟩
  walk_at "my es"
  by_cases h0 : g > 0
  · refine if_yes (decide_eq_true h0) ?_
    refine b_cons (x_assignT0 ok rfl rfl ?_)
    walk_at "my es"
    refine e_str ?_
    refine ⟨_, item_great (.head _), ?_⟩
    walk_at "my es"
    refine ⟨_, bin_mod (by omega), ?_⟩
    walk_at "my es"
    refine e_str ?_
    refine ⟨_, item_great (.head _), ?_⟩
    walk_at "my es"
    refine ⟨_, bin_div (by omega) (by omega), ?_⟩
    walk_at "my es"
    refine ⟨by simp, ⟨[("draws", .ptr a), ("many", .int k), ("found", .int (g.fmod k))], [(a, .draws (g.fdiv k) m)]⟩, asg_nameSub ok (.loc rfl) ?_, ?_⟩
    · walk_at "my es"
      refine e_str ?_
      exact set_great .head
    · refine b_cons (x_ret ?_)
      walk_at "my es"
      have hd : 0 ≤ g.fdiv k := Int.fdiv_nonneg hg (by omega)
      exact ⟨_, _, _, rfl, rfl, (fm g).1, (fm g).2, hd, hm, hm2⟩
  · refine if_no (decide_eq_false h0) ?_
    refine b_nil ?_
    refine b_cons (x_setitem rfl ?_)
    walk_at "my es"
    refine e_str ?_
    refine ⟨_, item_mixed (.head _), ?_⟩
    walk_at "my es"
    refine ⟨_, bin_mul (Sm.mulL (by unfold Sm; omega)), ?_⟩
    walk_at "my es"
    refine ⟨_, bin_mod (by omega), ?_⟩
    walk_at "my es"
    refine e_str ?_
    refine ⟨_, set_mixed .head, ?_⟩
    refine b_cons (x_ret ?_)
    walk_at "my es"
    refine e_str ?_
    refine ⟨_, item_mixed (.head _), ?_⟩
    walk_at "my es"
    refine ⟨_, bin_div (by omega) (by omega), ?_⟩
    walk_at "my es"
    refine ⟨_, bin_mod (by omega), ?_⟩
    have h1 : (m * 48271 + 11).fmod 2147483647 = (m * 48271 + 11) % 2147483647 := Int.fmod_eq_emod_of_nonneg _ (by omega)
    refine ⟨_, _, _, rfl, rfl, (fm _).1, (fm _).2, hg, ?_, ?_⟩
    · rw [h1]; omega
    · rw [h1]; omega

noncomputable def lowStep (tb : Int × Int) (o : Int) : Int × Int := if tb.1.fmod o = 0 ∧ tb.2.fmod o = 0 then (tb.1.fdiv o, tb.2.fdiv o) else tb
noncomputable def lowF (t b : Int) : Int × Int := [2, 2, 3, 5].foldl lowStep (t, b)
theorem law_lowest_spec {G : GE} {t b : Int} : FnSpec G d24 1 [.int t, .int b] [] (fun p c => p = prPV (lowF t b) ∧ c = []) := by
  refine fn_intro d24_mem ["top", "bottom"] (by decide) rfl (by walk_at "my bind2") rfl rfl rfl rfl ?_
  intro A L f pm code doc s₀ ok
  refine b_cons (x_for (fun _ => rfl) (i_val ?_))
  walk_at "my es"
  refine ⟨by simp, ?_⟩
  refine ⟨_, iter_tup ok, fun i S => S = ⟨[("top", .int (([2, 2, 3, 5].take i).foldl lowStep (t, b)).1), ("bottom", .int (([2, 2, 3, 5].take i).foldl lowStep (t, b)).2)], []⟩, rfl, ?_, ?_, ?_⟩
  · rintro i S' rfl; rfl
  · rintro i p S1 hp rfl
    have hpo : ∃ o : Int, p = .int o ∧ ([2, 2, 3, 5] : List Int)[i]? = some o ∧ 0 < o ∧ o ≤ 5 := by
      match i with
      | 0 => exact ⟨2, (Option.some.inj hp).symm, rfl, by omega, by omega⟩
      | 1 => exact ⟨2, (Option.some.inj hp).symm, rfl, by omega, by omega⟩
      | 2 => exact ⟨3, (Option.some.inj hp).symm, rfl, by omega, by omega⟩
      | 3 => exact ⟨5, (Option.some.inj hp).symm, rfl, by omega, by omega⟩
      | i + 4 => simp at hp
    obtain ⟨o, rfl, ho, ho1, ho2⟩ := hpo
    have htk : ([2, 2, 3, 5] : List Int).take (i + 1) = [2, 2, 3, 5].take i ++ [o] := by rw [List.take_add_one, ho]; rfl
    have hnext : List.foldl lowStep (t, b) (([2, 2, 3, 5] : List Int).take (i + 1)) = [o].foldl lowStep (List.foldl lowStep (t, b) (([2, 2, 3, 5] : List Int).take i)) := by rw [htk, List.foldl_append]
    generalize List.foldl lowStep (t, b) (([2, 2, 3, 5] : List Int).take i) = tb at hnext ⊢
    refine ⟨_, asg_name ok (.loc rfl), ?_⟩
    refine b_cons (x_if ?_)
    walk_at "my es"
    refine ⟨_, bin_mod (by omega), ?_⟩
    walk_at "my es"
    by_cases h1 : tb.1.fmod o = 0
    · rw [h1]
      refine if_yes (show ((0 : Int) == 0) = true from rfl) ?_
      walk_at "my es"
      refine ⟨_, bin_mod (by omega), ?_⟩
      walk_at "my es"
      by_cases h2 : tb.2.fmod o = 0
      · rw [h2]
        refine if_yes (show ((0 : Int) == 0) = true from rfl) ?_
        refine b_cons (x_assignT ok ["top", "bottom"] (wr2 (.loc rfl) (.loc rfl)) rfl rfl ?_)
        walk_at "my es"
        refine ⟨_, bin_div (by omega) (by omega), ?_⟩
        walk_at "my es"
        refine ⟨_, bin_div (by omega) (by omega), ?_⟩
        walk_at "my es"
        refine ⟨by simp, _, rfl, rfl, ?_⟩
        refine b_nil (b_keep 2 (b_nil ?_))
        have e : [o].foldl lowStep tb = (tb.1.fdiv o, tb.2.fdiv o) := by simp [lowStep, h1, h2]
        show _ = (⟨[("top", .int (List.foldl lowStep (t, b) (([2, 2, 3, 5] : List Int).take (i + 1))).1), ("bottom", .int (List.foldl lowStep (t, b) (([2, 2, 3, 5] : List Int).take (i + 1))).2)], []⟩ : Store)
        rw [hnext, e]; rfl
      · refine if_no (show (tb.2.fmod o == 0) = false by simpa using h2) ?_
        refine b_nil (b_keep 2 (b_nil ?_))
        have e : [o].foldl lowStep tb = tb := by simp [lowStep, h2]
        show _ = (⟨[("top", .int (List.foldl lowStep (t, b) (([2, 2, 3, 5] : List Int).take (i + 1))).1), ("bottom", .int (List.foldl lowStep (t, b) (([2, 2, 3, 5] : List Int).take (i + 1))).2)], []⟩ : Store)
        rw [hnext, e]; rfl
    · refine if_no (show (tb.1.fmod o == 0) = false by simpa using h1) (if_no rfl ?_)
      refine b_nil (b_keep 2 (b_nil ?_))
      have e : [o].foldl lowStep tb = tb := by simp [lowStep, h1]
      show _ = (⟨[("top", .int (List.foldl lowStep (t, b) (([2, 2, 3, 5] : List Int).take (i + 1))).1), ("bottom", .int (List.foldl lowStep (t, b) (([2, 2, 3, 5] : List Int).take (i + 1))).2)], []⟩ : Store)
      rw [hnext, e]; rfl
  · rintro S1 rfl
    refine b_cons (x_ret ?_)
    walk_at "my es"
    exact ⟨by simp, rfl, rfl⟩
end Mine
end

section
open PySem PySem.W PyProof.Rows
set_option maxRecDepth 100000
set_option linter.unusedVariables false

namespace Mine
/-- one argument, two arguments: what the binder makes of them -/
local macro_rules | `(tactic| walk_at "my bind1") => `(tactic| (intro pm code doc vs hv; match vs, hv with | [_], _ => rfl))
local macro_rules | `(tactic| walk_at "my bind2") => `(tactic| (intro pm code doc vs hv; match vs, hv with | [_, _], _ => rfl))
/-- one step of an expression -/
local macro_rules | `(tactic| walk_at "my e") => `(tactic| first
  | refine e_int ?_
  | refine e_bool ?_
  | refine e_var (by assumption) (.loc rfl) rfl rfl ?_
  | refine e_var (by assumption) (.cell _ rfl rfl) rfl rfl ?_
  | refine e_var (by assumption) (.free _ rfl rfl rfl) rfl rfl ?_
  | refine e_bin ?_
  | refine e_cmp rfl ?_
  | refine t_cmp rfl ?_
  | refine t_and ?_
  | refine t_or ?_
  | refine e_neg ?_
  | refine e_ifexp ?_
  | refine e_tup ?_
  | refine l_cons rfl ?_
  | refine l_nil ?_
  | refine e_item (fun _ _ => rfl) ?_
  | refine e_callF (by assumption) (bi_abs rfl) rfl rfl ?_
  | refine e_callF (by assumption) (bi_len rfl) rfl rfl ?_
  | refine e_callF (by assumption) (bi_max rfl) rfl rfl ?_
  | refine e_callF (by assumption) (bi_sorted rfl) rfl rfl ?_
  | refine e_callF (by assumption) (bi_sum rfl) rfl rfl ?_
  | refine e_callT (by assumption) (bi_range rfl) rfl rfl ?_
  | refine e_callT (by assumption) (bi_list rfl) rfl rfl ?_
  | refine e_callT (by assumption) (bi_reversed rfl) rfl rfl ?_
  | refine e_callT (by assumption) (bi_enumerate rfl) rfl rfl ?_
  | refine ⟨_, bin_add, ?_⟩
  | refine ⟨_, bin_sub, ?_⟩
  | refine ⟨_, cmp_eq, ?_⟩
  | refine ⟨_, cmp_ne, ?_⟩
  | refine ⟨_, cmp_lt, ?_⟩
  | refine ⟨_, cmp_le, ?_⟩
  | refine ⟨_, cmp_gt, ?_⟩
  | refine ⟨_, cmp_ge, ?_⟩
  | refine ⟨_, _, call_abs, ?_⟩
  | refine ⟨_, _, call_max (by assumption), ?_⟩
  | refine ⟨_, _, call_range1, ?_⟩
  | refine ⟨_, _, call_range2, ?_⟩)
local macro_rules | `(tactic| walk_at "my es") => `(tactic| (repeat walk_at "my e"))


/-- one row of the product, into the sum -/
noncomputable def rowAt : Nat → Int → List Int → List Int → List Int
  | _, _, [], acc => acc
  | k, l, r :: rs, acc => rowAt (k + 1) l rs (acc.set k (acc.getD k 0 + l * r))
noncomputable def mulAt : Nat → List Int → List Int → List Int → List Int
  | _, [], _, acc => acc
  | k, l :: ls, b, acc => mulAt (k + 1) ls b (rowAt k l b acc)
noncomputable def mulF (a b : List Int) : List Int := mulAt 0 a b (List.replicate (a.length + b.length - 1) 0)
theorem rowAt_length (k : Nat) (l : Int) (b acc : List Int) : (rowAt k l b acc).length = acc.length := by
  induction b generalizing k acc with
  | nil => rfl
  | cons r rs ih => rw [rowAt, ih]; simp
theorem getD_mid (pre : List Int) (x : Int) (r : List Int) : (pre ++ x :: r).getD pre.length 0 = x := by simp [List.getD]
theorem set_mid (pre : List Int) (x y : Int) (r : List Int) : (pre ++ x :: r).set pre.length y = pre ++ y :: r := by
  rw [List.set_append_right _ _ (Nat.le_refl _)]; simp
theorem set_mid1 (pre : List Int) (w x y : Int) (r : List Int) : (pre ++ w :: x :: r).set (pre.length + 1) y = pre ++ w :: y :: r := by
  rw [List.set_append_right _ _ (by omega)]; simp
theorem getD_mid1 (pre : List Int) (w x : Int) (r : List Int) : (pre ++ w :: x :: r).getD (pre.length + 1) 0 = x := by simp [List.getD]
theorem set_mid2 (pre : List Int) (v w x y : Int) (r : List Int) : (pre ++ v :: w :: x :: r).set (pre.length + 2) y = pre ++ v :: w :: y :: r := by
  rw [List.set_append_right _ _ (by omega)]; simp
theorem getD_mid2 (pre : List Int) (v w x : Int) (r : List Int) : (pre ++ v :: w :: x :: r).getD (pre.length + 2) 0 = x := by simp [List.getD]
theorem mulAt_lin (p q : Int) (ls pre : List Int) (c0 : Int) : mulAt pre.length ls [-p, q] (pre ++ c0 :: List.replicate ls.length 0) = pre ++ lm p q c0 ls := by
  induction ls generalizing pre c0 with
  | nil => rfl
  | cons l ls ih =>
    rw [mulAt, lm]
    simp only [rowAt, List.length_cons, List.replicate_succ]
    rw [getD_mid, set_mid, getD_mid1, set_mid1]
    have := ih (pre ++ [c0 + l * -p]) (0 + l * q)
    simp only [List.length_append, List.length_cons, List.length_nil, List.append_assoc, List.cons_append, List.nil_append] at this
    rw [this]
    have e1 : c0 + l * -p = c0 - p * l := by rw [Int.mul_neg, Int.mul_comm l p]; omega
    have e2 : 0 + l * q = q * l := by rw [Int.mul_comm]; omega
    rw [e1, e2]
theorem mulAt_quad (r s u : Int) (ls pre : List Int) (k1 k2 : Int) : mulAt pre.length ls [r, s, u] (pre ++ k1 :: k2 :: List.replicate ls.length 0) = pre ++ lq r s u k1 k2 ls := by
  induction ls generalizing pre k1 k2 with
  | nil => rfl
  | cons l ls ih =>
    rw [mulAt, lq]
    simp only [rowAt, List.length_cons, List.replicate_succ]
    rw [getD_mid, set_mid, getD_mid1, set_mid1, getD_mid2, set_mid2]
    have := ih (pre ++ [k1 + l * r]) (k2 + l * s) (0 + l * u)
    simp only [List.length_append, List.length_cons, List.length_nil, List.append_assoc, List.cons_append, List.nil_append] at this
    rw [this]
    have e1 : k1 + l * r = k1 + r * l := by rw [Int.mul_comm]
    have e2 : k2 + l * s = k2 + s * l := by rw [Int.mul_comm]
    have e3 : 0 + l * u = u * l := by rw [Int.mul_comm]; omega
    rw [e1, e2, e3]
theorem mulF_lin (p q : Int) (a : List Int) : mulF a [-p, q] = lm p q 0 a := by
  unfold mulF
  have := mulAt_lin p q a [] 0
  simpa [List.replicate_succ] using this
theorem mulF_quad (r s u : Int) (a : List Int) : mulF a [r, s, u] = lq r s u 0 0 a := by
  unfold mulF
  have := mulAt_quad r s u a [] 0 0
  simpa [List.replicate_succ] using this

theorem law_mul_spec {G : GE} {a b : List Int} (ha : a.length ≤ 100) (hb : b.length ≤ 100) (ha0 : a ≠ []) (hb0 : b ≠ []) (hs : ∀ x ∈ b, Sm x) :
    FnSpec G d23 1 [polyPV a, polyPV b] [] (fun p c => p = polyPV (mulF a b) ∧ c = []) := by
  have hal : 0 < a.length := List.length_pos_iff.mpr ha0
  have hbl : 0 < b.length := List.length_pos_iff.mpr hb0
  refine fn_intro d23_mem ["one", "other"] (by decide) rfl (by walk_at "my bind2") rfl rfl rfl rfl ?_
  intro A L f pm code doc s₀ ok
  refine b_cons (x_if ?_)
  refine t_or ?_
  refine t_cmp rfl ?_
  walk_at "my es"
  refine e_list (l_nil ⟨by simp, ?_⟩)
  refine ⟨_, cmp_eqNil ok, ?_⟩
  refine if_no (show (a.map PV.int).isEmpty = false by simp [ha0]) ?_
  refine t_cmp rfl ?_
  walk_at "my es"
  refine e_list (l_nil ⟨by simp, ?_⟩)
  refine ⟨_, cmp_eqNil ok, ?_⟩
  refine if_no (show (b.map PV.int).isEmpty = false by simp [hb0]) ?_
  refine b_nil ?_
  refine b_cons (x_assign ok (.loc rfl) rfl ?_)
  refine e_mulO (e_list ?_)
  walk_at "my es"
  refine ⟨by simp, ?_⟩
  walk_at "my es"
  refine ⟨_, _, call_len_lst (by simp; omega), ?_⟩
  walk_at "my es"
  refine ⟨_, _, call_len_lst (by simp; omega), ?_⟩
  walk_at "my es"
  have hn : (((a.map PV.int).length : Int) + ((b.map PV.int).length : Int) - 1) = (a.length + b.length - 1 : Nat) := by simp only [List.length_map]; omega
  rw [hn]
  refine ⟨_, _, rfl, rfl, by omega, by omega, by simp; omega, fun ad => ?_⟩
  rw [show List.replicate (((a.length + b.length - 1 : Nat) : Int)).toNat [PV.int 0] = List.replicate (a.length + b.length - 1) [PV.int 0] from rfl, rep_flat]
  refine b_cons (x_for (fun _ => rfl) (i_enum ok (bi_enumerate rfl) rfl rfl ?_))
  walk_at "my es"
  refine ⟨_, rfl, ?_⟩
  refine ⟨fun i S => ∃ acc : List Int, S = ⟨[("one", polyPV a), ("other", polyPV b), ("found", .ptr ad)], [(ad, .lst (acc.map .int))]⟩ ∧ acc.length = a.length + b.length - 1 ∧ mulAt i (a.drop i) b acc = mulF a b, ⟨List.replicate (a.length + b.length - 1) 0, ?_, by simp, rfl⟩, ?_, ?_, ?_⟩
  · rw [List.map_replicate]; rfl
  · rintro i S' ⟨acc, rfl, _⟩; rfl
  · rintro i p S1 hp ⟨acc, rfl, hlen, hacc⟩
    simp only [List.getElem?_mapIdx, List.getElem?_map, Option.map_map, Option.map_eq_some_iff] at hp
    obtain ⟨l, hl, rfl⟩ := hp
    have hi : i < a.length := (List.getElem?_eq_some_iff.mp hl).1
    have hdrop : a.drop i = l :: a.drop (i + 1) := by
      rw [List.drop_eq_getElem_cons hi]
      congr 1
      rw [List.getElem?_eq_getElem hi] at hl
      exact Option.some.inj hl
    rw [hdrop, mulAt] at hacc
    refine ⟨_, asg_two ok (.loc rfl) (.loc rfl), ?_⟩
    refine b_cons (x_for (fun _ => rfl) (i_enum ok (bi_enumerate rfl) rfl rfl ?_))
    walk_at "my es"
    refine ⟨_, rfl, ?_⟩
    refine ⟨fun j S => ∃ acc' : List Int, S = ⟨[("one", polyPV a), ("other", polyPV b), ("found", .ptr ad), ("at", .int i), ("left", .int l)], [(ad, .lst (acc'.map .int))]⟩ ∧ acc'.length = a.length + b.length - 1 ∧ rowAt (i + j) l (b.drop j) acc' = rowAt i l b acc, ⟨acc, rfl, hlen, rfl⟩, ?_, ?_, ?_⟩
    · rintro j S' ⟨acc', rfl, _⟩; rfl
    · rintro j p S1 hp ⟨acc', rfl, hlen', hrow⟩
      simp only [List.getElem?_mapIdx, List.getElem?_map, Option.map_map, Option.map_eq_some_iff] at hp
      obtain ⟨r, hr, rfl⟩ := hp
      have hj : j < b.length := (List.getElem?_eq_some_iff.mp hr).1
      have hdrop' : b.drop j = r :: b.drop (j + 1) := by
        rw [List.drop_eq_getElem_cons hj]
        congr 1
        rw [List.getElem?_eq_getElem hj] at hr
        exact Option.some.inj hr
      rw [hdrop', rowAt] at hrow
      have hrs := hs r (List.mem_of_getElem? hr)
      have hij : i + j < acc'.length := by omega
      refine ⟨_, asg_two ok (.loc rfl) (.loc rfl), ?_⟩
      refine b_cons (x_setitem rfl ?_)
      walk_at "my es"
      refine ⟨_, item_ptr (.head _) (by omega) (by omega) (j := i + j) (seqIndex_nat (by omega) (by simp; omega)) (poly_get hij), ?_⟩
      walk_at "my es"
      refine ⟨_, bin_mul hrs.mulR, ?_⟩
      walk_at "my es"
      have e : ((i : Int) + (j : Int)) = ((i + j : Nat) : Int) := by omega
      rw [e]
      refine ⟨_, set_list .head (by simp; omega) (by simp; omega), ?_⟩
      refine b_keep 5 (b_nil ⟨acc'.set (i + j) (acc'.getD (i + j) 0 + l * r), ?_, by simp; omega, ?_⟩)
      · rw [List.map_set]; rfl
      · rw [← hrow]; rfl
    · rintro S1 ⟨acc', rfl, hlen', hrow⟩
      rw [List.length_mapIdx, List.length_map, List.drop_length, rowAt] at hrow
      refine b_keep 3 (b_nil ⟨acc', rfl, hlen', ?_⟩)
      rw [hrow]; exact hacc
  · rintro S1 ⟨acc, rfl, hlen, hacc⟩
    rw [List.length_mapIdx, List.length_map, List.drop_length, mulAt] at hacc
    refine b_cons (x_ret (e_freeze ?_))
    walk_at "my es"
    refine ⟨ad, _, _, rfl, .head, ?_⟩
    rw [hacc]
    exact ⟨rfl, rfl⟩
end Mine
end

section
open PySem PySem.W PyProof.Rows
set_option maxRecDepth 100000
set_option linter.unusedVariables false

namespace Mine
variable {C : Cx} {S : Store} {base : Lk}

theorem preSum_nonneg (val : Nat → Int) (n : Nat) (h : ∀ i, i < n → 0 ≤ val i) : 0 ≤ preSum val n := by
  induction n with
  | zero => simp [preSum]
  | succ n ih =>
    have h1 := ih fun i hi => h i (by omega)
    have h2 := h n (by omega)
    simp only [preSum]
    omega
theorem call_sum {n : Nat} (ok : C.Ok n) {ns : List Int} : CallR C S (.builtin "sum") [.lst (ns.map .int)] (fun c => ∃ i, c = .int i ∧ ((∀ x ∈ ns, 0 ≤ x) → 0 ≤ i)) := by
  refine .mk fun s look base vs hs hr => ?_
  obtain ⟨v, rfl, hv⟩ := hr.one
  cases hv with
  | @lst a items m _ ha hrs =>
    have hl : s.heap.IsList a items := ⟨_, hs.sub _ _ ha, rfl, _, rfl⟩
    have hlen : items.size = ns.length := by simpa using hrs.length
    have hhand : C.A.in1.handled = none := ok.hand
    refine call_sum_walkG (wpAny_pyIter_list hl ?_)
    have W := Walks.list (prog := C.G.prog) (w := C.G.w) hhand s.heap.objs.size a (Nat.ne_of_lt (Heap.lt_size (hs.sub _ _ ha))) items
    refine ⟨_, _, _, _, _, _, fun i => ns.getD i 0, rfl, W, ⟨⟨_, Heap.get?_push_size _ rfl, rfl, rfl⟩, hl.push _⟩, ?_, ?_, ?_⟩
    · intro b hb
      rw [Heap.size_push]
      have := Heap.lt_size (hs.sub _ _ ha)
      rcases List.mem_cons.mp hb with rfl | hb
      · exact Nat.lt_succ_self _
      · rw [List.mem_singleton.mp hb]; exact Nat.lt_succ_of_lt this
    · intro i v hv
      obtain ⟨hi, _⟩ := Array.getElem?_eq_some_iff.mp hv
      have hp : (ns.map PV.int)[i]? = some (.int (ns.getD i 0)) := by
        have : i < ns.length := by omega
        simp [List.getElem?_eq_getElem this, List.getD]
      obtain ⟨u, hu, hru⟩ := hrs.get hp
      rw [Array.getElem?_toList] at hu
      have hv' : items[i]? = some v := hv
      rw [hu] at hv'; cases hv'
      cases hru with
      | int _ t => exact ⟨t, rfl⟩
    · intro h' tk t' hk
      have st := hs.grow (h' := h') (tk := tk) (look' := look) (fun b o e => hk b o (fun hb => by
        rw [List.mem_singleton.mp hb] at e
        exact absurd (Heap.lt_size e) (Nat.lt_irrefl _)) (Heap.get?_push_of_some _ e)) (Le.refl _) (fun b o e => hk b o (fun hb => by
        rw [List.mem_singleton.mp hb, hs.lookFresh] at e; cases e) (Heap.get?_push_of_some _ (hs.sub _ _ e))) fun b o e => .inl ⟨o, e⟩
      refine ⟨_, look, ⟨_, rfl, fun h => preSum_nonneg _ _ fun i hi => ?_⟩, Ext.refl _ _, st, .int _ _⟩
      have hi' : i < ns.length := by omega
      have : ns.getD i 0 ∈ ns := by simp [List.getD, List.getElem?_eq_getElem hi']
      exact h _ this
end Mine
end

section
open PySem PySem.W PyProof.Rows
set_option maxRecDepth 100000
set_option linter.unusedVariables false

namespace Mine
/-- one argument, two arguments: what the binder makes of them -/
local macro_rules | `(tactic| walk_at "my bind1") => `(tactic| (intro pm code doc vs hv; match vs, hv with | [_], _ => rfl))
local macro_rules | `(tactic| walk_at "my bind2") => `(tactic| (intro pm code doc vs hv; match vs, hv with | [_, _], _ => rfl))
/-- one step of an expression -/
local macro_rules | `(tactic| walk_at "my e") => `(tactic| first
  | refine e_int ?_
  | refine e_bool ?_
  | refine e_var (by assumption) (.loc rfl) rfl rfl ?_
  | refine e_var (by assumption) (.cell _ rfl rfl) rfl rfl ?_
  | refine e_var (by assumption) (.free _ rfl rfl rfl) rfl rfl ?_
  | refine e_bin ?_
  | refine e_cmp rfl ?_
  | refine t_cmp rfl ?_
  | refine t_and ?_
  | refine t_or ?_
  | refine e_neg ?_
  | refine e_ifexp ?_
  | refine e_tup ?_
  | refine l_cons rfl ?_
  | refine l_nil ?_
  | refine e_item (fun _ _ => rfl) ?_
  | refine e_callF (by assumption) (bi_abs rfl) rfl rfl ?_
  | refine e_callF (by assumption) (bi_len rfl) rfl rfl ?_
  | refine e_callF (by assumption) (bi_max rfl) rfl rfl ?_
  | refine e_callF (by assumption) (bi_sorted rfl) rfl rfl ?_
  | refine e_callF (by assumption) (bi_sum rfl) rfl rfl ?_
  | refine e_callT (by assumption) (bi_range rfl) rfl rfl ?_
  | refine e_callT (by assumption) (bi_list rfl) rfl rfl ?_
  | refine e_callT (by assumption) (bi_reversed rfl) rfl rfl ?_
  | refine e_callT (by assumption) (bi_enumerate rfl) rfl rfl ?_
  | refine ⟨_, bin_add, ?_⟩
  | refine ⟨_, bin_sub, ?_⟩
  | refine ⟨_, cmp_eq, ?_⟩
  | refine ⟨_, cmp_ne, ?_⟩
  | refine ⟨_, cmp_lt, ?_⟩
  | refine ⟨_, cmp_le, ?_⟩
  | refine ⟨_, cmp_gt, ?_⟩
  | refine ⟨_, cmp_ge, ?_⟩
  | refine ⟨_, _, call_abs, ?_⟩
  | refine ⟨_, _, call_max (by assumption), ?_⟩
  | refine ⟨_, _, call_range1, ?_⟩
  | refine ⟨_, _, call_range2, ?_⟩)
local macro_rules | `(tactic| walk_at "my es") => `(tactic| (repeat walk_at "my e"))


theorem law_draws_spec {G : GE} {ns : List Int} (hl : ns.length ≤ 2000000) : FnSpec G d22 1 [polyPV ns] [] (fun p c => ∃ a g m, p = .ptr a ∧ c = [(a, .draws g m)] ∧ 0 ≤ g ∧ 0 ≤ m ∧ m < 2147483647) := by
  have hget : ∀ (i : Nat) (p : PV), ((ns.map PV.int).take 24)[i]? = some p → (∃ c, p = .int c) ∧ i < 24 := fun i p hp => by
    have hi : i < 24 := by
      have := (List.getElem?_eq_some_iff.mp hp).1
      rw [List.length_take] at this; omega
    rw [List.getElem?_take_of_lt hi, List.getElem?_map, Option.map_eq_some_iff] at hp
    obtain ⟨c, _, rfl⟩ := hp
    exact ⟨⟨c, rfl⟩, hi⟩
  have habs : ∀ i : Int, 0 ≤ (if i < 0 then -i else i) := fun i => by split <;> omega
  refine fn_intro d22_mem ["script"] (by decide) rfl (by walk_at "my bind1") rfl rfl rfl rfl ?_
  intro A L f pm code doc s₀ ok
  refine b_cons (x_assign ok (.loc rfl) rfl ?_)
  walk_at "my es"
  refine b_cons (x_for (fun _ => rfl) (i_val (e_slice ?_)))
  walk_at "my es"
  refine ⟨_, rfl, by simpa using hl, ?_⟩
  dsimp only
  walk_at "my es"
  refine ⟨24, rfl, ?_⟩
  refine ⟨_, iter_lst ok, fun i S => ∃ m : Int, S = ⟨[("script", polyPV ns), ("mixed_here", .int m)], []⟩ ∧ 0 ≤ m ∧ m < 2147483647, ⟨7, rfl, by omega, by omega⟩, ?_, ?_, ?_⟩
  · rintro i S' ⟨m, rfl, _⟩; rfl
  · rintro i p S1 hp ⟨m, rfl, hm0, hm1⟩
    obtain ⟨⟨c, rfl⟩, _⟩ := hget i p hp
    refine ⟨_, asg_name ok (.loc rfl), ?_⟩
    refine b_cons (x_assign ok (.loc rfl) rfl ?_)
    walk_at "my es"
    refine ⟨_, bin_mul (Sm.mulL (by unfold Sm; omega)), ?_⟩
    walk_at "my es"
    refine ⟨_, bin_mod (by omega), ?_⟩
    have := habs c
    generalize (if c < 0 then -c else c) = d at this
    have e : (m * 131 + d + 17).fmod 2147483647 = (m * 131 + d + 17) % 2147483647 := Int.fmod_eq_emod_of_nonneg _ (by omega)
    refine b_keep 2 (b_nil ⟨_, rfl, ?_, ?_⟩)
    · rw [e]; omega
    · rw [e]; omega
  · rintro S1 ⟨m, rfl, hm0, hm1⟩
    refine b_cons (x_ret (e_draws ok fun a => e_str ⟨rfl, ?_⟩))
    refine e_callR ok (bi_sum rfl) rfl rfl (l_cons rfl ?_)
    refine e_comp ok (fun _ => rfl) rfl (by decide) rfl (by decide) .nil (i_val (e_slice ?_))
    walk_at "my es"
    refine ⟨_, rfl, by simpa using hl, ?_⟩
    dsimp only
    walk_at "my es"
    refine ⟨24, rfl, ?_⟩
    refine ⟨_, iter_lst ok, [], _, .nil, comp_one (fun i l => ∃ ms : List Int, l = ms.map .int ∧ (∀ x ∈ ms, 0 ≤ x) ∧ ms.length ≤ i ∧ ms.length ≤ 24) (fun _ => rfl) ⟨[], rfl, by simp, by simp, by simp⟩ (by rintro i l ⟨ms, rfl, _, _, h⟩; simp; omega) ?_, ?_⟩
    · rintro L' a' i p l ok' hp ⟨ms, rfl, hms, hi, h24⟩
      obtain ⟨⟨c, rfl⟩, hi24⟩ := hget i p hp
      refine q_one ?_
      walk_at "my es"
      refine ⟨_, bin_pow (by omega) ?_, ?_⟩
      · have q := intBits_le_64 (k := 10) (by omega) (by omega)
        omega
      walk_at "my es"
      by_cases hb : (if c < 0 then -c else c) > (10 : Int) ^ (9 : Int).toNat
      · refine if_yes (decide_eq_true hb) ?_
        walk_at "my es"
        refine ⟨rfl, ms ++ [if c < 0 then -c else c], by simp, ?_, by simp; omega, by simp; omega⟩
        intro x hx
        rcases List.mem_append.mp hx with h | h
        · exact hms x h
        · rw [List.mem_singleton.mp h]; exact habs c
      · refine if_no (decide_eq_false hb) ?_
        exact ⟨rfl, ms, rfl, hms, by omega, h24⟩
    · rintro l ⟨ms, rfl, hms, _, _⟩
      refine l_nil ⟨_, call_sum ok, ?_⟩
      rintro c ⟨i, rfl, hi⟩
      refine ⟨i, rfl, e_str ⟨rfl, ?_⟩⟩
      walk_at "my es"
      exact ⟨m, _, rfl, .head, a, i, m, rfl, rfl, hi hms, hm0, hm1⟩
end Mine
end

section
open PySem PySem.W PyProof.Rows
set_option maxRecDepth 100000
set_option linter.unusedVariables false

namespace Mine
variable {C : Cx} {S : Store} {base : Lk}

/-! ### the dict of the told roots -/
abbrev ToldL := List ((Int × Int) × Int)
noncomputable def findT (l : ToldL) (k : Int × Int) : Option ((Int × Int) × Int) := l.find? fun y => decide (y.1 = k)
noncomputable def getT (l : ToldL) (k : Int × Int) (d : Int) : Int := ((findT l k).map (·.2)).getD d
noncomputable def setT (l : ToldL) (k : Int × Int) (v : Int) : ToldL := if (findT l k).isSome then l.map (fun y => if y.1 = k then (y.1, v) else y) else l ++ [(k, v)]

noncomputable def TabR (look : Lk) (xs : List (List Int × Addr × Value)) (l : ToldL) : Prop :=
  xs.map (fun x => x.1) = l.map (fun x => [x.1.1, x.1.2]) ∧ ∀ (i : Nat) (x : List Int × Addr × Value) (y : (Int × Int) × Int), xs[i]? = some x → l[i]? = some y → PairAt look x.2.1 y.1 ∧ ∃ t, x.2.2 = Value.int y.2 t
theorem TabR.length {look : Lk} {xs : List (List Int × Addr × Value)} {l : ToldL} (h : TabR look xs l) : xs.length = l.length := by simpa using congrArg List.length h.1
theorem key_eq {x k : Int × Int} : ([x.1, x.2] = [k.1, k.2]) ↔ x = k := by
  constructor
  · intro e
    simp only [List.cons.injEq, and_true] at e
    exact Prod.ext e.1 e.2
  · rintro rfl; rfl
theorem TabR.find {look : Lk} {xs : List (List Int × Addr × Value)} {l : ToldL} (h : TabR look xs l) (k : Int × Int) :
    (findT l k = none ∧ atKey xs [k.1, k.2] = none) ∨ ∃ y a t, findT l k = some y ∧ atKey xs [k.1, k.2] = some (a, .int y.2 t) ∧ PairAt look a k := by
  induction xs generalizing l with
  | nil =>
    have := h.length
    cases l with
    | nil => exact .inl ⟨rfl, rfl⟩
    | cons y ys => cases this
  | cons x xs ih =>
    cases l with
    | nil => have := h.length; cases this
    | cons y ys =>
      have h1 := h.1
      simp only [List.map_cons, List.cons.injEq] at h1
      obtain ⟨hp, t, ht⟩ := h.2 0 x y rfl rfl
      by_cases e : y.1 = k
      · right
        refine ⟨y, x.2.1, t, by simp [findT, e], ?_, e ▸ hp⟩
        have : x.1 = [k.1, k.2] := by rw [h1.1, e]
        rw [← ht]
        simp [atKey, this]
      · have hx : ¬ x.1 = [k.1, k.2] := by
          rw [h1.1]; exact fun q => e (key_eq.mp q)
        have ih' := ih (l := ys) ⟨h1.2, fun i a b h2 h3 => h.2 (i + 1) a b h2 h3⟩
        have e1 : findT (y :: ys) k = findT ys k := by simp [findT, e]
        have e2 : atKey (x :: xs) [k.1, k.2] = atKey xs [k.1, k.2] := by simp [atKey, hx]
        rw [e1, e2]
        exact ih'

theorem told_get {n : Nat} (ok : C.Ok n) {a : Addr} {l : ToldL} {x : Int × Int} {d : Int} (hm : (a, Cont.told l) ∈ S.cel) : CallOk C S (.builtin "dict.get") [.ptr a, .tup [.int x.1, .int x.2], .int d] (.int (getT l x d)) S := by
  refine .mk fun s look base vs hs hr => ?_
  obtain ⟨v, u, w, rfl, h1, h2, h3⟩ := hr.three
  cases h1
  cases h3 with
  | int _ t =>
    obtain ⟨b, rfl, hp⟩ := rep_pair h2
    obtain ⟨q, xs, hx, hl, hrr⟩ := hs.own a _ hm
    have T : TabR look xs l := ⟨hl, hrr⟩
    refine call_meetsIn F.slot_dict_get hx.typeIs F.entry_dict_get (F.args_dict_get_3 _ _ _) (meetsH_dict_get_default (tupK C.G) a b q (.int d t)) ⟨room ok, [x.1, x.2], xs, hp.key hs.sub, hx, ?_⟩
    show ∃ look', _
    rcases T.find x with ⟨e1, e2⟩ | ⟨y, b', t', e1, e2, e3⟩
    · refine ⟨look, Ext.refl _ _, hs.tok _, ?_⟩
      rw [e2]; unfold getT; rw [e1]; exact .int _ _
    · refine ⟨look, Ext.refl _ _, hs.tok _, ?_⟩
      rw [e2]; unfold getT; rw [e1]; exact .int _ _

theorem told_set {n : Nat} (ok : C.Ok n) {a : Addr} {l : ToldL} {x : Int × Int} {v : Int} {cel' : List (Addr × Cont)} (u : CUpd a (.told l) (.told (setT l x v)) S.cel cel') (hsz : l.length ≤ 1000000) :
    SetOk C S (.ptr a) (.tup [.int x.1, .int x.2]) (.int v) { S with cel := cel' } := by
  refine .mk fun s look base y j z hs hy hj hz => ?_
  cases hy
  cases hz with
  | int _ tz =>
    obtain ⟨b, rfl, hp⟩ := rep_pair hj
    obtain ⟨q, xs, hxs, hl, hr⟩ := hs.own a _ u.mem
    have T : TabR look xs l := ⟨hl, hr⟩
    have hlen := T.length
    refine wpAny_setItem_heap (room ok) (hp.key hs.sub) hxs (fun h' hd hsb => ?_) (by rw [hlen, sizeLine_eq]; omega)
    refine ⟨look, Ext.refl _ _, hs.upd u hsb ?_⟩
    rcases T.find x with ⟨e1, e2⟩ | ⟨y, b', t', e1, e2, e3⟩
    · rw [storedH_new e2] at hd
      have es : setT l x v = l ++ [(x, v)] := by unfold setT; rw [e1]; rfl
      rw [es]
      refine ⟨q, _, hd, by simp [hl], ?_⟩
      intro i e y h1 h2
      by_cases hi : i < xs.length
      · rw [List.getElem?_append_left hi] at h1
        rw [List.getElem?_append_left (by omega)] at h2
        exact hr i e y h1 h2
      · rw [List.getElem?_append_right (by omega)] at h1 h2
        rw [hlen] at h1
        have : i - l.length = 0 := by
          have := (List.getElem?_eq_some_iff.mp h2).1
          simp at this; omega
        rw [this] at h1 h2
        simp at h1 h2
        subst h1 h2
        exact ⟨hp, tz, rfl⟩
    · rw [storedH_old e2] at hd
      have es : setT l x v = l.map (fun y => if y.1 = x then (y.1, v) else y) := by unfold setT; rw [e1]; rfl
      rw [es]
      refine ⟨q, _, hd, ?_, ?_⟩
      · rw [List.map_map, List.map_map]
        have e3 : ((fun x => x.1) ∘ putAt [x.1, x.2] (Value.int v tz)) = fun z : List Int × Addr × Value => z.1 := by
          funext z; simp only [Function.comp, putAt]; split <;> rfl
        have e4 : ((fun x => [x.1.1, x.1.2]) ∘ fun y : (Int × Int) × Int => if y.1 = x then (y.1, v) else y) = fun y => [y.1.1, y.1.2] := by
          funext z; simp only [Function.comp]; split <;> rfl
        rw [e3, e4]; exact hl
      · intro i e y h1 h2
        simp only [List.getElem?_map, Option.map_eq_some_iff] at h1 h2
        obtain ⟨e', h1, rfl⟩ := h1
        obtain ⟨y', h2, rfl⟩ := h2
        obtain ⟨hp', t, ht⟩ := hr i e' y' h1 h2
        have hk : e'.1 = [y'.1.1, y'.1.2] := by
          have q1 : (xs.map (fun x => x.1))[i]? = some e'.1 := by rw [List.getElem?_map, h1]; rfl
          rw [hl, List.getElem?_map, h2] at q1
          exact (Option.some.inj q1).symm
        by_cases hyx : y'.1 = x
        · rw [if_pos hyx]
          have : putAt [x.1, x.2] (Value.int v tz) e' = (e'.1, e'.2.1, Value.int v tz) := by unfold putAt; rw [if_pos (by rw [hk, hyx])]
          rw [this]
          exact ⟨hp', tz, rfl⟩
        · rw [if_neg hyx]
          have : putAt [x.1, x.2] (Value.int v tz) e' = e' := by
            unfold putAt; rw [if_neg]
            rw [hk]; exact fun q => hyx (key_eq.mp q)
          rw [this]
          exact ⟨hp', t, ht⟩

/-- a method of an owned dict -/
theorem e_methT {o e : Expr} {rest : List Expr} {name : Str} {apos pos : Pos} {id : String} {K : PV → Store → Prop} (hbase : attributeBase o name C.env (eval o C.env) = eval o C.env)
    (hfew : ((backTo pos (starEach (e :: rest) C.env)).all (fun x => !x.1) && (backToKw pos (keywordEach [] C.env)).all (fun x => x.1.isSome)
      && decide ((e :: rest).length + ([] : List Keyword).length + (if ([] : List Keyword).isEmpty then 0 else 1) < 30)) = true)
    (hline : (apos.endLine == pos.line) = true) (slot : Slot "dict" name id) (hty : typeOf (.builtin id) = pure (.type "method_descriptor"))
    (he : starEach (e :: rest) C.env = (false, eval e C.env) :: starEach rest C.env) (hp : (backTo pos (starEach rest C.env)).any (·.1) = false)
    (h : wpE C o (fun a S1 => ∃ ad l, a = .ptr ad ∧ (ad, Cont.told l) ∈ S1.cel ∧ wpL C (e :: rest) (fun pvs S2 => ∃ c S3, CallOk C S2 (.builtin id) (a :: pvs) c S3 ∧ K c S3) S1) S) :
    wpE C (.Call (.Attribute o name apos) (e :: rest) [] pos) K S := by
  refine .mk fun s look base hs => ?_
  refine wpAny_Call_method hbase hfew hline PySem.F.plainAttrs_dict slot hty (wpAny_mono (h.run s look base hs) ?_ fun _ _ x => x)
  rintro v s1 ⟨a, S1, l1, ⟨ad, l, rfl, hm, k1⟩, le1, st1, r1⟩
  cases r1
  obtain ⟨q, xs, ⟨o', es, ep, ho, he', _⟩, _⟩ := st1.own ad _ hm
  refine ⟨⟨_, ho, he'.1⟩, fun a e => by cases e; exact ⟨_, ho, he'.2.1⟩, ?_⟩
  refine callWith_method1 (wpAny_mono (k1.run s1 l1 base pos st1) ?_ fun _ _ x => x) he hp
  rintro vs s2 ⟨pvs, S2, l2, ⟨c, S3, hc, k⟩, le2, st2, r2⟩
  refine wpAny_mono (hc.run s2 l2 base (.ref ad :: vs) st2 (.cons (.ptr _) r2)) ?_ fun _ _ x => x
  rintro r s3 ⟨l3, le3, st3, r3⟩
  exact ⟨c, S3, l3, k, le1.trans (le2.trans le3), st3, r3⟩

/-! frozen -/
theorem St.retype {look : Lk} {s : Shared} (h : St C base S look s) {x : Str} {p q : PV} (hv : S.var x = some p) (hr : ∀ v, Rep look v p → Rep look v q) : St C base (S.set x q) look s := by
  refine ⟨h.same, h.top, h.keep, h.sub, ?_, ?_, h.own, h.nodup, h.ownFree, h.locFree, h.cellFree⟩
  · obtain ⟨m, n, hv'⟩ := h.vars
    refine ⟨m, n, fun y pv e1 e2 => ?_⟩
    rw [Store.var_set] at e1
    by_cases hy : x = y
    · subst hy
      rw [if_pos rfl] at e1; cases e1
      obtain ⟨v, e3, r⟩ := hv' x p hv e2
      exact ⟨v, e3, hr v r⟩
    · rw [if_neg hy] at e1; exact hv' y pv e1 e2
  · intro y c e
    obtain ⟨ov, hc, hv'⟩ := h.cellv y c e
    refine ⟨ov, hc, fun nl pv e1 => ?_⟩
    rw [Store.var_set] at e1
    by_cases hy : x = y
    · subst hy
      rw [if_pos rfl] at e1; cases e1
      obtain ⟨v, e3, r⟩ := hv' nl p hv
      exact ⟨v, e3, hr v r⟩
    · rw [if_neg hy] at e1; exact hv' nl pv e1
theorem toldEntry_eq (G : GE) : toldEntry = entryOfKey (tupK G) := rfl
/-- the dict does not change any more -/
theorem b_freezeT {sts : List Stmt} {K : Fl → Store → Prop} {x : Str} {a : Addr} {l : ToldL} {cel' : List (Addr × Cont)} (hv : S.var x = some (.ptr a)) (u : CDel a (.told l) S.cel cel')
    (h : wpB C sts K ⟨vset S.vs x (.told l), cel'⟩) : wpB C sts K S := by
  refine .mk fun s look base hs => ?_
  obtain ⟨q, xs, ⟨o, es, ep, ho, ⟨c1, c2, c3⟩, hdt, hes, hm, hn⟩, hl, hr⟩ := hs.own a _ u.mem
  have f := hs.freeze u ho
  have ho' : o = { cls := .type "dict", dict := none, data := .dict es ep, slots := #[] } := by
    obtain ⟨c, d, dt, sl⟩ := o
    simp only at c1 c2 c3 hdt
    subst c1 c2 c3 hdt; rfl
  have T : ToldAt (fun b => if b = a then some o else look b) a l := ⟨q, es, ep, xs, (if_pos rfl).trans (by rw [ho']), by rw [hes, toldEntry_eq C.G], hl, hn, fun i x y h1 h2 => ⟨(hr i x y h1 h2).1.mono f.2.1, (hr i x y h1 h2).2⟩⟩
  have st := f.1.retype (x := x) (p := .ptr a) (q := .told l) hv fun v r => by
    cases r; exact .told T
  exact wpAny_mono (h.run s _ base st) (fun _ _ x => x.le f.2) fun _ _ x => x
theorem ToldAt.dict {G : GE} {look : Lk} {h : Heap} (hs : ∀ b o, look b = some o → h.get? b = some o) {a : Addr} {l : ToldL} (T : ToldAt look a l) : (a == sysModules) = false ∧ ∃ xs, h.DictOfH (tupK G) a xs ∧ TabR look xs l := by
  obtain ⟨q, es, ep, xs, h1, h2, h3, h4, h5⟩ := T
  refine ⟨q, xs, ⟨_, es, ep, hs _ _ h1, ⟨rfl, rfl, rfl⟩, rfl, by rw [h2, toldEntry_eq G], fun x hx => ?_, h4⟩, h3, h5⟩
  obtain ⟨i, hi⟩ := List.mem_iff_getElem?.mp hx
  have hlen : xs.length = l.length := by simpa using congrArg List.length h3
  have hil : i < l.length := by
    have := (List.getElem?_eq_some_iff.mp hi).1
    omega
  have hk : x.1 = [l[i].1.1, l[i].1.2] := by
    have q1 : (xs.map (fun x => x.1))[i]? = some x.1 := by rw [List.getElem?_map, hi]; rfl
    rw [h3, List.getElem?_map, List.getElem?_eq_getElem hil] at q1
    exact (Option.some.inj q1).symm
  have := ((h5 i x l[i] hi (List.getElem?_eq_getElem hil)).1).key (G := G) hs
  rw [hk]; exact this
theorem item_told {n : Nat} (ok : C.Ok n) {l : ToldL} {x : Int × Int} {y : (Int × Int) × Int} (hf : findT l x = some y) : ItemOk C S (.told l) (.tup [.int x.1, .int x.2]) (.int y.2) := by
  refine .mk fun s look base v j hs hv hj => ?_
  cases hv with
  | @told a _ T =>
    obtain ⟨b, rfl, hp⟩ := rep_pair hj
    obtain ⟨q, xs, hd, R⟩ := T.dict (G := C.G) hs.sub
    refine ⟨"dict", _, hd.typeIs, slot_dict_getitem.lookup, ?_⟩
    rcases R.find x with ⟨e1, e2⟩ | ⟨y', b', t', e1, e2, e3⟩
    · rw [hf] at e1; cases e1
    · rw [hf] at e1; cases e1
      exact wpAny_getItem_heap (room ok) (hp.key hs.sub) hd e2 ⟨look, Ext.refl _ _, hs.tok _, .int _ _⟩
end Mine
end

section
set_option maxRecDepth 100000
set_option linter.unusedVariables false

namespace Mine
/-! ### quadratic factors without roots -/
theorem not_both_even {t b : Int} (h : Int.gcd t b = 1) : ¬ (t % 2 = 0 ∧ b % 2 = 0) := by
  rintro ⟨h1, h2⟩
  have d : ((2 : Nat) : Int) ∣ (Int.gcd t b : Int) := Int.dvd_coe_gcd (Int.dvd_of_emod_eq_zero h1) (Int.dvd_of_emod_eq_zero h2)
  rw [h] at d
  have := Int.le_of_dvd (by decide) d
  omega
theorem parts (t : Int) : ∃ k e : Int, t = 2 * k + e ∧ (e = 0 ∨ e = 1) ∧ e = t % 2 := ⟨t / 2, t % 2, by omega, by omega, rfl⟩
theorem sqn (a : Int) : 0 ≤ a * a := by
  rcases Int.lt_or_le a 0 with h | h
  · exact Int.le_of_lt (Int.mul_pos_of_neg_of_neg h h)
  · exact Int.mul_nonneg h h
theorem form_pos {a b c t B : Int} (hB : 0 < B) (ha : 1 ≤ a ∧ a ≤ 2) (hb : -1 ≤ b ∧ b ≤ 1) (hc : 2 ≤ c ∧ c ≤ 4) : c * B * B + b * t * B + a * t * t ≠ 0 := by
  have h1 : 0 ≤ (t + B) * (t + B) := sqn _
  have h2 : 0 ≤ (t - B) * (t - B) := sqn _
  have h3 : 1 ≤ B * B := by have := Int.mul_le_mul (show (1 : Int) ≤ B by omega) (show (1 : Int) ≤ B by omega) (by omega) (by omega); omega
  have h4 : 0 ≤ t * t := sqn _
  have e1 : (t + B) * (t + B) = t * t + 2 * (t * B) + B * B := by grind
  have e2 : (t - B) * (t - B) = t * t - 2 * (t * B) + B * B := by grind
  have e3 : c * B * B + b * t * B + a * t * t = c * (B * B) + b * (t * B) + a * (t * t) := by grind
  rw [e1] at h1
  rw [e2] at h2
  rw [e3]
  generalize t * t = T at *
  generalize B * B = P at *
  generalize t * B = X at *
  have ca : a = 1 ∨ a = 2 := by omega
  have cb : b = -1 ∨ b = 0 ∨ b = 1 := by omega
  have cc : c = 2 ∨ c = 3 ∨ c = 4 := by omega
  rcases ca with rfl | rfl <;> rcases cb with rfl | rfl | rfl <;> rcases cc with rfl | rfl | rfl <;> omega
theorem form_2 {t B : Int} (h : Int.gcd t B = 1) : -2 * B * B + 0 * t * B + 1 * t * t ≠ 0 := by
  have hn := not_both_even h
  obtain ⟨k, e, rfl, he, h1⟩ := parts t
  obtain ⟨m, f, rfl, hf, h2⟩ := parts B
  rw [← h1, ← h2] at hn
  intro q
  have q' : (2 * k + e) * (2 * k + e) = 2 * ((2 * m + f) * (2 * m + f)) := by grind
  rcases he with rfl | rfl <;> rcases hf with rfl | rfl
  · exact hn ⟨rfl, rfl⟩
  · have : 4 * (k * k) = 8 * (m * m + m) + 2 := by grind
    omega
  · have : 4 * (k * k + k) + 1 = 8 * (m * m) := by grind
    omega
  · have : 4 * (k * k + k) + 1 = 8 * (m * m + m) + 2 := by grind
    omega
theorem form_3 {t B : Int} (h : Int.gcd t B = 1) : -3 * B * B + 0 * t * B + 4 * t * t ≠ 0 := by
  have hn := not_both_even h
  obtain ⟨k, e, rfl, he, h1⟩ := parts t
  obtain ⟨m, f, rfl, hf, h2⟩ := parts B
  rw [← h1, ← h2] at hn
  intro q
  rcases hf with rfl | rfl
  · rcases he with rfl | rfl
    · exact hn ⟨rfl, rfl⟩
    · obtain ⟨n, g, rfl, hg, _⟩ := parts m
      rcases hg with rfl | rfl
      · have : 4 * (k * k + k) + 1 = 12 * (n * n) := by grind
        omega
      · have : 4 * (k * k + k) + 1 = 12 * (n * n + n) + 3 := by grind
        omega
  · have : 4 * ((2 * k + e) * (2 * k + e)) = 12 * (m * m + m) + 3 := by grind
    omega
theorem form_1 {t B : Int} (h : Int.gcd t B = 1) : -1 * B * B + -1 * t * B + 1 * t * t ≠ 0 := by
  have hn := not_both_even h
  obtain ⟨k, e, rfl, he, h1⟩ := parts t
  obtain ⟨m, f, rfl, hf, h2⟩ := parts B
  rw [← h1, ← h2] at hn
  intro q
  rcases he with rfl | rfl <;> rcases hf with rfl | rfl
  · exact hn ⟨rfl, rfl⟩
  · have : 4 * (k * k) - (4 * (k * m) + 2 * k) - (4 * (m * m) + 4 * m + 1) = 0 := by grind
    omega
  · have : 4 * (k * k) + 4 * k + 1 - (4 * (k * m) + 2 * m) - 4 * (m * m) = 0 := by grind
    omega
  · have : 4 * (k * k) + 4 * k + 1 - (4 * (k * m) + 2 * k + 2 * m + 1) - (4 * (m * m) + 4 * m + 1) = 0 := by grind
    omega

/-- a quadratic factor of the law -/
structure QuadOk (r s u : Int) : Prop where
  form : ∀ t b, Low (t, b) → r * b * b + s * t * b + u * t * t ≠ 0
  r4 : r.natAbs ≤ 4
  s1 : s.natAbs ≤ 1
  u4 : u.natAbs ≤ 4
  u0 : u ≠ 0
theorem quad_abc {a b c : Int} (ha : 1 ≤ a ∧ a ≤ 2) (hb : -1 ≤ b ∧ b ≤ 1) (hc : 2 ≤ c ∧ c ≤ 4) : QuadOk c b a :=
  ⟨fun t B h => form_pos h.1 ha hb hc, by omega, by omega, by omega, by omega⟩
theorem quad_2 : QuadOk (-2) 0 1 := ⟨fun t B h => form_2 h.2, by decide, by decide, by decide, by decide⟩
theorem quad_3 : QuadOk (-3) 0 4 := ⟨fun t B h => form_3 h.2, by decide, by decide, by decide, by decide⟩
theorem quad_1 : QuadOk (-1) (-1) 1 := ⟨fun t B h => form_1 h.2, by decide, by decide, by decide, by decide⟩

theorem lq_head (r s u : Int) {c : List Int} (h : c ≠ []) : (lq r s u 0 0 c).getD 0 0 = r * c.getD 0 0 := by
  cases c with
  | nil => exact absurd rfl h
  | cons x xs => simp [lq]
theorem lq_lastD (r s u : Int) {c : List Int} (h : c ≠ []) : lastD (lq r s u 0 0 c) = u * lastD c := by
  have e := (List.dropLast_concat_getLast h).symm
  generalize c.getLast h = d at e
  generalize c.dropLast = X at e
  subst e
  obtain ⟨Y, h1, _⟩ := lq_last r s u 0 0 d X
  rw [h1, lastD_snoc, lastD_snoc]
theorem lq_bound {r s u : Int} (hr : r.natAbs ≤ 4) (hs : s.natAbs ≤ 1) (hu : u.natAbs ≤ 4) {B : Nat} {k1 k2 : Int} {c : List Int} (h1 : k1.natAbs ≤ 5 * B) (h2 : k2.natAbs ≤ 4 * B) (hc : ∀ x ∈ c, x.natAbs ≤ B) : ∀ x ∈ lq r s u k1 k2 c, x.natAbs ≤ 9 * B := by
  induction c generalizing k1 k2 with
  | nil => intro x hx; simp [lq] at hx; rcases hx with rfl | rfl <;> omega
  | cons y ys ih =>
    have hy := hc y (.head _)
    have e1 : (r * y).natAbs ≤ 4 * B := by rw [Int.natAbs_mul]; exact Nat.mul_le_mul hr hy
    have e2 : (s * y).natAbs ≤ 1 * B := by rw [Int.natAbs_mul]; exact Nat.mul_le_mul hs hy
    have e3 : (u * y).natAbs ≤ 4 * B := by rw [Int.natAbs_mul]; exact Nat.mul_le_mul hu hy
    intro x hx
    rw [lq] at hx
    rcases List.mem_cons.mp hx with rfl | hx
    · omega
    · exact ih (by omega) e3 (fun z hz => hc z (.tail _ hz)) x hx

/-! ### what has been made after t turns and j factors of the next -/
structure TI (t j : Nat) (rs : List (Int × Int)) (Q : List Int) : Prop where
  low : ∀ y ∈ rs, Low y
  sm : ∀ y ∈ rs, y.1.natAbs ≤ 3 ∧ y.2.natAbs ≤ 2
  len : rs.length ≤ 2 * t + j
  rootless : Rootless Q
  trim : Trim Q
  ne : Q ≠ []
  qlen : Q.length ≤ 1 + 2 * t
  qb : ∀ c ∈ Q, c.natAbs ≤ 6 * 9 ^ t
  h0 : ((prodL (noZ rs) Q).getD 0 0).natAbs ≤ 6 * 9 ^ t * 3 ^ j
  hn : (lastD (prodL (noZ rs) Q)).natAbs ≤ 6 * 4 ^ t * 2 ^ j
theorem TI.start {n : Int} (h0 : n ≠ 0) (h6 : n.natAbs ≤ 6) : TI 0 0 [] [n] := by
  refine ⟨by simp, by simp, by simp, fun x hx => ?_, .inr ⟨[], n, rfl, h0⟩, by simp, by simp, by simpa using h6, by simpa [prodL, noZ] using h6, by simpa [prodL, noZ, lastD] using h6⟩
  simp [valF, hstep, h0]
theorem TI.lin {t j : Nat} {rs : List (Int × Int)} {Q : List Int} (h : TI t j rs Q) {x : Int × Int} (hx : Low x) (h1 : x.1.natAbs ≤ 3) (h2 : x.2.natAbs ≤ 2) : TI t (j + 1) (x :: rs) Q := by
  have hne : prodL (noZ rs) Q ≠ [] := prodL_ne h.ne
  refine ⟨?_, ?_, by have := h.len; simp; omega, h.rootless, h.trim, h.ne, h.qlen, h.qb, ?_, ?_⟩
  · intro y hy
    rcases List.mem_cons.mp hy with rfl | hy
    · exact hx
    · exact h.low y hy
  · intro y hy
    rcases List.mem_cons.mp hy with rfl | hy
    · exact ⟨h1, h2⟩
    · exact h.sm y hy
  · have hh := h.h0
    by_cases q : x.1 = 0
    · have : noZ (x :: rs) = noZ rs := by simp [noZ, q]
      rw [this, Nat.pow_succ, ← Nat.mul_assoc]; omega
    · have : noZ (x :: rs) = x :: noZ rs := by simp [noZ, q]
      rw [this, prodL_cons, lm_head _ _ hne, Int.natAbs_mul, Int.natAbs_neg, Nat.pow_succ, ← Nat.mul_assoc, Nat.mul_comm (6 * 9 ^ t * 3 ^ j) 3]
      exact Nat.mul_le_mul h1 hh
  · have hh := h.hn
    by_cases q : x.1 = 0
    · have : noZ (x :: rs) = noZ rs := by simp [noZ, q]
      rw [this, Nat.pow_succ, ← Nat.mul_assoc]; omega
    · have : noZ (x :: rs) = x :: noZ rs := by simp [noZ, q]
      rw [this, prodL_cons, lm_lastD _ _ hne, Int.natAbs_mul, Nat.pow_succ, ← Nat.mul_assoc, Nat.mul_comm (6 * 4 ^ t * 2 ^ j) 2]
      exact Nat.mul_le_mul h2 hh
theorem TI.close {t j : Nat} {rs : List (Int × Int)} {Q : List Int} (h : TI t j rs Q) (hj : j ≤ 2) : TI (t + 1) 0 rs Q := by
  have p3 : 3 ^ j ≤ 9 := Nat.le_trans (Nat.pow_le_pow_right (by omega) hj) (by decide)
  have p2 : 2 ^ j ≤ 4 := Nat.le_trans (Nat.pow_le_pow_right (by omega) hj) (by decide)
  refine ⟨h.low, h.sm, by have := h.len; omega, h.rootless, h.trim, h.ne, by have := h.qlen; omega, fun c hc => ?_, ?_, ?_⟩
  · have := h.qb c hc
    rw [Nat.pow_succ]; omega
  · have := h.h0
    have q : 6 * 9 ^ t * 3 ^ j ≤ 6 * 9 ^ t * 9 := Nat.mul_le_mul_left _ p3
    rw [Nat.pow_succ, Nat.pow_zero]; omega
  · have := h.hn
    have q : 6 * 4 ^ t * 2 ^ j ≤ 6 * 4 ^ t * 4 := Nat.mul_le_mul_left _ p2
    rw [Nat.pow_succ, Nat.pow_zero]; omega
theorem TI.quad {t : Nat} {rs : List (Int × Int)} {Q : List Int} (h : TI t 0 rs Q) {r s u : Int} (q : QuadOk r s u) : TI (t + 1) 0 rs (lq r s u 0 0 Q) := by
  have hne : prodL (noZ rs) Q ≠ [] := prodL_ne h.ne
  refine ⟨h.low, h.sm, by have := h.len; omega, fun x hx => ?_, ?_, ?_, by rw [lq_length]; have := h.qlen; omega, ?_, ?_, ?_⟩
  · rw [valF_lq]
    exact Int.mul_ne_zero (q.form x.1 x.2 hx) (h.rootless x hx)
  · rcases h.trim with e | ⟨X, d, e, hd⟩
    · exact absurd e h.ne
    · obtain ⟨Y, h1, _⟩ := lq_last r s u 0 0 d X
      exact .inr ⟨Y, u * d, by rw [e, h1], Int.mul_ne_zero q.u0 hd⟩
  · intro e
    have := lq_length r s u 0 0 Q
    rw [e] at this; simp at this
  · intro c hc
    have := lq_bound q.r4 q.s1 q.u4 (k1 := 0) (k2 := 0) (by simp) (by simp) h.qb c hc
    rw [Nat.pow_succ]; omega
  · rw [← prodL_lq, lq_head _ _ _ hne, Int.natAbs_mul]
    have h1 := h.h0
    rw [Nat.pow_zero, Nat.mul_one] at h1 ⊢
    have h2 := q.r4
    have : r.natAbs * ((prodL (noZ rs) Q).getD 0 0).natAbs ≤ 4 * (6 * 9 ^ t) := Nat.mul_le_mul h2 h1
    rw [Nat.pow_succ]; omega
  · rw [← prodL_lq, lq_lastD _ _ _ hne, Int.natAbs_mul]
    have h1 := h.hn
    rw [Nat.pow_zero, Nat.mul_one] at h1 ⊢
    have h2 := q.u4
    have : u.natAbs * (lastD (prodL (noZ rs) Q)).natAbs ≤ 4 * (6 * 4 ^ t) := Nat.mul_le_mul h2 h1
    rw [Nat.pow_succ]; omega
theorem TI.hyp {t : Nat} {rs : List (Int × Int)} {Q : List Int} (h : TI t 0 rs Q) (ht : t ≤ 2) : RootsHyp rs Q := by
  have p9 : 9 ^ t ≤ 81 := Nat.le_trans (Nat.pow_le_pow_right (by omega) ht) (by decide)
  have p4 : 4 ^ t ≤ 16 := Nat.le_trans (Nat.pow_le_pow_right (by omega) ht) (by decide)
  refine ⟨h.low, fun y hy => ⟨(h.sm y hy).1, by have := (h.sm y hy).2; omega⟩, by have := h.len; omega, h.rootless, h.trim, h.ne, by have := h.qlen; omega, fun c hc => ?_, ?_, ?_⟩
  · have := h.qb c hc; omega
  · have := h.h0; rw [Nat.pow_zero] at this; omega
  · have := h.hn; rw [Nat.pow_zero] at this; omega

/-- what is told of the roots -/
structure TK (rs : List (Int × Int)) (l : ToldL) : Prop where
  keys : (l.map (·.1)).Nodup
  mem : ∀ x m, (x, m) ∈ l ↔ 0 < rs.count x ∧ m = rs.count x
theorem TK.start : TK [] [] := ⟨by simp, by simp⟩
theorem findT_some {l : ToldL} {k : Int × Int} {y : (Int × Int) × Int} (h : findT l k = some y) : y ∈ l ∧ y.1 = k :=
  ⟨List.mem_of_find?_eq_some h, by simpa using List.find?_some h⟩
theorem findT_none {l : ToldL} {k : Int × Int} (h : findT l k = none) : ∀ y ∈ l, y.1 ≠ k := fun y hy => by
  have := List.find?_eq_none.mp h y hy
  simpa using this
theorem TK.get {rs : List (Int × Int)} {l : ToldL} (h : TK rs l) (x : Int × Int) : getT l x 0 = rs.count x := by
  unfold getT
  cases e : findT l x with
  | none =>
    have := findT_none e
    show (0 : Int) = _
    by_cases q : 0 < rs.count x
    · exact absurd rfl (this (x, _) ((h.mem x _).mpr ⟨q, rfl⟩))
    · omega
  | some y =>
    obtain ⟨h1, h2⟩ := findT_some e
    obtain ⟨k, m⟩ := y
    dsimp only at h2
    subst h2
    exact ((h.mem k m).mp h1).2
theorem TK.step {rs : List (Int × Int)} {l : ToldL} (h : TK rs l) (x : Int × Int) : TK (x :: rs) (setT l x (getT l x 0 + 1)) := by
  rw [h.get x]
  have hc : ∀ y, y ≠ x → (x :: rs).count y = rs.count y := fun y hy => List.count_cons_of_ne (Ne.symm hy)
  have hcx : (x :: rs).count x = rs.count x + 1 := List.count_cons_self
  unfold setT
  cases e : findT l x with
  | none =>
    have hn := findT_none e
    simp only [Option.isSome_none, Bool.false_eq_true, if_false]
    have h0 : rs.count x = 0 := by
      by_cases q : 0 < rs.count x
      · exact absurd rfl (hn (x, _) ((h.mem x _).mpr ⟨q, rfl⟩))
      · omega
    refine ⟨?_, fun y m => ?_⟩
    · rw [List.map_append, List.nodup_append]
      refine ⟨h.keys, by simp, ?_⟩
      intro a ha b hb
      simp at hb
      obtain ⟨z, hz, rfl⟩ := List.mem_map.mp ha
      rw [hb]; exact hn z hz
    · rw [List.mem_append, h.mem, List.mem_singleton]
      by_cases hy : y = x
      · subst hy
        rw [hcx, h0]
        simp
      · rw [hc y hy]
        constructor
        · rintro (q | q)
          · exact q
          · exact absurd (congrArg Prod.fst q) hy
        · exact .inl
  | some z =>
    simp only [Option.isSome_some, if_true]
    obtain ⟨hz1, hz2⟩ := findT_some e
    refine ⟨?_, fun y m => ?_⟩
    · have : (l.map fun y => if y.1 = x then (y.1, (rs.count x : Int) + 1) else y).map (·.1) = l.map (·.1) := by
        rw [List.map_map]
        apply List.map_congr_left
        intro a _
        simp only [Function.comp]; split <;> rfl
      rw [this]; exact h.keys
    · rw [List.mem_map]
      constructor
      · rintro ⟨⟨y', m'⟩, hm, e2⟩
        have hq := (h.mem y' m').mp hm
        by_cases hy : y' = x
        · rw [if_pos hy] at e2
          cases e2
          subst hy
          rw [hcx]
          exact ⟨by omega, by omega⟩
        · rw [if_neg hy] at e2
          cases e2
          rw [hc y hy]; exact hq
      · rintro ⟨h1, h2⟩
        by_cases hy : y = x
        · subst hy
          rw [hcx] at h2
          refine ⟨z, hz1, ?_⟩
          rw [if_pos hz2, hz2, h2]
          simp
        · rw [hc y hy] at h1 h2
          exact ⟨(y, m), (h.mem y m).mpr ⟨h1, h2⟩, by rw [if_neg hy]⟩
end Mine
end

section
open PySem PySem.W PyProof.Rows
set_option maxRecDepth 100000
set_option linter.unusedVariables false

namespace Mine
/-- one argument, two arguments: what the binder makes of them -/
local macro_rules | `(tactic| walk_at "my bind1") => `(tactic| (intro pm code doc vs hv; match vs, hv with | [_], _ => rfl))
local macro_rules | `(tactic| walk_at "my bind2") => `(tactic| (intro pm code doc vs hv; match vs, hv with | [_, _], _ => rfl))
/-- one step of an expression -/
local macro_rules | `(tactic| walk_at "my e") => `(tactic| first
  | refine e_int ?_
  | refine e_bool ?_
  | refine e_var (by assumption) (.loc rfl) rfl rfl ?_
  | refine e_var (by assumption) (.cell _ rfl rfl) rfl rfl ?_
  | refine e_var (by assumption) (.free _ rfl rfl rfl) rfl rfl ?_
  | refine e_bin ?_
  | refine e_cmp rfl ?_
  | refine t_cmp rfl ?_
  | refine t_and ?_
  | refine t_or ?_
  | refine e_neg ?_
  | refine e_ifexp ?_
  | refine e_tup ?_
  | refine l_cons rfl ?_
  | refine l_nil ?_
  | refine e_item (fun _ _ => rfl) ?_
  | refine e_callF (by assumption) (bi_abs rfl) rfl rfl ?_
  | refine e_callF (by assumption) (bi_len rfl) rfl rfl ?_
  | refine e_callF (by assumption) (bi_max rfl) rfl rfl ?_
  | refine e_callF (by assumption) (bi_sorted rfl) rfl rfl ?_
  | refine e_callF (by assumption) (bi_sum rfl) rfl rfl ?_
  | refine e_callT (by assumption) (bi_range rfl) rfl rfl ?_
  | refine e_callT (by assumption) (bi_list rfl) rfl rfl ?_
  | refine e_callT (by assumption) (bi_reversed rfl) rfl rfl ?_
  | refine e_callT (by assumption) (bi_enumerate rfl) rfl rfl ?_
  | refine ⟨_, bin_add, ?_⟩
  | refine ⟨_, bin_sub, ?_⟩
  | refine ⟨_, cmp_eq, ?_⟩
  | refine ⟨_, cmp_ne, ?_⟩
  | refine ⟨_, cmp_lt, ?_⟩
  | refine ⟨_, cmp_le, ?_⟩
  | refine ⟨_, cmp_gt, ?_⟩
  | refine ⟨_, cmp_ge, ?_⟩
  | refine ⟨_, _, call_abs, ?_⟩
  | refine ⟨_, _, call_max (by assumption), ?_⟩
  | refine ⟨_, _, call_range1, ?_⟩
  | refine ⟨_, _, call_range2, ?_⟩)
local macro_rules | `(tactic| walk_at "my es") => `(tactic| (repeat walk_at "my e"))



/-! ### what the law makes -/
structure DR (g m : Int) : Prop where
  g0 : 0 ≤ g
  m0 : 0 ≤ m
  m1 : m < 2147483647

theorem e_take {C : Cx} {S : Store} {n : Nat} (ok : C.Ok (n + 1)) {p pos p2 p3 : Pos} {kk : Nat} {k : Int} {K : PV → Store → Prop} {dad : Addr} {g m : Int} {cel' : List (Addr × Cont)}
    (hr : Reads1 C "draws") (hkind : C.env.kindOf "_law_take" = some .globalImplicit) (hv : S.var "draws" = some (.ptr dad)) (u : CDel dad (.draws g m) S.cel cel') (d : DR g m) (hk : 0 < k) (hk2 : k ≤ 100)
    (h : ∀ r g' m', 0 ≤ r → r < k → DR g' m' → K (.int r) ⟨S.vs, (dad, .draws g' m') :: cel'⟩) : wpE C (.Call (.Name "_law_take" p) [.Name "draws" p2, .Constant (.int k) kk p3] [] pos) K S := by
  refine e_callO ok d21_mem rfl hkind (by decide) rfl (k := 1) (by omega) ?_
  refine l_cons rfl (e_var ok hr (by decide) hv ?_)
  refine l_cons rfl (e_int (l_nil ?_))
  refine ⟨dad, _, _, _, u, law_take_spec d.g0 d.m0 d.m1 hk hk2, ?_⟩
  rintro _ _ ⟨r, g', m', rfl, rfl, h1, h2, h3, h4, h5⟩
  exact h r g' m' h1 h2 ⟨h3, h4, h5⟩

theorem low_step (t : Int) (b : Int) (ht : -3 ≤ t ∧ t ≤ 3) (hb : 1 ≤ b ∧ b ≤ 2) : Low (lowF t b) ∧ (lowF t b).1.natAbs ≤ 3 ∧ (lowF t b).2.natAbs ≤ 2 := by
  have ct : t = -3 ∨ t = -2 ∨ t = -1 ∨ t = 0 ∨ t = 1 ∨ t = 2 ∨ t = 3 := by omega
  have cb : b = 1 ∨ b = 2 := by omega
  rcases ct with rfl | rfl | rfl | rfl | rfl | rfl | rfl <;> rcases cb with rfl | rfl <;> (unfold Low; decide)

structure MI (t j e : Nat) (rs : List (Int × Int)) (Q : List Int) (l : ToldL) : Prop where
  ti : TI t j rs Q
  tk : TK rs l
  dl : ∃ D : List (Int × Int), D.length ≤ e ∧ ∀ y ∈ rs, y ∈ D
theorem MI.llen {t j e : Nat} {rs : List (Int × Int)} {Q : List Int} {l : ToldL} (h : MI t j e rs Q l) : l.length ≤ e := by
  obtain ⟨D, hD, hs⟩ := h.dl
  have := nodup_len (b := D) h.tk.keys fun x hx => by
    obtain ⟨⟨y, m⟩, hy, rfl⟩ := List.mem_map.mp hx
    exact hs _ (List.count_pos_iff.mp ((h.tk.mem y m).mp hy).1)
  rw [List.length_map] at this
  omega

noncomputable def MSt (dad tad : Addr) (rs : List (Int × Int)) (Q : List Int) (l : ToldL) (g m : Int) (more : List (Str × PV)) : Store := ⟨("draws", .ptr dad) :: ("told", .ptr tad) :: ("found", polyPV (prodL rs Q)) :: more, [(dad, .draws g m), (tad, .told l)]⟩

set_option maxHeartbeats 4000000 in
theorem law_made_spec {G : GE} {dad : Addr} {g m : Int} (d : DR g m) :
    FnSpec G d25 3 [.ptr dad] [(dad, .draws g m)] (fun p c => ∃ rs Q l tad g' m', p = .tup [polyPV (prodL rs Q), .ptr tad] ∧ c = [(dad, .draws g' m'), (tad, .told l)] ∧ RootsHyp rs Q ∧ TK rs l ∧ l.length ≤ 2) := by
  refine fn_intro d25_mem ["draws"] (by decide) rfl (by walk_at "my bind1") rfl rfl rfl rfl ?_
  intro A L f pm code doc s₀ ok
  refine b_cons (x_assignT ok ["found", "told"] (wr2 (.loc rfl) (.loc rfl)) rfl rfl ?_)
  refine e_tup (l_cons rfl (e_list (l_cons rfl (e_item (fun _ _ => rfl) (e_list ?_)))))
  walk_at "my es"
  refine ⟨_, rfl, ?_⟩
  walk_at "my es"
  refine ⟨_, rfl, ?_⟩
  walk_at "my es"
  refine ⟨by simp, ?_⟩
  refine e_take ok (.loc rfl) rfl rfl .head d (by omega) (by omega) fun r g1 m1 h0 h1 d1 => ?_
  have hn : ∃ nn : Int, nn ≠ 0 ∧ nn.natAbs ≤ 6 ∧ ([PV.int 1, .int (-1), .int 2, .int (-6)])[r.toNat]? = some (.int nn) := by
    have cr : r = 0 ∨ r = 1 ∨ r = 2 ∨ r = 3 := by omega
    rcases cr with rfl | rfl | rfl | rfl
    · exact ⟨1, by decide, by decide, rfl⟩
    · exact ⟨-1, by decide, by decide, rfl⟩
    · exact ⟨2, by decide, by decide, rfl⟩
    · exact ⟨-6, by decide, by decide, rfl⟩
  obtain ⟨nn, hn0, hn6, hnn⟩ := hn
  refine ⟨_, item_lst (by omega) (by omega) (j := r.toNat) (seqIndex_nat (by omega) (by simp; omega)) hnn, ?_⟩
  refine l_nil ⟨by simp, ?_⟩
  refine l_cons rfl (e_dictT fun tad => l_nil ⟨by simp, _, rfl, rfl, ?_⟩)
  refine b_cons (x_for (fun _ => rfl) (i_val ?_))
  walk_at "my es"
  refine e_take ok (.loc rfl) rfl rfl (.tail .head) d1 (by omega) (by omega) fun rr g2 m2 hr0 hr1 d2 => ?_
  walk_at "my es"
  refine ⟨_, iter_rng ok (by omega) (by omega), ?_⟩
  refine ⟨fun i S => ∃ rs Q l g m, S = MSt dad tad rs Q l g m [] ∧ MI i 0 i rs Q l ∧ DR g m, ⟨[], [nn], [], g2, m2, rfl, ⟨.start hn0 hn6, .start, [], by simp, by simp⟩, d2⟩, ?_, ?_, ?_⟩
  · rintro i S' ⟨rs, Q, l, g, m, rfl, _⟩; rfl
  · rintro i p S1 hp ⟨rs, Q, l, g, m, rfl, hM, dd⟩
    have hi : i < 2 := by
      have := (List.getElem?_eq_some_iff.mp hp).1
      simp at this; omega
    refine ⟨_, asg_name ok (.loc rfl), ?_⟩
    refine b_cons (x_assign ok (.loc rfl) rfl ?_)
    refine e_take ok (.loc rfl) rfl rfl .head dd (by omega) (by omega) fun form g3 m3 hf0 hf1 d3 => ?_
    refine b_cons (x_if ?_)
    walk_at "my es"
    by_cases hform : form = 0
    · refine if_yes (show (form == 0) = true by simpa using hform) ?_
      refine b_cons (x_assignT ok ["a", "b", "c"] (wr3 (.loc rfl) (.loc rfl) (.loc rfl)) rfl rfl ?_)
      walk_at "my es"
      refine e_take ok (.loc rfl) rfl rfl .head d3 (by omega) (by omega) fun ra g4 m4 ha0 ha1 d4 => ?_
      walk_at "my es"
      refine e_take ok (.loc rfl) rfl rfl .head d4 (by omega) (by omega) fun rb g5 m5 hb0 hb1 d5 => ?_
      walk_at "my es"
      refine e_take ok (.loc rfl) rfl rfl .head d5 (by omega) (by omega) fun rc g6 m6 hc0 hc1 d6 => ?_
      walk_at "my es"
      refine ⟨by simp, _, rfl, rfl, ?_⟩
      have hquad : ∀ k : Int, 0 ≤ k → k < 4 → ∃ r s u : Int, QuadOk r s u ∧ ([polyPV [2 + rc, rb - 1, 1 + ra], polyPV [-2, 0, 1], polyPV [-3, 0, 4], polyPV [-1, -1, 1]])[k.toNat]? = some (polyPV [r, s, u]) := fun k hk0 hk1 => by
        have ck : k = 0 ∨ k = 1 ∨ k = 2 ∨ k = 3 := by omega
        rcases ck with rfl | rfl | rfl | rfl
        · exact ⟨_, _, _, quad_abc ⟨by omega, by omega⟩ ⟨by omega, by omega⟩ ⟨by omega, by omega⟩, rfl⟩
        · exact ⟨_, _, _, quad_2, rfl⟩
        · exact ⟨_, _, _, quad_3, rfl⟩
        · exact ⟨_, _, _, quad_1, rfl⟩
      refine b_cons (x_assign ok (.loc rfl) rfl ?_)
      refine e_call ok d23_mem rfl rfl rfl rfl (k := 1) (by omega) ?_
      walk_at "my es"
      refine e_list (l_cons rfl (e_list ?_))
      walk_at "my es"
      refine ⟨by simp, l_cons rfl (e_list ?_)⟩
      walk_at "my es"
      refine ⟨_, rfl, ?_⟩
      walk_at "my es"
      refine ⟨by simp, l_cons rfl (e_list ?_)⟩
      walk_at "my es"
      refine ⟨_, rfl, ?_⟩
      walk_at "my es"
      refine ⟨by simp, l_cons rfl (e_list ?_)⟩
      walk_at "my es"
      refine ⟨_, rfl, ?_⟩
      walk_at "my es"
      refine ⟨_, rfl, ?_⟩
      walk_at "my es"
      refine ⟨by simp, l_nil ⟨by simp, ?_⟩⟩
      refine e_take ok (.loc rfl) rfl rfl .head d6 (by omega) (by omega) fun rk g7 m7 hk0 hk1 d7 => ?_
      obtain ⟨qr, qs, qu, hq, hget⟩ := hquad rk hk0 hk1
      refine ⟨_, item_lst (by omega) (by omega) (j := rk.toNat) (seqIndex_nat (by omega) (by simp; omega)) hget, ?_⟩
      walk_at "my es"
      have hq1 := hq.r4
      have hq2 := hq.s1
      have hq3 := hq.u4
      refine ⟨_, law_mul_spec (a := prodL rs Q) (b := [qr, qs, qu]) (by rw [prodL_length]; have := hM.ti.len; have := hM.ti.qlen; omega) (by simp) (prodL_ne hM.ti.ne) (by simp) ?_, ?_⟩
      · intro x hx
        simp only [List.mem_cons, List.not_mem_nil, or_false] at hx
        unfold Sm
        rcases hx with rfl | rfl | rfl <;> omega
      rintro _ _ ⟨rfl, rfl⟩
      rw [mulF_quad, prodL_lq]
      refine b_keep 3 (b_cons (x_cont ?_))
      exact ⟨rs, _, l, g7, m7, rfl, ⟨hM.ti.quad hq, hM.tk, let ⟨D, h1, h2⟩ := hM.dl; ⟨D, by omega, h2⟩⟩, d7⟩
    · refine if_no (show (form == 0) = false by simpa using hform) ?_
      refine b_nil ?_
      refine b_cons (x_assign ok (.loc rfl) rfl (wpE.mono (K := fun a S1 => ∃ x g m, a = prPV x ∧ S1 = MSt dad tad rs Q l g m [("turn", p), ("form", .int form)] ∧ (Low x ∧ x.1.natAbs ≤ 3 ∧ x.2.natAbs ≤ 2) ∧ DR g m) ?_ ?_))
      · walk_at "my es"
        by_cases h1 : form = 1
        · refine if_yes (show (form == 1) = true by simpa using h1) ?_
          walk_at "my es"
          exact ⟨by simp, (0, 1), g3, m3, rfl, rfl, by unfold Low; decide, d3⟩
        · refine if_no (show (form == 1) = false by simpa using h1) ?_
          refine e_call ok d24_mem rfl rfl rfl rfl (k := 1) (by omega) ?_
          walk_at "my es"
          refine e_take ok (.loc rfl) rfl rfl .head d3 (by omega) (by omega) fun rt g4 m4 ht0 ht1 d4 => ?_
          walk_at "my es"
          refine e_take ok (.loc rfl) rfl rfl .head d4 (by omega) (by omega) fun rb g5 m5 hb0 hb1 d5 => ?_
          walk_at "my es"
          refine ⟨_, law_lowest_spec, ?_⟩
          rintro _ _ ⟨rfl, rfl⟩
          exact ⟨_, g5, m5, rfl, rfl, low_step _ _ (by omega) (by omega), d5⟩
      · rintro _ _ ⟨x, g4, m4, rfl, rfl, ⟨hx, hx3, hx2⟩, d4⟩
        obtain ⟨D, hD1, hD2⟩ := hM.dl
        refine b_cons (x_for (fun _ => rfl) (i_val ?_))
        walk_at "my es"
        refine e_take ok (.loc rfl) rfl rfl .head d4 (by omega) (by omega) fun rm g5 m5 hm0 hm1 d5 => ?_
        walk_at "my es"
        refine ⟨_, iter_rng ok (by omega) (by omega), ?_⟩
        refine ⟨fun j S => ∃ rs' l' g m, S = MSt dad tad rs' Q l' g m [("turn", p), ("form", .int form), ("x", prPV x)] ∧ TI i j rs' Q ∧ TK rs' l' ∧ (∀ y ∈ rs', y ∈ x :: D) ∧ DR g m, ⟨rs, l, g5, m5, rfl, hM.ti, hM.tk, fun y hy => .tail _ (hD2 y hy), d5⟩, ?_, ?_, ?_⟩
        · rintro j S' ⟨rs', l', g, m, rfl, _⟩; rfl
        · rintro j p' S1 hp' ⟨rs', l', g, m, rfl, hT, hK, hs, dd'⟩
          have hj : j < 2 := by
            have := (List.getElem?_eq_some_iff.mp hp').1
            simp at this; omega
          have hll : l'.length ≤ 3 := by
            have := MI.llen (t := i) (j := j) (e := i + 1) (Q := Q) ⟨hT, hK, x :: D, by simp; omega, hs⟩
            omega
          refine ⟨_, asg_name ok (.loc rfl), ?_⟩
          refine b_cons (x_assign ok (.loc rfl) rfl ?_)
          refine e_call ok d23_mem rfl rfl rfl rfl (k := 1) (by omega) ?_
          walk_at "my es"
          refine e_list ?_
          walk_at "my es"
          refine ⟨_, item_tup (by omega) (by omega) (j := 0) rfl rfl, _, rfl, ?_⟩
          walk_at "my es"
          refine ⟨_, item_tup (by omega) (by omega) (j := 1) rfl rfl, ?_⟩
          walk_at "my es"
          refine ⟨by simp, ?_⟩
          walk_at "my es"
          refine ⟨_, law_mul_spec (a := prodL rs' Q) (b := [-x.1, x.2]) (by rw [prodL_length]; have := hT.len; have := hT.qlen; omega) (by simp) (prodL_ne hT.ne) (by simp) ?_, ?_⟩
          · intro y hy
            simp only [List.mem_cons, List.not_mem_nil, or_false] at hy
            unfold Sm
            rcases hy with rfl | rfl <;> omega
          rintro _ _ ⟨rfl, rfl⟩
          rw [mulF_lin]
          refine b_cons (x_setitem rfl ?_)
          refine e_bin ?_
          refine e_methT rfl rfl rfl PySem.F.slot_dict_get PySem.F.type_dict_get rfl rfl ?_
          walk_at "my es"
          refine ⟨tad, l', rfl, .tail _ (.head _), ?_⟩
          walk_at "my es"
          refine ⟨_, _, told_get ok (.tail _ (.head _)), ?_⟩
          walk_at "my es"
          refine ⟨_, told_set ok (.tail .head) (by omega), ?_⟩
          refine b_keep 6 (b_nil ⟨x :: rs', _, g, m, rfl, hT.lin hx hx3 hx2, hK.step x, ?_, dd'⟩)
          intro y hy
          rcases List.mem_cons.mp hy with rfl | hy
          · exact .head _
          · exact hs y hy
        · rintro S1 ⟨rs', l', g, m, rfl, hT, hK, hs, dd'⟩
          have hlen : (List.map (fun i : Nat => PV.int (0 + (i : Int))) (List.range ((1 + rm) - 0).toNat)).length ≤ 2 := by simp; omega
          refine b_keep 3 (b_nil ⟨rs', Q, l', g, m, rfl, ⟨hT.close hlen, hK, x :: D, by simp; omega, hs⟩, dd'⟩)
  · rintro S1 ⟨rs, Q, l, g, m, rfl, hM, dd⟩
    have hlen : (List.map (fun i : Nat => PV.int (0 + (i : Int))) (List.range ((1 + rr) - 0).toNat)).length ≤ 2 := by simp; omega
    refine b_cons (x_ret ?_)
    walk_at "my es"
    exact ⟨by simp, rs, Q, l, tad, g, m, rfl, rfl, hM.ti.hyp hlen, hM.tk, Nat.le_trans hM.llen hlen⟩
end Mine
end

section
open PySem PySem.W PyProof.Rows
set_option maxRecDepth 100000
set_option linter.unusedVariables false

namespace Mine
variable {C : Cx} {S : Store} {base : Lk}

/-! ### at most two roots sorted -/
theorem kas_two : kas_sort 2 = .ask 1 0 fun b => .ret (if b = true then #[1, 0] else #[0, 1]) := by
  show KasT.ask 1 0 _ = _
  congr 1
  funext b
  cases b
  · rfl
  · rfl

noncomputable def lexB (x y : Int × Int) : Bool := if x.1 = y.1 then decide (x.2 < y.2) else decide (x.1 < y.1)
theorem lexB_asymm {x y : Int × Int} (h : x ≠ y) : lexB y x = !lexB x y := by
  unfold lexB
  by_cases h1 : x.1 = y.1
  · have h2 : x.2 ≠ y.2 := fun e => h (Prod.ext h1 e)
    rw [if_pos h1, if_pos h1.symm]
    by_cases h3 : x.2 < y.2
    · rw [decide_eq_true h3, decide_eq_false (by omega)]; rfl
    · rw [decide_eq_false h3, decide_eq_true (by omega)]; rfl
  · rw [if_neg h1, if_neg (fun e => h1 e.symm)]
    by_cases h3 : x.1 < y.1
    · rw [decide_eq_true h3, decide_eq_false (by omega)]; rfl
    · rw [decide_eq_false h3, decide_eq_true (by omega)]; rfl

section
variable {prog : Program} {w : World} {A : Around} {E : Value → Shared → Prop} {s : Shared}
theorem tup_lt_tree {a b : Addr} {x y : Int × Int} {t u t' u' : Tok} {n n' : Nat} {P : Fin → Shared → Prop}
    (ha : s.heap.get? a = some { cls := .type "tuple", dict := none, data := .seq #[.int x.1 t, .int x.2 u] n, slots := #[] })
    (hb : s.heap.get? b = some { cls := .type "tuple", dict := none, data := .seq #[.int y.1 t', .int y.2 u'] n', slots := #[] })
    (h : P (.done (.ret (.bool (lexB x y)))) s) : wpAny (model prog w) A (Builtin.«tuple.__lt__» ⟨[.ref a, .ref b], []⟩) P E s := by
  show wpAny _ _ (isInstance (.ref b) (.type "tuple") >>= _) _ _ s
  refine wpAny_bind (wpAny_isInstance (T := "tuple") ⟨_, hb, rfl⟩ isSubtype_tuple_tuple ?_)
  simp only [Bool.not_true, Bool.false_eq_true, if_false]
  refine wpAny_bind (wpAny_tupleItemsOf ha rfl ?_)
  refine wpAny_bind (wpAny_tupleItemsOf hb rfl ?_)
  have hz : ((#[Value.int x.1 t, Value.int x.2 u] : Array Value).toList.zip (#[Value.int y.1 t', Value.int y.2 u'] : Array Value).toList) = [(Value.int x.1 t, Value.int y.1 t'), (Value.int x.2 u, Value.int y.2 u')] := rfl
  simp only [hz]
  refine wpAny_bind ?_
  rw [List.forIn_cons]
  refine wpAny_bind (wpAny_bind (wpAny_eqBool_int ?_))
  by_cases h1 : x.1 = y.1
  · rw [if_neg (by simp [h1])]
    refine wpAny_pure ?_
    dsimp only
    rw [List.forIn_cons]
    refine wpAny_bind (wpAny_bind (wpAny_eqBool_int ?_))
    by_cases h2 : x.2 = y.2
    · rw [if_neg (by simp [h2])]
      refine wpAny_pure ?_
      dsimp only
      rw [List.forIn_nil]
      refine wpAny_pure ?_
      have e : lexB x y = false := by unfold lexB; rw [if_pos h1, h2]; exact decide_eq_false (Int.lt_irrefl _)
      rw [e] at h
      exact wpAny_pure h
    · rw [if_pos (by simp [h2])]
      have e : lexB x y = decide (x.2 < y.2) := by unfold lexB; rw [if_pos h1]
      rw [e] at h
      refine wpAny_bind (wpAny_rule (wpAny_bind ?_))
      refine show wpAny _ _ (compareOp .Lt _ _) _ _ _ from PySem.P.lt_int ?_
      refine wpAny_bind (wpAny_pure (wpAny_pure ?_))
      dsimp only
      exact wpAny_pure (wpAny_pure h)
  · rw [if_pos (by simp [h1])]
    have e : lexB x y = decide (x.1 < y.1) := by unfold lexB; rw [if_neg h1]
    rw [e] at h
    refine wpAny_bind (wpAny_rule (wpAny_bind ?_))
    refine show wpAny _ _ (compareOp .Lt _ _) _ _ _ from PySem.P.lt_int ?_
    refine wpAny_bind (wpAny_pure (wpAny_pure ?_))
    dsimp only
    exact wpAny_pure (wpAny_pure h)

theorem tup_lt {a b : Addr} {x y : Int × Int} {Q : Value → Shared → Prop} {look : Lk} (hu : A.units < cLine) (hs : ∀ b o, look b = some o → s.heap.get? b = some o) (ha : PairAt look a x) (hb : PairAt look b y)
    (h : Q (.bool (lexB x y)) s) : wpAny (model prog w) A (compareOp .Lt (.ref a) (.ref b)) Q E s := by
  obtain ⟨n, t, u, ha⟩ := ha
  obtain ⟨n', t', u', hb⟩ := hb
  have Ta : s.TypeIs (.ref a) "tuple" := ⟨_, hs _ _ ha, rfl⟩
  have Tb : s.TypeIs (.ref b) "tuple" := ⟨_, hs _ _ hb, rfl⟩
  show wpAny _ _ (richCompare .Lt (.ref a) (.ref b)) _ _ _
  exact wpAny_richCompare_same_room (op := .Lt) Ta Tb F.slot_tuple_lt
    (wpAny_call_entry F.slot_tuple_lt Ta F.entry_tuple_lt (tup_lt_tree (hs _ _ ha) (hs _ _ hb) ⟨_, rfl, (fun e => nomatch e), h⟩) (F.args_tuple_lt_2 _ _)) hu

/-- a root and how often -/
noncomputable def RootAt (look : Lk) (v : Value) (r : (Int × Int) × Int) : Prop := ∃ a p n t, v = .ref a ∧ look a = some { cls := .type "tuple", dict := none, data := .seq #[.ref p, .int r.2 t] n, slots := #[] } ∧ PairAt look p r.1
theorem root_key_lt {v1 v2 : Value} {r1 r2 : (Int × Int) × Int} {Q : Bool → Shared → Prop} {look : Lk} {G : GE} (hu : A.units < cLine) (hs : ∀ b o, look b = some o → s.heap.get? b = some o) (h1 : RootAt look v1 r1) (h2 : RootAt look v2 r2)
    (hne : r1.1 ≠ r2.1) (h : Q (lexB r1.1 r2.1) s) : wpAny (model G.prog G.w) A (keyLt' (tuples' false) v1 v2) Q E s := by
  obtain ⟨a1, p1, n1, t1, rfl, e1, q1⟩ := h1
  obtain ⟨a2, p2, n2, t2, rfl, e2, q2⟩ := h2
  refine kat_lt (hs _ _ e1) rfl (hs _ _ e2) rfl ?_
  refine kat_cons ?_
  refine wpAny_eqBool_tuple hu (q1.key (G := G) hs) (q2.key (G := G) hs) ?_
  rw [show decide ([r1.1.1, r1.1.2] = [r2.1.1, r2.1.2]) = false from decide_eq_false fun e => hne (key_eq.mp e)]
  refine kat_no ?_
  rw [Bool.false_and]
  exact kat_one _ _ (tup_lt hu hs q1 q2 h)

/-- sorted, once it is known what the sort of a list does -/
theorem sorted_by {l : Addr} {vs : List Value} {out : Array Value} {Q : Value → Shared → Prop} (hl : s.heap.IsList l vs.toArray) (hz : vs.length < 64)
    (hsort : ∀ (s1 : Shared) (a : Addr) (P : Fin → Shared → Prop), s1.heap.get? a = some (seqObj "list" vs.toArray 0) → (∀ b o, s.heap.get? b = some o → s1.heap.get? b = some o ∧ b ≠ a) →
      P (.done (.ret .none)) { s1 with heap := sortedHeap s1.heap a vs out } → wpAny (model prog w) A.in1.in1 (Builtin.«list.sort» ⟨[.ref a], []⟩) P E s1)
    (h : Q (.ref (s.heap.objs.size + 1)) { s with heap := sortedAll s.heap vs out }) : wpAny (model prog w) A (call (.builtin "sorted") [.ref l]) Q E s := by
  refine Calls.call_function_entry kind_sorted plain_sorted entry_sorted (args_sorted1 _) ?_
  unfold Builtin.«sorted»
  refine wpAny_bind (m := checkCount "sorted" 1 1 _) (wpAny_pure ?_)
  refine wpAny_bind (collect_list hl ?_ (by rw [sizeLine_eq]; omega))
  refine wpAny_bind (wpAny_newList ?_ (by rw [sizeLine_eq]; omega))
  generalize hH : (s.heap.push (seqObj "list" #[] 0)).update s.heap.objs.size (Obj.mapSeq (· ++ vs.toArray)) = H
  have hsz : H.objs.size = s.heap.objs.size + 1 := by rw [← hH, Heap.size_update, size_push']
  have old : ∀ b o, s.heap.get? b = some o → (H.push (seqObj "list" vs.toArray 0)).get? b = some o ∧ b ≠ H.objs.size := fun b o e => by
    have lt := ltSize e
    have n1 : @Ne Nat b s.heap.objs.size := by omega
    have n2 : @Ne Nat b H.objs.size := by omega
    refine ⟨?_, n2⟩
    rw [Heap.get?_push_ne _ _ _ n2, ← hH, Heap.get?_update_ne _ _ _ _ n1, Heap.get?_push_ne _ _ _ n1]
    exact e
  show wpAny _ _ _ _ _ { s with heap := H.push (seqObj "list" vs.toArray 0) }
  have hoL : (H.push (seqObj "list" vs.toArray 0)).get? H.objs.size = some (seqObj "list" vs.toArray 0) := Heap.get?_push_size _ rfl
  refine wpAny_bind (wpAny_holding (wpAny_call_entry slot_list_sort ⟨_, hoL, rfl⟩ entry_list_sort (hsort { s with heap := H.push (seqObj "list" vs.toArray 0) } H.objs.size _ hoL old ⟨_, rfl, ?_⟩) (args_list_sort _)))
  refine wpAny_pure ⟨_, rfl, ?_⟩
  unfold sortedAll at h
  rw [hH] at h
  rw [hsz]
  exact h

/-- the sort, once the kind of the keys and the turns are known -/
theorem sort_by {a : Addr} {vs : List Value} {out : Array Value} {P : Fin → Shared → Prop} (ho : s.heap.get? a = some (seqObj "list" vs.toArray 0)) (hz : vs.length < 64)
    (hone : vs.length < 2 → vs.toArray = out)
    (hrun : 2 ≤ vs.length → ∀ s1 : Shared, (∀ b o, s.heap.get? b = some o → b ≠ a → s1.heap.get? b = some o) →
      wpAny (model prog w) A (keyKind' vs.toArray) (fun κ s' => s' = s1 ∧ (kas_sort vs.length).kasWp (kas_ask prog w A κ vs) (fun p s'' => s'' = s1 ∧ List.toArray (p.toList.map fun i => vs.getD i Value.none) = out) s1) (fun _ _ => False) s1)
    (hout : out.size ≤ 64) (h : P (.done (.ret .none)) { s with heap := sortedHeap s.heap a vs out }) : wpAny (model prog w) A (Builtin.«list.sort» ⟨[.ref a], []⟩) P E s := by
  rw [list_sort_plain]
  have ha := ltSize ho
  refine wpAny_bind (listItems_at ho rfl ?_)
  refine wpAny_bind (listUpdate_at ho rfl ?_ (by rw [List.size_toArray, sizeLine_eq]; omega) (Nat.zero_le _))
  obtain ⟨e1, ho1⟩ : ∃ e1, (s.heap.update a (Obj.mapSeq fun _ => #[])).get? a = some (seqObj "list" #[] e1) := ⟨_, get?_update_seq ho (fun _ => #[])⟩
  refine wpAny_bind (seqEpoch_at ho1 rfl ?_)
  refine wpAny_bind (wpAny_newTuple ?_ (by show vs.length ≤ _; rw [sizeLine_eq]; omega))
  refine wpAny_bind (wpAny_newList ?_ (Nat.zero_le _))
  refine wpAny_holding ?_
  show wpAny (model prog w) A _ P E { s with heap := ((s.heap.update a (Obj.mapSeq fun _ => (#[] : Array Value))).push (seqObj "tuple" vs.toArray 0)).push (seqObj "list" #[] 0) }
  dsimp only
  unfold sortedHeap at h
  have hsz : vs.toArray.size = vs.length := by simp
  generalize hH : ((s.heap.update a (Obj.mapSeq fun _ => #[])).push (seqObj "tuple" vs.toArray 0)).push (seqObj "list" #[] 0) = H at h ⊢
  have n1 : @Ne Nat a (s.heap.update a (Obj.mapSeq fun _ => #[])).objs.size := by rw [Heap.size_update]; omega
  have n2 : @Ne Nat a ((s.heap.update a (Obj.mapSeq fun _ => #[])).push (seqObj "tuple" vs.toArray 0)).objs.size := by rw [size_push', Heap.size_update]; omega
  have hoH : H.get? a = some (seqObj "list" #[] e1) := by
    rw [← hH, Heap.get?_push_ne _ _ _ n2, Heap.get?_push_ne _ _ _ n1]
    exact ho1
  have old : ∀ b o, s.heap.get? b = some o → b ≠ a → H.get? b = some o := fun b o e hb => by
    have lt := ltSize e
    have m1 : @Ne Nat b (s.heap.update a (Obj.mapSeq fun _ => #[])).objs.size := by rw [Heap.size_update]; omega
    have m2 : @Ne Nat b ((s.heap.update a (Obj.mapSeq fun _ => #[])).push (seqObj "tuple" vs.toArray 0)).objs.size := by rw [size_push', Heap.size_update]; omega
    rw [← hH, Heap.get?_push_ne _ _ _ m2, Heap.get?_push_ne _ _ _ m1, Heap.get?_update_ne _ _ _ _ hb]
    exact e
  by_cases h2 : vs.toArray.size < 2
  · rw [if_pos h2, if_pos h2]
    refine wpAny_bind (wpAny_pure ?_)
    rw [StateT.run_pure]
    refine wpAny_bind (wpAny_pure ?_)
    dsimp only
    have e : (arrOf (SortSt.mk' general' (vs.toArray.zip vs.toArray) #[] 7 none)).map (·.2) = out := by
      rw [← hone (by omega)]
      show ((vs.toArray.zip vs.toArray).map (·.2)) = vs.toArray
      apply Array.toList_inj.mp
      simp [List.map_snd_zip]
    rw [e]
    refine wpAny_bind (seqEpoch_at hoH rfl ?_)
    refine wpAny_bind (listUpdate_at hoH rfl ?_ (Nat.zero_le _) (by rw [sizeLine_eq]; omega))
    simp only [bne_self_eq_false, Bool.false_eq_true, if_false]
    exact wpAny_pure h
  · rw [if_neg h2, if_neg h2]
    refine wpAny_bind (wpAny_mono (hrun (by omega) { s with heap := H } old) ?_ fun _ _ x => x.elim)
    rintro κ _ ⟨rfl, hk⟩
    refine wpAny_bind (wpAny_mono (kat_run (Q := fun st' s' => s' = { s with heap := H } ∧ (arrOf st').map (·.2) = out ∧ failedOf st' = none) rfl (by omega) hz
      (fun p' st' s' a1 a2 a3 a4 => ⟨a4.1, (kat_snds rfl a2).trans a4.2, a3⟩) hk) ?_ fun _ _ e => e)
    rintro ⟨⟨⟩, st'⟩ _ ⟨rfl, har, hf⟩
    dsimp only at har hf ⊢
    rw [har]
    refine wpAny_bind (seqEpoch_at hoH rfl ?_)
    refine wpAny_bind (listUpdate_at hoH rfl ?_ (Nat.zero_le _) (by rw [sizeLine_eq]; omega))
    rw [hf]
    simp only [bne_self_eq_false, Bool.false_eq_true, if_false]
    exact wpAny_pure h
end

noncomputable def sort2 (rs : Roots) : Roots := match rs with
  | [x, y] => if lexB y.1 x.1 = true then [y, x] else [x, y]
  | l => l
theorem rep_root {look : Lk} {v : Value} {r : (Int × Int) × Int} (h : Rep look v (rootPV r)) : RootAt look v r := by
  cases h with
  | @tup a items n _ ha hs =>
    obtain ⟨u, w, e, h1, h2⟩ := hs.two
    obtain ⟨p, rfl, hp⟩ := rep_pair h1
    cases h2 with
    | int _ t =>
      refine ⟨a, p, n, t, rfl, ?_, hp⟩
      have : items = #[.ref p, .int r.2 t] := by rw [← Array.toArray_toList (xs := items), e]
      rw [← this]; exact ha
theorem roots_kind {M : Model} {A : Around} {E : Value → Shared → Prop} {s : Shared} {look : Lk} {v1 v2 : Value} {r1 r2 : (Int × Int) × Int} {Q : SortKind → Shared → Prop} (hs : ∀ b o, look b = some o → s.heap.get? b = some o) (h1 : RootAt look v1 r1) (h2 : RootAt look v2 r2)
    (h : Q (tuples' false) s) : wpAny M A (keyKind' [v1, v2].toArray) Q E s := by
  obtain ⟨a1, p1, n1, t1, rfl, e1, q1⟩ := h1
  obtain ⟨a2, p2, n2, t2, rfl, e2, q2⟩ := h2
  have lk : ∀ {p x}, PairAt look p x → Looks M s.heap (typeOf (.ref p)) (.type "tuple") := fun {p x} q => by
    obtain ⟨n, t, u, e⟩ := q
    exact (Looks.ld (hs _ _ e)).andThen .now
  refine kat_kind (fs := [.ref p1, .ref p2]) (T := .type "tuple") (.cons (hs _ _ e1) rfl rfl rfl (.cons (hs _ _ e2) rfl rfl rfl .nil)) (by simp) ?_ (by decide) ?_
  · intro v hv
    simp only [List.mem_cons, List.not_mem_nil, or_false] at hv
    rcases hv with rfl | rfl
    · exact lk q1
    · exact lk q2
  · exact h
theorem call_sorted_roots {n : Nat} (ok : C.Ok n) {rs : Roots} (h2 : rs.length ≤ 2) (hn : (rs.map (·.1)).Nodup) : CallOk C S (.builtin "sorted") [.lst (rs.map rootPV)] (.lst ((sort2 rs).map rootPV)) S := by
  refine .mk fun s look base vs hs hr => ?_
  obtain ⟨v, rfl, hv⟩ := hr.one
  cases hv with
  | @lst a items m _ ha hrs =>
    have hl : s.heap.IsList a items.toList.toArray := ⟨_, hs.sub _ _ ha, rfl, m, by simp⟩
    have hlen : items.toList.length = rs.length := by simpa using hrs.length
    generalize items.toList = vs at hl hrs hlen
    have un : C.A.in1.in1.units < cLine := by
      have := ok.units
      show C.A.units + 1 + 1 < 9900
      omega
    have fin : ∀ out : List Value, Reps look out ((sort2 rs).map rootPV) → (∃ look', Ext base look look' ∧ St C base S look' { s with heap := sortedAll s.heap vs out.toArray } ∧ Rep look' (.ref (s.heap.objs.size + 1)) (.lst ((sort2 rs).map rootPV))) := fun out ho => by
      obtain ⟨e, he⟩ := sortedAll_at s.heap vs out.toArray
      have st := hs.newObj (tk := s.toks) (fun _ _ => sortedAll_old) (size_succ s.heap) he
      exact ⟨_, st.2, st.1, .lst (if_pos rfl) (by simpa using ho.mono st.2.1)⟩
    match rs, h2, hn, hrs, hlen, fin with
    | [], _, _, hrs, hlen, fin =>
      refine sorted_by (out := vs.toArray) hl (by have q : vs.length = 0 := hlen; omega) (fun s1 b P ho old hP => ?_) (fin vs hrs)
      exact sort_by ho (by have q : vs.length = 0 := hlen; omega) (fun _ => rfl) (fun q2 => by have q : vs.length = 0 := hlen; omega) (by have q : vs.length = 0 := hlen; simp only [List.size_toArray]; omega) hP
    | [r], _, _, hrs, hlen, fin =>
      refine sorted_by (out := vs.toArray) hl (by have q : vs.length = 1 := hlen; omega) (fun s1 b P ho old hP => ?_) (fin vs hrs)
      exact sort_by ho (by have q : vs.length = 1 := hlen; omega) (fun _ => rfl) (fun q2 => by have q : vs.length = 1 := hlen; omega) (by have q : vs.length = 1 := hlen; simp only [List.size_toArray]; omega) hP
    | [r1, r2], _, hn, hrs, hlen, fin =>
      obtain ⟨v1, v2, rfl, q1, q2⟩ := hrs.two
      have R1 := rep_root q1
      have R2 := rep_root q2
      have hne : r2.1 ≠ r1.1 := by
        simp at hn
        exact fun e => hn e.symm
      refine sorted_by (out := (if lexB r2.1 r1.1 = true then [v2, v1] else [v1, v2]).toArray) hl (by simp) (fun s1 b P ho old hP => ?_) (fin _ ?_)
      · refine sort_by ho (by simp) (fun q => by simp at q) (fun _ s2 old2 => ?_) (by split <;> simp) hP
        have hs2 : ∀ b o, look b = some o → s2.heap.get? b = some o := fun b o e => old2 b o (old b o (hs.sub b o e)).1 (old b o (hs.sub b o e)).2
        refine roots_kind hs2 R1 R2 ⟨rfl, ?_⟩
        show (kas_sort 2).kasWp _ _ _
        rw [kas_two]
        show kas_ask C.G.prog C.G.w C.A.in1.in1 (tuples' false) [v1, v2] 1 0 _ s2
        show wpAny _ _ (keyLt' (tuples' false) v2 v1) _ _ _
        refine root_key_lt un hs2 R2 R1 hne ?_
        cases lexB r2.1 r1.1
        · exact ⟨rfl, rfl⟩
        · exact ⟨rfl, rfl⟩
      · show Reps look _ ((if lexB r2.1 r1.1 = true then [r2, r1] else [r1, r2]).map rootPV)
        by_cases q : lexB r2.1 r1.1 = true
        · rw [if_pos q, if_pos q]; exact .cons q2 (.cons q1 .nil)
        · rw [if_neg q, if_neg q]; exact .cons q1 (.cons q2 .nil)
    | _ :: _ :: _ :: _, h2, _, _, _, _ => exact absurd h2 (by simp)
theorem sort2_perm {a b : Roots} (h : a.Perm b) (h2 : b.length ≤ 2) (hn : (b.map (·.1)).Nodup) : sort2 a = sort2 b := by
  match b, h2, hn, h with
  | [], _, _, h => rw [h.eq_nil]
  | [x], _, _, h => rw [List.perm_singleton.mp h]
  | [x, y], _, hn, h =>
    have hne : x.1 ≠ y.1 := by simpa using hn
    have hp : a = [x, y] ∨ a = [y, x] := ksk_perm2 h
    rcases hp with rfl | rfl
    · rfl
    · show (if lexB x.1 y.1 = true then [x, y] else [y, x]) = (if lexB y.1 x.1 = true then [y, x] else [x, y])
      rw [lexB_asymm hne]
      cases lexB x.1 y.1 <;> rfl
  | _ :: _ :: _ :: _, h2, _, _ => exact absurd h2 (by simp)
end Mine
end

section
open PySem PySem.W PyProof.Rows
set_option maxRecDepth 100000
set_option linter.unusedVariables false

namespace Mine
variable {C : Cx} {S : Store} {base : Lk}

/-! ### the keys of a dict, one after the other -/
abbrev dictObj (es : Array DictEntry) (ep : Nat) : Obj := { cls := .type "dict", dict := none, data := .dict es ep, slots := #[] }
section
variable {prog : Program} {w : World} {A : Around} {E : Value → Shared → Prop} {s : Shared} {d it : Addr} {es : Array DictEntry} {ep : Nat}
theorem iter_dict {Q : Value → Shared → Prop} (hd : (d == sysModules) = false) (ho : s.heap.get? d = some (dictObj es ep))
    (h : Q (.ref s.heap.objs.size) { s with heap := s.heap.push { cls := .type "dict_keyiterator", data := .fields #[.ref d, .int 0 0, .int es.size 0, .int ep 0] } }) : wpAny (model prog w) A (pyIter (.ref d)) Q E s := by
  have hT : s.TypeIs (.ref d) "dict" := ⟨_, ho, rfl⟩
  refine wpAny_pyIter_slot hT F.slot_dict_iter (wpAny_call_entry F.slot_dict_iter hT F.entry_dict_iter ?_ (F.args_dict_iter_1 _))
  unfold Builtin.«dict.__iter__» Builtin.Dict.dictSlotNone
  refine wpAny_bind (wpAny_bind (wpAny_notOrdered_dict hT ?_))
  show wpAny _ _ (pure (Value.ref d)) _ _ s
  refine wpAny_pure ?_
  show wpAny _ _ (Builtin.Dict.showsAll d >>= _) _ _ s
  unfold Builtin.Dict.showsAll
  rw [if_neg (by rw [hd]; exact Bool.false_ne_true)]
  refine wpAny_bind (wpAny_pure (wpAny_bind (wpAny_dictEntries ho rfl (wpAny_bind (wpAny_dictEpoch ho rfl ?_)))))
  refine wpAny_bind (wpAny_newObj_type (wpAny_pure ⟨_, rfl, "dict_keyiterator", _, ⟨_, Heap.get?_push_size _ rfl, rfl⟩, F.slot_dict_keyiterator_next.lookup, ?_⟩))
  simpa [rawInt] using h

theorem next_key {i : Nat} {e : DictEntry} {Q : Option Value → Shared → Prop} (hit : s.heap.IsKeyIter it d i es.size ep) (ho : s.heap.get? d = some (dictObj es ep)) (he : es[i]? = some e)
    (h : ∀ h', h'.IsKeyIter it d (i + 1) es.size ep → Heap.SameBut it s.heap h' → Q (some e.key) { s with heap := h' }) : wpAny (model prog w) A (pyNext (.ref it)) Q E s := by
  obtain ⟨oi, hoi, hc, hf⟩ := id hit
  have T := hit.typeIs
  unfold pyNext
  refine wpAny_bind (wpAny_attempt (wpAny_callSpecial?_slot (name := Str.ofString "__next__") T F.slot_dict_keyiterator_next
    (wpAny_call_entry F.slot_dict_keyiterator_next T F.entry_dict_keyiterator_next ?_ (F.args_dict_keyiterator_next_1 _))))
  refine wpAny_bind (wpAny_pure (wpAny_bind (wpAny_bind ?_)))
  refine wpAny_bind (wpAny_typeNameOfWhole_keyiter T (wpAny_pure ?_))
  refine wpAny_bind (wpAny_fieldsOf hoi hf ?_)
  simp only [show Builtin.Dict_items.ownsTuple "dict_keyiterator" = false by decide, Bool.false_eq_true, if_false]
  show wpAny _ _ (if (Value.ref d == Value.none) = true then _ else _) _ _ s
  rw [if_neg (show ¬ ((Value.ref d == Value.none) = true) from Bool.false_ne_true)]
  refine wpAny_bind (wpAny_pure (wpAny_bind (wpAny_dictEntries ho rfl ?_)))
  rw [if_neg (by simp)]
  refine wpAny_bind (wpAny_pure (wpAny_bind (wpAny_dictEpoch ho rfl ?_)))
  rw [if_neg (by simp)]
  refine wpAny_pure ?_
  simp only [show ¬ ((i : Int) < 0) from by omega, if_false, Int.toNat_natCast, he]
  refine wpAny_bind ?_
  refine wpAny_bind (wpAny_typeNameOfWhole_keyiter T (wpAny_pure ?_))
  refine wpAny_bind (wpAny_isOneOf_keyiter T ?_)
  show wpAny _ _ (setField (.ref it) 1 (rawInt ((i : Int) + 1)) >>= _) _ _ s
  refine wpAny_bind (wpAny_setField hoi hf (by simp) ?_)
  have hit' : (s.heap.update it (Obj.mapFields (·.setIfInBounds 1 (rawInt ((i : Int) + 1))))).IsKeyIter it d (i + 1) es.size ep :=
    ⟨_, Heap.get?_update_self _ hoi (Obj.isFreed_of_fields (Obj.data_mapFields hf _)), (Obj.cls_mapFields ..).trans hc, by rw [Obj.data_mapFields hf]; simp [rawInt]⟩
  refine wpAny_bind (wpAny_holding ?_)
  refine wpAny_bind (wpAny_isOneOf_keyiter (s := { s with heap := s.heap.update it (Obj.mapFields (·.setIfInBounds 1 (rawInt ((i : Int) + 1)))) }) hit'.typeIs ?_)
  show wpAny _ _ (pure e.key) _ _ _
  exact wpAny_pure (wpAny_pure ⟨_, rfl, wpAny_pure (h _ hit' (Heap.SameBut.update ..))⟩)

theorem next_none {Q : Option Value → Shared → Prop} (hh : A.handled = none) (hit : s.heap.IsKeyIter it d es.size es.size ep) (ho : s.heap.get? d = some (dictObj es ep))
    (h : ∀ h', Heap.ExtBut it s.heap h' → Q none { s with heap := h' }) : wpAny (model prog w) A (pyNext (.ref it)) Q E s := by
  obtain ⟨oi, hoi, hc, hf⟩ := id hit
  have T := hit.typeIs
  unfold pyNext
  refine wpAny_bind (wpAny_attempt (wpAny_callSpecial?_slot (name := Str.ofString "__next__") T F.slot_dict_keyiterator_next
    (wpAny_call_entry F.slot_dict_keyiterator_next T F.entry_dict_keyiterator_next ?_ (F.args_dict_keyiterator_next_1 _))))
  refine wpAny_bind (wpAny_pure (wpAny_bind (wpAny_bind ?_)))
  refine wpAny_bind (wpAny_typeNameOfWhole_keyiter T (wpAny_pure ?_))
  refine wpAny_bind (wpAny_fieldsOf hoi hf ?_)
  simp only [show Builtin.Dict_items.ownsTuple "dict_keyiterator" = false by decide, Bool.false_eq_true, if_false]
  show wpAny _ _ (if (Value.ref d == Value.none) = true then _ else _) _ _ s
  rw [if_neg (show ¬ ((Value.ref d == Value.none) = true) from Bool.false_ne_true)]
  refine wpAny_bind (wpAny_pure (wpAny_bind (wpAny_dictEntries ho rfl ?_)))
  rw [if_neg (by simp)]
  refine wpAny_bind (wpAny_pure (wpAny_bind (wpAny_dictEpoch ho rfl ?_)))
  rw [if_neg (by simp)]
  refine wpAny_pure ?_
  simp only [show ¬ ((es.size : Int) < 0) from by omega, if_false, Int.toNat_natCast, Array.getElem?_eq_none (Nat.le_refl es.size)]
  refine wpAny_bind ?_
  refine wpAny_bind (wpAny_typeNameOfWhole_keyiter T (wpAny_pure ?_))
  show wpAny _ _ (setField (.ref it) 0 .none >>= _) _ _ s
  refine wpAny_bind (wpAny_setField hoi hf (by simp) ?_)
  show wpAny _ _ (newExc (.type "StopIteration") [] >>= _) _ _ _
  refine wpAny_bind ?_
  simp only [newExc, newTuple]
  refine wpAny_bind (wpAny_newObj_type ?_ (by size_fits))
  refine wpAny_bind (m := firstArgMember _ _) (wpAny_of_eq (a := Value.none) (by first | rfl | (simp only [firstArgMember]; rfl)) ?_)
  refine wpAny_newObj_type ?_ (by size_fits)
  simp only [raiseNew]
  refine wpAny_bind (wpAny_handled ?_)
  rw [show A.in1.handled = none from hh]
  refine wpAny_bind (wpAny_pure (wpAny_throw ?_))
  refine wpAny_bind (wpAny_isInstance (T := "StopIteration") (b := true) ⟨_, Heap.get?_push_size _ rfl, rfl⟩ isSubtype_stop ?_)
  exact wpAny_pure (h _ (((Heap.SameBut.update ..).extBut.push _).push _))

theorem walks_dict (hh : A.handled = none) (I : Addr) (hne : d ≠ I) :
    Walks prog w A I [I, d] [I] es.size (fun i v => ∃ e, es[i]? = some e ∧ v = e.key) (fun i h => h.IsKeyIter I d i es.size ep ∧ h.get? d = some (dictObj es ep)) where
  sub := fun b hb => by rw [List.mem_singleton.mp hb]; exact .head _
  frame := fun _ _ _ st hk => ⟨st.1.at fun o e => hk I (.head _) o e, hk d (.tail _ (.head _)) _ st.2⟩
  item := fun i s Q E hi st hQ => by
    have he : es[i]? = some es[i] := Array.getElem?_eq_getElem hi
    refine next_key st.1 st.2 he fun h' hit' hs' => ?_
    exact hQ _ h' s.toks ⟨_, he, rfl⟩ ⟨hit', hs'.extBut d _ hne st.2⟩ fun b o hb e => hs'.extBut b o (fun q => hb (List.mem_singleton.mpr q)) e
  done := fun s Q E st hQ => next_none hh st.1 st.2 fun h' he' => hQ h' s.toks fun b o hb e => he' b o (fun q => hb (List.mem_singleton.mpr q)) e
  self := fun _ _ _ _ st hQ => wpAny_pyIter_keyiter st.1 hQ
end

theorem iter_told {n : Nat} (ok : C.Ok n) {t : Expr} {l : ToldL} : IterOk C S t (.told l) (l.map fun y => prPV y.1) := by
  refine .mk fun s look base v hs hr => ?_
  cases hr with
  | @told a _ T =>
    obtain ⟨q, es, ep, xs, h1, h2, h3, h4, h5⟩ := T
    have hlen : xs.length = l.length := by simpa using congrArg List.length h3
    have hsz : es.size = (l.map fun y => prPV y.1).length := by
      rw [← Array.length_toList, h2, List.length_map, hlen, List.length_map]
    refine iter_dict q (hs.sub _ _ h1) ?_
    have W := walks_dict (prog := C.G.prog) (w := C.G.w) (es := es) (ep := ep) ok.hand s.heap.objs.size (Nat.ne_of_lt (ltSize (hs.sub _ _ h1)))
    have W' : Walks C.G.prog C.G.w C.A s.heap.objs.size [s.heap.objs.size, a] [s.heap.objs.size] (l.map fun y => prPV y.1).length (fun i v => ∃ e, es[i]? = some e ∧ v = e.key) (fun i h => h.IsKeyIter s.heap.objs.size a i es.size ep ∧ h.get? a = some (dictObj es ep)) := hsz ▸ W
    refine ⟨look, Ext.refl _ _, s.heap.objs.size, [s.heap.objs.size, a], [s.heap.objs.size], _, rfl, hs.pushDrop (tk := s.toks) _, Itr.of_walks W' ?_ ?_ "dict_keyiterator" ?_ (by decide), ⟨⟨_, Heap.get?_push_size _ rfl, rfl, rfl⟩, Heap.get?_push_of_some _ (hs.sub _ _ h1)⟩, ?_, ?_⟩
    · rintro i h' ⟨⟨o, ho, _⟩, _⟩ b hb; rw [List.mem_singleton.mp hb]; exact ⟨o, ho⟩
    · rintro i v look' p ⟨e, he, rfl⟩ hle hp
      rw [List.getElem?_map, Option.map_eq_some_iff] at hp
      obtain ⟨y, hy, rfl⟩ := hp
      rw [← Array.getElem?_toList, h2, List.getElem?_map, Option.map_eq_some_iff] at he
      obtain ⟨x, hx, rfl⟩ := he
      exact ((h5 i x y hx hy).1.mono hle).rep
    · rintro i h' ⟨⟨o, ho, hc, _⟩, _⟩; exact ⟨o, ho, hc⟩
    · intro b hb; rw [List.mem_singleton.mp hb]; exact hs.newApart (get_size _)
    · intro b hb
      rcases List.mem_cons.mp hb with hb | hb
      · exact .inl (by rw [hb]; exact List.mem_singleton.mpr rfl)
      · rw [List.mem_singleton.mp hb]; exact .inr ⟨_, h1⟩
end Mine
end

section
open PySem PySem.W PyProof.Rows
set_option maxRecDepth 100000
set_option linter.unusedVariables false

namespace Mine
/-- one argument, two arguments: what the binder makes of them -/
local macro_rules | `(tactic| walk_at "my bind1") => `(tactic| (intro pm code doc vs hv; match vs, hv with | [_], _ => rfl))
local macro_rules | `(tactic| walk_at "my bind2") => `(tactic| (intro pm code doc vs hv; match vs, hv with | [_, _], _ => rfl))
/-- one step of an expression -/
local macro_rules | `(tactic| walk_at "my e") => `(tactic| first
  | refine e_int ?_
  | refine e_bool ?_
  | refine e_var (by assumption) (.loc rfl) rfl rfl ?_
  | refine e_var (by assumption) (.cell _ rfl rfl) rfl rfl ?_
  | refine e_var (by assumption) (.free _ rfl rfl rfl) rfl rfl ?_
  | refine e_bin ?_
  | refine e_cmp rfl ?_
  | refine t_cmp rfl ?_
  | refine t_and ?_
  | refine t_or ?_
  | refine e_neg ?_
  | refine e_ifexp ?_
  | refine e_tup ?_
  | refine l_cons rfl ?_
  | refine l_nil ?_
  | refine e_item (fun _ _ => rfl) ?_
  | refine e_callF (by assumption) (bi_abs rfl) rfl rfl ?_
  | refine e_callF (by assumption) (bi_len rfl) rfl rfl ?_
  | refine e_callF (by assumption) (bi_max rfl) rfl rfl ?_
  | refine e_callF (by assumption) (bi_sorted rfl) rfl rfl ?_
  | refine e_callF (by assumption) (bi_sum rfl) rfl rfl ?_
  | refine e_callT (by assumption) (bi_range rfl) rfl rfl ?_
  | refine e_callT (by assumption) (bi_list rfl) rfl rfl ?_
  | refine e_callT (by assumption) (bi_reversed rfl) rfl rfl ?_
  | refine e_callT (by assumption) (bi_enumerate rfl) rfl rfl ?_
  | refine ⟨_, bin_add, ?_⟩
  | refine ⟨_, bin_sub, ?_⟩
  | refine ⟨_, cmp_eq, ?_⟩
  | refine ⟨_, cmp_ne, ?_⟩
  | refine ⟨_, cmp_lt, ?_⟩
  | refine ⟨_, cmp_le, ?_⟩
  | refine ⟨_, cmp_gt, ?_⟩
  | refine ⟨_, cmp_ge, ?_⟩
  | refine ⟨_, _, call_abs, ?_⟩
  | refine ⟨_, _, call_max (by assumption), ?_⟩
  | refine ⟨_, _, call_range1, ?_⟩
  | refine ⟨_, _, call_range2, ?_⟩)
local macro_rules | `(tactic| walk_at "my es") => `(tactic| (repeat walk_at "my e"))



theorem findT_at {l : ToldL} (hn : (l.map (·.1)).Nodup) {i : Nat} {y : (Int × Int) × Int} (h : l[i]? = some y) : findT l y.1 = some y := by
  induction l generalizing i with
  | nil => simp at h
  | cons z zs ih =>
    rw [List.map_cons, List.nodup_cons] at hn
    cases i with
    | zero =>
      simp at h; subst h
      simp [findT]
    | succ i =>
      simp at h
      have hm : y ∈ zs := List.mem_of_getElem? h
      have hz : z.1 ≠ y.1 := fun e => hn.1 (e ▸ List.mem_map.mpr ⟨y, hm, rfl⟩)
      have := ih hn.2 h
      unfold findT at this ⊢
      rw [List.find?_cons_of_neg (by simpa using hz)]
      exact this
theorem nodup_keys {l : ToldL} (h : (l.map (·.1)).Nodup) : l.Nodup := by
  induction l with
  | nil => exact List.nodup_nil
  | cons z zs ih =>
    rw [List.map_cons, List.nodup_cons] at h
    rw [List.nodup_cons]
    exact ⟨fun hz => h.1 (List.mem_map.mpr ⟨z, hz, rfl⟩), ih h.2⟩
theorem roots_perm {rs : List (Int × Int)} {p : Roots} {l : ToldL} (h : RootsOk rs p) (k : TK rs l) : p.Perm l := by
  refine (List.perm_ext_iff_of_nodup (nodup_keys h.keys) (nodup_keys k.keys)).mpr ?_
  rintro ⟨x, m⟩
  rw [h.mem, k.mem]
theorem hyp7 : RootsHyp [] [7] := by
  refine ⟨by simp, by simp, by simp, fun x hx => ?_, .inr ⟨[], 7, rfl, by decide⟩, by simp, by simp, by simp, by decide, by decide⟩
  simp [valF, hstep]
theorem hyp003 : RootsHyp [(0, 1), (0, 1)] [3] := by
  refine ⟨?_, by decide, by simp, fun x hx => ?_, .inr ⟨[], 3, rfl, by decide⟩, by simp, by simp, by simp, by decide, by decide⟩
  · intro y hy
    simp at hy; subst hy
    unfold Low; decide
  · simp [valF, hstep]
theorem roots7 {l : Roots} (h : RootsOk [] l) : l = [] := by
  cases l with
  | nil => rfl
  | cons y ys =>
    have := ((h.mem y.1 y.2).mp (.head _)).1
    simp at this
theorem roots003 {l : Roots} (h : RootsOk [(0, 1), (0, 1)] l) : l = [((0, 1), 2)] := by
  have hm : ((0, 1), (2 : Int)) ∈ l := (h.mem (0, 1) 2).mpr (by decide)
  have hall : ∀ y ∈ l, y = ((0, 1), 2) := fun y hy => by
    obtain ⟨x, m⟩ := y
    obtain ⟨h1, h2⟩ := (h.mem x m).mp hy
    have hx : x = (0, 1) := by
      have := List.count_pos_iff.mp h1
      simpa using this
    subst hx
    rw [h2]; rfl
  have hn := nodup_keys h.keys
  match l, hm, hall, hn with
  | [], hm, _, _ => cases hm
  | [y], _, hall, _ => rw [hall y (.head _)]
  | y :: z :: r, _, hall, hn =>
    rw [List.nodup_cons] at hn
    exact absurd (by rw [hall y (.head _), hall z (.tail _ (.head _))]; exact .head _) hn.1

theorem roots_isD (l : Roots) : isDs (l.map rootPV) = true := by
  induction l with
  | nil => simp [isDs]
  | cons y ys ih => simp [isDs, isD, rootPV, prPV, ih]
theorem roots_depth (l : Roots) : PyData.depthAll (pds (l.map rootPV)) ≤ 10 := by
  induction l with
  | nil => simp [pds, PyData.depthAll]
  | cons y ys ih =>
    simp only [List.map_cons, pds, pd, rootPV, prPV, PyData.depthAll, PyData.depth]
    have e : pds (List.map rootPV ys) = pds (List.map (fun r => PV.tup [PV.tup [PV.int r.1.1, PV.int r.1.2], PV.int r.2]) ys) := rfl
    have q := ih
    omega
theorem roots_self {C : Cx} {S : Store} {n : Nat} (ok : C.Ok n) (l : Roots) : CmpOk C S .NotEq (.lst (l.map rootPV)) (.lst (l.map rootPV)) false ∧ CmpOk C S .Eq (.lst (l.map rootPV)) (.lst (l.map rootPV)) true := by
  have h1 : isD (.lst (l.map rootPV)) = true := by rw [isD]; exact roots_isD l
  have h2 : (pd (.lst (l.map rootPV))).depth ≤ 64 := by
    rw [pd, PyData.depth]
    have := roots_depth l
    omega
  exact ⟨cmp_neSelf ok h1 h2, cmp_eqSelf ok h1 h2⟩

set_option maxHeartbeats 4000000 in
theorem law_spec {G : GE} {ns : List Int} (hl : ns.length ≤ 2000000) : FnSpec G d26 7 [polyPV ns] [] (fun p c => p = .bool true) := by
  refine fn_intro d26_mem ["script"] (by decide) rfl (by walk_at "my bind1") rfl rfl rfl rfl ?_
  intro A L f pm code doc s₀ ok
  refine b_cons (x_assign ok (.loc rfl) rfl ?_)
  refine e_call ok d22_mem rfl rfl rfl rfl (k := 1) (by omega) ?_
  walk_at "my es"
  refine ⟨_, law_draws_spec hl, ?_⟩
  rintro _ _ ⟨dad, g, m, rfl, rfl, hg, hm0, hm1⟩
  refine b_cons (x_assignT0 ok rfl rfl ?_)
  refine e_callO ok d25_mem rfl rfl rfl rfl (k := 3) (by omega) ?_
  walk_at "my es"
  refine ⟨dad, _, _, _, .head, law_made_spec ⟨hg, hm0, hm1⟩, ?_⟩
  rintro _ _ ⟨rs, Q, l, tad, g', m', rfl, rfl, hyp, tk, hl2⟩
  refine ⟨_, asg_two ok (.loc rfl) (.cell _ rfl rfl rfl), ?_⟩
  refine b_freezeT (x := "told") rfl (.tail .head) ?_
  refine b_cons (x_assign ok (.loc rfl) rfl ?_)
  refine e_call ok d18_mem rfl rfl rfl rfl (k := 6) (by omega) ?_
  walk_at "my es"
  refine ⟨_, rational_roots_spec hyp, ?_⟩
  rintro _ _ ⟨⟨pl, rfl, hR⟩, rfl⟩
  have hperm := roots_perm hR tk
  refine b_cons (x_if ?_)
  walk_at "my es"
  have hpl2 : pl.length ≤ 2 := by rw [hperm.length_eq]; exact hl2
  refine ⟨_, _, call_sorted_roots ok hpl2 hR.keys, ?_⟩
  refine e_callF ok (bi_sorted rfl) rfl rfl (l_cons rfl ?_)
  refine e_comp ok (fun _ => rfl) rfl (by decide) rfl (by decide) (.cons rfl .nil) (i_val ?_)
  walk_at "my es"
  refine ⟨_, iter_told ok, [("told", .told l)], _, .cons rfl rfl (fun _ => rfl) .nil, comp_map (fun i _ => rootPV (l.getD i ((0, 0), 0))) (fun _ => rfl) (by simp; omega) ?_, ?_⟩
  · rintro L' a' i p l' ok' hp
    rw [List.getElem?_map, Option.map_eq_some_iff] at hp
    obtain ⟨y, hy, rfl⟩ := hp
    have hfy := findT_at tk.keys hy
    have hgy : l.getD i ((0, 0), 0) = y := by simp [List.getD, hy]
    walk_at "my es"
    refine ⟨_, item_told ok' (x := y.1) hfy, ?_⟩
    walk_at "my es"
    refine ⟨by simp, ?_, rfl⟩
    rw [hgy]; rfl
  rintro _ rfl
  have hmap : (l.map fun y => prPV y.1).mapIdx (fun i _ => rootPV (l.getD i ((0, 0), 0))) = l.map rootPV := by
    apply List.ext_getElem?
    intro i
    rw [List.getElem?_mapIdx, List.getElem?_map, List.getElem?_map]
    cases h : l[i]? with
    | none => rfl
    | some y => simp [List.getD, h]
  rw [hmap]
  refine l_nil ⟨_, _, call_sorted_roots ok hl2 tk.keys, ?_⟩
  rw [sort2_perm hperm hl2 tk.keys]
  refine ⟨_, (roots_self ok _).1, ?_⟩
  refine if_no rfl ?_
  refine b_nil ?_
  refine b_cons (x_for (fun _ => rfl) (i_val ?_))
  walk_at "my es"
  refine ⟨_, _, call_len_lst (by simp; omega), ?_⟩
  walk_at "my es"
  refine ⟨_, iter_rng ok (by omega) (by simp; omega), ?_⟩
  refine ⟨fun i S => ∃ ll g m, S = ⟨[("script", polyPV ns), ("draws", .ptr dad), ("f", polyPV (prodL rs Q)), ("told", .told ll), ("pairs", .lst (pl.map rootPV))], [(dad, .draws g m)]⟩, ⟨_, _, _, rfl⟩, ?_, ?_, ?_⟩
  · rintro i S' ⟨ll, g, m, rfl⟩; rfl
  · rintro i p S1 hp ⟨ll, g, m, rfl⟩
    rw [List.getElem?_map, Option.map_eq_some_iff] at hp
    obtain ⟨i', hi', rfl⟩ := hp
    obtain ⟨hlt, he⟩ := List.getElem?_eq_some_iff.mp hi'
    rw [List.getElem_range] at he
    subst he
    simp only [List.length_range, List.length_map] at hlt
    have h0 : i < pl.length := by omega
    have h1 : i + 1 < pl.length := by omega
    have hasc : rlt (pl[i]).1 (pl[i + 1]).1 := by
      exact List.pairwise_iff_getElem.mp hR.asc i (i + 1) h0 h1 (by omega)
    refine ⟨_, asg_name ok (.loc rfl), ?_⟩
    refine b_cons (x_assignT ok ["one", "other"] (wr2 (.loc rfl) (.loc rfl)) rfl rfl ?_)
    walk_at "my es"
    refine ⟨_, item_lst (by omega) (by omega) (j := i) (seqIndex_nat (by omega) (by simp; omega)) (c := rootPV pl[i]) (by simp [h0]), ?_⟩
    walk_at "my es"
    refine ⟨_, item_tup (by omega) (by omega) (j := 0) rfl rfl, ?_⟩
    walk_at "my es"
    refine ⟨_, item_lst (by omega) (by omega) (j := i + 1) (seqIndex_nat (by omega) (by simp; omega)) (c := rootPV pl[i + 1]) (by simp [h1]), ?_⟩
    walk_at "my es"
    refine ⟨_, item_tup (by omega) (by omega) (j := 0) rfl rfl, ?_⟩
    walk_at "my es"
    refine ⟨by simp, _, rfl, rfl, ?_⟩
    refine b_cons (x_if ?_)
    have hsm : ∀ y ∈ pl, Sm y.1.1 := fun y hy => by
      have := hyp.sm y.1 (List.count_pos_iff.mp ((hR.mem y.1 y.2).mp hy).1)
      unfold Sm; omega
    have s1 := hsm _ (List.getElem_mem h0)
    have s2 := hsm _ (List.getElem_mem h1)
    walk_at "my es"
    refine ⟨_, item_tup (by omega) (by omega) (j := 0) rfl rfl, ?_⟩
    walk_at "my es"
    refine ⟨_, item_tup (by omega) (by omega) (j := 1) rfl rfl, ?_⟩
    refine ⟨_, bin_mul s1.mulL, ?_⟩
    walk_at "my es"
    refine ⟨_, item_tup (by omega) (by omega) (j := 0) rfl rfl, ?_⟩
    walk_at "my es"
    refine ⟨_, item_tup (by omega) (by omega) (j := 1) rfl rfl, ?_⟩
    refine ⟨_, bin_mul s2.mulL, ?_⟩
    walk_at "my es"
    unfold rlt at hasc
    refine if_no (decide_eq_false (by omega)) ?_
    refine b_nil (b_keep 5 (b_nil ⟨ll, g, m, rfl⟩))
  · rintro S1 ⟨ll, g, m, rfl⟩
    refine b_cons (x_ret (e_and_bool ?_))
    refine e_cmp rfl ?_
    refine e_call ok d18_mem rfl rfl rfl rfl (k := 6) (by omega) (l_cons rfl (e_list ?_))
    walk_at "my es"
    refine ⟨by simp, l_nil ⟨_, rational_roots_spec hyp7, ?_⟩⟩
    rintro _ _ ⟨⟨l7, rfl, h7⟩, rfl⟩
    rw [roots7 h7]
    refine e_list (l_nil ⟨by simp, ?_⟩)
    refine ⟨_, (roots_self ok []).2, ?_⟩
    refine ⟨true, rfl, ?_⟩
    refine if_yes rfl ?_
    refine e_cmp rfl ?_
    refine e_call ok d18_mem rfl rfl rfl rfl (k := 6) (by omega) (l_cons rfl (e_list ?_))
    walk_at "my es"
    refine ⟨by simp, l_nil ⟨_, rational_roots_spec hyp003, ?_⟩⟩
    rintro _ _ ⟨⟨l3, rfl, h3⟩, rfl⟩
    rw [roots003 h3]
    refine e_list (l_cons rfl ?_)
    walk_at "my es"
    refine ⟨by simp, ?_⟩
    walk_at "my es"
    refine ⟨by simp, l_nil ⟨by simp, ?_⟩⟩
    exact ⟨_, (roots_self ok [((0, 1), 2)]).2, rfl⟩
end Mine
end

section
open PySem PySem.W PyProof.Rows
set_option maxRecDepth 100000
set_option linter.unusedVariables false
set_option pp.deepTerms false
set_option pp.deepTerms.threshold 8

namespace Mine
theorem wellAll_ints {P : Params} {h : Heap} {vs : List Value} {ns : List Int} (w : WellAll P h vs (ofPys (ns.map .int))) : IntsAre vs ns := by
  induction ns generalizing vs with
  | nil => cases w; exact .nil
  | cons n ns ih =>
    cases w with
    | cons h1 h2 =>
      cases h1 with
      | int _ t => exact .cons n t (ih h2)
theorem well_ints {P : Params} {h : Heap} {a : Addr} {ns : List Int} (w : Well P h (.ref a) (ofPy (.list (ns.map .int)))) : ∃ vs : List Value, h.get? a = some { cls := .type "list", dict := none, data := .seq vs.toArray 0, slots := #[] } ∧ IntsAre vs ns := by
  cases w with
  | list h1 h2 => exact ⟨_, h1, wellAll_ints h2⟩

/-- the law, called where the top stands -/
theorem joined {prog : Program} {w : World} {p : Program} {loose : List Str} {mean : ExcName → Option Value} {mg mb : Str → Option Value} {s : Shared} (T : Top p loose mean mg mb s.heap)
    (hnob : ∀ x ∈ (["abs", "len", "max", "range", "list", "sorted", "reversed", "enumerate", "sum"] : List Str), mg x = none) (hfns : ∀ d ∈ myDefs, d ∈ recsOf p) {fa l : Addr} {P : Params} {ns : List Int} (hmg : mg d26.name = some (.ref fa))
    (hw : Well P s.heap (.ref l) (ofPy (.list (ns.map .int)))) (hlen : ns.length ≤ 63) {Q E : Value → Shared → Prop}
    (hQ : ∀ h' tk, (∀ b o, s.heap.get? b = some o → h'.get? b = some o) → Q (.bool true) { s with heap := h', toks := tk }) : wpAny (model prog w) callerA (call (.ref fa) [.ref l]) Q E s := by
  obtain ⟨vs, hl, hI⟩ := well_ints hw
  let G : GE := { prog := prog, w := w, p := p, loose := loose, mean := mean, mg := mg, mb := mb, h₀ := s.heap, top := T, nob := hnob, fns := hfns }
  let look : Lk := fun b => if b = l then some { cls := .type "list", dict := none, data := .seq vs.toArray 0, slots := #[] } else none
  have hs : ∀ b o, look b = some o → s.heap.get? b = some o := fun b o e => by
    by_cases hb : b = l
    · subst hb
      have : look b = some _ := if_pos rfl
      rw [this] at e; cases e; exact hl
    · have : look b = none := if_neg hb
      rw [this] at e; cases e
  refine wpAny_mono (law_spec (G := G) (ns := ns) (by omega) callerA s look [.ref l] fa hmg rfl (by decide +kernel) (by decide +kernel) (fun _ _ e => e) hs (.cons (.lst (if_pos rfl) (by simpa using Reps.ofInts hI)) .nil) (fun _ _ q => nomatch q) List.nodup_nil) ?_ fun _ _ x => x.elim
  rintro v s' ⟨pv, cout, look', rfl, ⟨h', tk, rfl⟩, hk, _, _, _, hr, _, _⟩
  cases hr
  exact hQ h' tk fun b o e => hk b o (fun q => nomatch q) e
/-- what the law asks of its answer -/
theorem law_post (args ds : List WData) : (PySem.Challenge.rw_nn0262_01.row).toRowW.claim.post args (.bool true) ds = true := by
  show (WShape.has [] (.bool true) .bool && (WTm.eq .res (.lit (.bool true))).holds [] { args := args, res := some (.bool true), after := ds }) = true
  have h1 : WShape.has [] (.bool true) .bool = true := by simp [WShape.has, WShape.arms]
  have h2 : (WTm.eq .res (.lit (.bool true))).holds [] { args := args, res := some (.bool true), after := ds } = true := by
    unfold WTm.holds
    rw [w_eq_bool (k := true) (l := true) (by simp [WTm.value]) (by simp [WTm.value])]
    rfl
  rw [h1, h2]; rfl
/-- the defs and the class of the text -/
noncomputable def isDef : Stmt → Bool
  | .FunctionDef .. => true
  | .ClassDef .. => true
  | _ => false
noncomputable def view : Program := { PySem.Challenge.pw_nn0262_01 with main := { PySem.Challenge.pw_nn0262_01.main with body := PySem.Challenge.pw_nn0262_01.main.body.filter isDef } }
end Mine
end

open PySem PySem.W PyProof.Rows
set_option maxRecDepth 100000 in
set_option maxHeartbeats 8000000 in
theorem PySem.Challenge.cw_nn0262_01_holds : PySem.Challenge.rw_nn0262_01.Holds := by
  w_on
  o_law
  refine holds_open (q := Mine.view) (loose := []) (Xt := fun s => xlAt Mine.view [] s && recOk (RowW.records (OpenRow.toRowW PySem.Challenge.rw_nn0262_01.row)) s) (XP := XL Mine.view []) (Yf := Hook.obs Hook.none) (Ya := Hook.val Hook.none) (YP := Hook.says Hook.none) (N := 2370) ?hl (Hook.of Hook.none) (Hook.keeps Hook.none)
    (fun s e => xl_of s (Bool.and_eq_true_iff.mp e).1) XL.keeps (by rfl) (by rfl) (by rfl) (fun s e => recFacts_of (Bool.and_eq_true_iff.mp e).2) (by rfl) (by assumption) (by decide +kernel) ⟨rfl, rfl, rfl, rfl, rfl, by decide +kernel⟩ ?hw ?hc
  case hl =>
    intro w
    kernel_rfl
  case hw => w_witness2
  intro w s₀ s₁ mg mb G Y fa o pm cd doc dV kV ho hd hcd hD hmg hg args vals as hpre hlay hrd hwl hlo
  refine Ground.open G ?_
  intro T B D TE TW
  clear G Y B D TE TW hcd hD
  wrow_args hpre hlay hrd hwl hlo
  refine Mine.joined T ?nob ?fns hmg (by assumption) (by omega) ?_
  case nob =>
    intro x hx
    simp only [List.mem_cons, List.not_mem_nil, or_false] at hx
    rcases hx with rfl | rfl | rfl | rfl | rfl | rfl | rfl | rfl | rfl
    all_goals exact T.free _ (by decide +kernel) (by decide +kernel) (by decide +kernel) (by decide +kernel) (by decide +kernel)
  case fns =>
    intro d hd
    exact hd
  intro h' tk hk
  refine GoodW.toG ⟨.inl ⟨_, .bool true, [], rfl, fun _ => rfl, .bool _, ?_, fun _ => ⟨List.nodup_nil, fun _ q => nomatch q⟩⟩, hk, rfl, hg⟩
  exact Mine.law_post _ _
