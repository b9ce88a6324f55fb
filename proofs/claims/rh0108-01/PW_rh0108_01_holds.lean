import PyProof.Rows.All
import PyProof.ExcBaseAll.Exception
import PyProof.ExcAttrAll.Exception
import PyProof.RulesAs
import KE.KEqDat
import Wide.FinOn
import OpenK.AllK
import Wide.All
import Lean
import PySem.Challenge.RW_rh0108_01
set_option maxRecDepth 100000
set_option autoImplicit false
set_option linter.all false
set_option Elab.async false
set_option genSizeOf false
set_option bootstrap.genMatcherCode false
set_option compiler.extract_closed false
namespace Mine
open PySem PySem.Calls PySem.Spec PyProof.Rows PySem.W
noncomputable abbrev pw : Program := PySem.Challenge.pw_rh0108_01
noncomputable abbrev rl : OpenLaw := PySem.Challenge.rw_rh0108_01
theorem said_tw : PySem.W.Fast.tw9446332074065402090 rl = true := by kernel_rfl
theorem said_ok : rl.wellSaid = true := by rw [PySem.W.Fast.te9446332074065402090]; exact said_tw
end Mine

namespace Mine
open PySem PySem.Calls PySem.Spec PyProof.Rows PySem.W

theorem no {α : Type} {o : Option α} {x : α} (e : o = none) (h : o = some x) : False := by rw [e] at h; cases h
theorem so {α : Type} {o : Option α} {x y : α} (e : o = some x) (h : o = some y) : x = y := Option.some.inj (e.symm.trans h)
/-- values: tuples as trees, mutable things by their address, the rest as it is -/
inductive V where
  | none
  | bool (b : Bool)
  | int (i : Int)
  | str (s : Str)
  | tup (l : List V)
  | ref (a : Addr)
  | prim (v : Value)

mutual
inductive Rep (h : Heap) : Value → V → Prop
  | none : Rep h .none .none
  | bool (b : Bool) : Rep h (.bool b) (.bool b)
  | int (i : Int) (t : Tok) : Rep h (.int i t) (.int i)
  | str (s : Str) (t : Tok) : Rep h (.str s t) (.str s)
  | tup {a : Addr} {vs : List Value} {l : List V} : IsTup h a vs.toArray → RepL h vs l → Rep h (.ref a) (.tup l)
  | ref (a : Addr) : Rep h (.ref a) (.ref a)
  | prim (v : Value) : Rep h v (.prim v)
inductive RepL (h : Heap) : List Value → List V → Prop
  | nil : RepL h [] []
  | cons {v : Value} {x : V} {vs : List Value} {xs : List V} : Rep h v x → RepL h vs xs → RepL h (v :: vs) (x :: xs)
end

/-- tuples stay -/
noncomputable def Kt (h h' : Heap) : Prop := ∀ a vs, IsTup h a vs → IsTup h' a vs
theorem RepL.ind {h : Heap} {P : List Value → List V → Prop} (nil : P [] []) (cons : ∀ {v : Value} {x : V} {vs : List Value} {xs : List V}, Rep h v x → RepL h vs xs → P vs xs → P (v :: vs) (x :: xs)) {vs : List Value} {xs : List V} (r : RepL h vs xs) : P vs xs :=
  RepL.rec (motive_1 := fun _ _ _ => True) (motive_2 := fun vs xs _ => P vs xs) trivial (fun _ => trivial) (fun _ _ => trivial) (fun _ _ => trivial) (fun _ _ _ => trivial) (fun _ => trivial) (fun _ => trivial) nil (fun a b _ ih => cons a b ih) r
theorem Rep.mono {h h' : Heap} (k : Kt h h') {v : Value} {x : V} (r : Rep h v x) : Rep h' v x :=
  Rep.rec (motive_1 := fun v x _ => Rep h' v x) (motive_2 := fun vs xs _ => RepL h' vs xs) .none .bool .int .str (fun a _ b => .tup (k _ _ a) b) .ref .prim .nil (fun _ _ a b => .cons a b) r
theorem RepL.mono {h h' : Heap} (k : Kt h h') {vs : List Value} {xs : List V} (r : RepL h vs xs) : RepL h' vs xs := RepL.ind .nil (fun a _ ih => .cons (Rep.mono k a) ih) r
theorem RepL.length {h : Heap} {vs : List Value} {xs : List V} (r : RepL h vs xs) : vs.length = xs.length := RepL.ind (P := fun vs xs => vs.length = xs.length) rfl (fun _ _ ih => congrArg Nat.succ ih) r
theorem RepL.append {h : Heap} {vs : List Value} {xs : List V} {us : List Value} {ys : List V} (r : RepL h vs xs) (q : RepL h us ys) : RepL h (vs ++ us) (xs ++ ys) := RepL.ind (P := fun vs xs => RepL h (vs ++ us) (xs ++ ys)) q (fun a _ ih => .cons a ih) r
theorem RepL.get {h : Heap} {vs : List Value} {xs : List V} {i : Nat} {x : V} (r : RepL h vs xs) : xs[i]? = some x → ∃ v, vs[i]? = some v ∧ Rep h v x := by
  revert i
  exact fun {i} => RepL.ind (P := fun vs xs => ∀ i : Nat, xs[i]? = some x → ∃ v, vs[i]? = some v ∧ Rep h v x) (fun _ e => (no rfl e).elim) (fun a _ ih i e => by
    cases i with
    | zero => exact ⟨_, rfl, Option.some.inj e ▸ a⟩
    | succ i => exact ih i e) r i
theorem RepL.drop {h : Heap} {vs : List Value} {xs : List V} (i : Nat) (r : RepL h vs xs) : RepL h (vs.drop i) (xs.drop i) := by
  revert i
  exact RepL.ind (P := fun vs xs => ∀ i, RepL h (vs.drop i) (xs.drop i)) (fun i => by rw [List.drop_nil, List.drop_nil]; exact .nil) (fun a b ih i => by
    cases i with
    | zero => exact .cons a b
    | succ i => exact ih i) r
theorem RepL.take {h : Heap} {vs : List Value} {xs : List V} (i : Nat) (r : RepL h vs xs) : RepL h (vs.take i) (xs.take i) := by
  revert i
  exact RepL.ind (P := fun vs xs => ∀ i, RepL h (vs.take i) (xs.take i)) (fun i => by rw [List.take_nil, List.take_nil]; exact .nil) (fun a b ih i => by
    cases i with
    | zero => exact .nil
    | succ i => exact .cons a (ih i)) r
theorem RepL.reverse {h : Heap} {vs : List Value} {xs : List V} (r : RepL h vs xs) : RepL h vs.reverse xs.reverse := RepL.ind (P := fun vs xs => RepL h vs.reverse xs.reverse) .nil (fun a _ ih => by rw [List.reverse_cons, List.reverse_cons]; exact ih.append (.cons a .nil)) r
theorem RepL.set {h : Heap} {vs : List Value} {xs : List V} (i : Nat) {v : Value} {x : V} (r : RepL h vs xs) (q : Rep h v x) : RepL h (vs.set i v) (xs.set i x) := by
  revert i
  exact RepL.ind (P := fun vs xs => ∀ i, RepL h (vs.set i v) (xs.set i x)) (fun i => .nil) (fun a b ih i => by
    cases i with
    | zero => exact .cons q b
    | succ i => exact .cons a (ih i)) r

theorem Kt.refl (h : Heap) : Kt h h := fun _ _ x => x
theorem Kt.trans {h₁ h₂ h₃ : Heap} (x : Kt h₁ h₂) (y : Kt h₂ h₃) : Kt h₁ h₃ := fun a vs e => y a vs (x a vs e)
theorem Kt.of_keeps {h h' : Heap} (k : ∀ b o, h.get? b = some o → h'.get? b = some o) : Kt h h' := fun _ _ z0 => by obtain ⟨o, ho, r⟩ := z0; exact ⟨o, k _ _ ho, r⟩
/-- one thing that is no tuple changes -/
theorem Kt.of_but {h h' : Heap} {a : Addr} (k : Heap.ExtBut a h h') (hn : ∀ vs, ¬ IsTup h a vs) : Kt h h' := fun b vs x => by
  by_cases hb : b = a
  · subst hb; exact absurd x (hn vs)
  · obtain ⟨o, ho, r⟩ := x; exact ⟨o, k b o hb ho, r⟩

/-- what a mutable thing holds -/
inductive M where
  | list (l : List V)
  | dictI (l : List (Int × V))
  | dictS (l : List (Str × V))
  | dictP (l : List ((Int × Int) × V))
  | inst (C d : Addr)
  | attrs (l : List (Str × V))
  | set (S : Int → Bool) (n : Nat)
  /-- an exception of an own class: its dict if it has one, its traceback if it has one -/
  | exc (C : Addr) (d tb : Option Addr)
  | tb (fl : Value)
  /-- a list that nobody writes -/
  | fixed (vs : List Value) (n : Nat)
noncomputable abbrev HM := Addr → Option M
noncomputable abbrev Loc := Str → Option V
noncomputable def upd (H : HM) (a : Addr) (m : M) : HM := fun b => if b = a then some m else H b
noncomputable def put (loc : Loc) (x : Str) (v : V) : Loc := fun y => if y = x then some v else loc y

variable (prog : Program) (w : World)
inductive RepKV {K : Type} (h : Heap) : List (K × Value) → List (K × V) → Prop
  | nil : RepKV h [] []
  | cons {k : K} {v : Value} {x : V} {kvs : List (K × Value)} {l : List (K × V)} : Rep h v x → RepKV h kvs l → RepKV h ((k, v) :: kvs) ((k, x) :: l)
inductive RepP (h : Heap) : List (List Int × Addr × Value) → List ((Int × Int) × V) → Prop
  | nil : RepP h [] []
  | cons {i j : Int} {a : Addr} {v : Value} {x : V} {kvs : List (List Int × Addr × Value)} {l : List ((Int × Int) × V)} : Rep h v x → RepP h kvs l → RepP h (([i, j], a, v) :: kvs) (((i, j), x) :: l)
/-- an object's attributes -/
inductive RepA (h : Heap) : List DictEntry → List (Str × V) → Prop
  | nil : RepA h [] []
  | cons {hsh : Int} {n : Str} {t : Tok} {v : Value} {x : V} {es : List DictEntry} {l : List (Str × V)} : Rep h v x → RepA h es l → RepA h (⟨hsh, .str n t, v⟩ :: es) ((n, x) :: l)
noncomputable def RepM (h : Heap) (a : Addr) : M → Prop
  | .list l => ∃ vs n, h.get? a = some { cls := .type "list", data := .seq vs n } ∧ RepL h vs.toList l
  | .dictI l => ∃ kvs, h.DictOf (intKind prog w) a kvs ∧ RepKV h kvs l
  | .dictS l => ∃ kvs, h.DictOf (strKind prog w) a kvs ∧ RepKV h kvs l
  | .dictP l => ∃ kvs, h.DictOfH (tupleKind (intKind prog w)) a kvs ∧ RepP h kvs l
  | .inst C d => h.get? a = some (instObj C d)
  | .attrs l => ∃ es n, h.get? a = some (dictOf es n) ∧ RepA h es l ∧ es.length ≤ 500
  | .set S n => h.SetOf (intKind prog w) a S n
  | .exc C d tb => ∃ o vs, h.get? a = some o ∧ o.cls = .ref C ∧ o.dict = d ∧ o.data = .fields vs ∧ vs.size = 6 ∧ vs[1]? = some (tb.elim .none .ref)
  | .fixed vs n => h.get? a = some { cls := .type "list", data := .seq vs.toArray n }
  | .tb fl => ∃ o ts, h.get? a = some o ∧ o.cls = .type "traceback" ∧ o.data = .fields ts ∧ ts[3]? = some fl
end Mine

namespace Mine
open PySem PySem.Calls PySem.Spec PyProof.Rows PySem.W

/-- an own exception class, its mother own too -/
structure ExcCls (K : Frag) (C : Addr) : Prop where
  cd : ∃ cd Bs, clsIn K C = some cd ∧ cd.mro = [.ref C, .ref Bs, .type "Exception", .type "BaseException", .type "object"] ∧ cd.hasDict = true
  seta : findIn K (.ref C) "__setattr__" = some (some (.builtin "object.__setattr__"))
/-- reading attributes of an own exception class's objects -/
structure ExcGet (K : Frag) (C : Addr) (nm : Str) : Prop where
  ga : findIn K (.ref C) "__getattribute__" = some (some (.builtin "BaseException.__getattribute__"))
  hook : findIn K (.ref C) "__getattr__" = some none
  none : findIn K (.ref C) nm = some none
/-- what is known of the text's own things: global names, attributes that read and store plainly, methods, classes' __init__ -/
structure Tab where
  glob : Str → Option V
  attr : Addr → Str → Bool
  seta : Addr → Str → Bool
  meth : Addr → Str → Option Addr
  cls : Addr → Option Addr
  fn : Addr → Bool
  frag : Frag
  exc : Addr
/-- a global name's value -/
noncomputable def GlobAt (B0 : Heap) (x : Str) (u : Value) : Prop :=
  ∀ (M : Model) (A : Around) (E : Value → Shared → Prop) (s : Shared) (env : Env) (Q : Value → Shared → Prop), env.globals = mainGlobals → env.builtins = builtinsNs → (∀ b o, B0.get? b = some o → s.heap.get? b = some o) → Q u s → wpAny M A (loadGlobal env x) Q E s
structure TabOk (T : Tab) (K : Frag) (B0 : Heap) : Prop where
  frag : T.frag = K
  exc : ExcCls K T.exc ∧ (∃ o, K.lookup T.exc = some o ∧ o.cls = .type "type") ∧ ExcGet K T.exc "ball"
  glob : ∀ x v, T.glob x = some v → ∃ u, Rep B0 u v ∧ GlobAt B0 x u
  attr : ∀ C n, T.attr C n = true → plainGet K C n = true ∧ hasDictIn K C = true ∧ ∃ a, findIn K (.ref C) n = some a ∧ noGet K a = true
  seta : ∀ C n, T.seta C n = true → findIn K (.ref C) "__setattr__" = some (some (.builtin "object.__setattr__")) ∧ plainOver K C = true ∧ takerIn K C n = some none ∧ hasDictIn K C = true
  meth : ∀ C n f, T.meth C n = some f → plainGet K C n = true ∧ findIn K (.ref C) n = some (some (.ref f)) ∧ isFn K (.ref f) = true ∧ keepIn K (.ref f) = true
  cls : ∀ C f, T.cls C = some f → makesIn K C = true ∧ findIn K (.ref C) "__init__" = some (some (.ref f)) ∧ isFn K (.ref f) = true ∧ keepIn K (.ref C) = true
  fn : ∀ f, T.fn f = true → keepIn K (.ref f) = true
/-- what stands around a piece of a def's body: the world, the heap of the law's start, the block, its locals, the frames below, what a raise must meet -/
structure Cx where
  w : World
  T : Tab
  K : Frag
  B0 : Heap
  env : Env
  L : Addr
  fr : List Env
  gd : Option (List Code)
  X : Value → Shared → Prop
  os : OsState
  lo : Heap
noncomputable def Cx.A (c : Cx) (dp un : Nat) : Around := { handled := none, depth := dp, frames := some c.fr, guards := c.gd, units := un }
noncomputable def Cx.frs (c : Cx) : List Addr := c.fr.filterMap (·.frame)
noncomputable def Cx.cells (c : Cx) : List Addr := c.env.cells.map (·.2)

variable (prog : Program)
structure LocOk (c : Cx) (loc : Loc) (h : Heap) : Prop where
  ns : ∃ m, h.Ns c.L m ∧ ∀ x v, loc x = some v → (c.env.kindOf x = some .local ∧ ∃ u, m x = some u ∧ Rep h u v) ∨ (c.env.kindOf x = some .cell ∧ ∃ a u, c.env.cells.lookup x = some a ∧ h.IsCell a (some u) ∧ Rep h u v)
  cl : ∀ a ∈ c.cells, ∃ v, h.IsCell a v
structure ObjAt (c : Cx) (B h : Heap) (a : Addr) (m : M) : Prop where
  nb : B.get? a = none
  nf : a ∉ c.frs
  nL : a ≠ c.L
  nC : a ∉ c.cells
  rep : RepM prog c.w h a m
theorem ObjAt.wx {prog : Program} {c c' : Cx} {B h : Heap} {a : Addr} {m : M} (o : ObjAt prog c B h a m) (hw : c'.w = c.w) (hL : c'.L = c.L) (hC : c'.cells = c.cells) (hf : c'.frs = c.frs) : ObjAt prog c' B h a m := ⟨o.nb, hf ▸ o.nf, hL ▸ o.nL, hC ▸ o.nC, hw ▸ o.rep⟩
structure Good (c : Cx) (B : Heap) (loc : Loc) (H : HM) (s : Shared) : Prop where
  sub : ∀ b o, c.B0.get? b = some o → B.get? b = some o
  kp : ∀ b o, B.get? b = some o → b ∉ c.frs → s.heap.get? b = some o
  ks : B.UpToSlots s.heap
  apart : ∀ b, b = c.L ∨ b ∈ c.cells → B.get? b = none
  obj : ∀ a m, H a = some m → ObjAt prog c B s.heap a m
  loc : LocOk c loc s.heap
  gens : s.gens = #[]
  os : s.os = c.os
  fr : ∀ b ∈ c.frs, ∃ o es n, s.heap.get? b = some o ∧ o.data = .dict es n
  lo : ∀ b o, c.lo.get? b = some o → (b ∉ c.frs → B.get? b = some o) ∧ ((∀ vs, o.data ≠ .fields vs) → ∃ sl, B.get? b = some { o with slots := sl })
/-- what is known of the frames and the block -/
structure CxOk (c : Cx) : Prop where
  kind : c.env.scope.kind = .function
  glob : c.env.globals = mainGlobals
  blt : c.env.builtins = builtinsNs
  locals : c.env.locals = c.L
  apart : ∀ b ∈ c.frs, c.B0.get? b = none
  Lc : c.L ∉ c.cells
  inj : ∀ x y a, c.env.cells.lookup x = some a → c.env.cells.lookup y = some a → x = y
  newL : c.B0.get? c.L = none
  newC : ∀ b ∈ c.cells, c.B0.get? b = none
  nl : c.B0.NoLimit
  kin : c.K.In c.B0
  sysm : ∃ o, c.B0.get? sysModules = some o
  tab : TabOk c.T c.K c.B0
  above : c.B0.objs.size ≤ c.L
  each : ∀ e ∈ c.fr, e.scope.kind ≠ .module ∧ ∃ L, e.frame = some L

/-- the room: calls n deep still fit; k steps of loops have been used up -/
noncomputable def Room (n k dp un : Nat) : Prop := dp + 2 * n + 2 < recursionLimit ∧ un + 16 * n + 120 ≤ cLine + k ∧ k ≤ 8

noncomputable abbrev QV := V → HM → Prop
/-- what is so behind a tree's run -/
inductive PV (prog : Program) (c : Cx) (B : Heap) (loc : Loc) (Q : QV) (v : Value) (s' : Shared) : Prop
  | mk (r : V) (H' : HM) (a : Rep s'.heap v r) (g : Good prog c B loc H' s') (q : Q r H') : PV prog c B loc Q v s'
inductive PVs (prog : Program) (c : Cx) (B : Heap) (loc : Loc) (Q : List V → HM → Prop) (v : List Value) (s' : Shared) : Prop
  | mk (r : List V) (H' : HM) (a : RepL s'.heap v r) (g : Good prog c B loc H' s') (q : Q r H') : PVs prog c B loc Q v s'
inductive PB (prog : Program) (c : Cx) (B : Heap) (loc : Loc) (Q : Bool → HM → Prop) (v : Bool) (s' : Shared) : Prop
  | mk (H' : HM) (g : Good prog c B loc H' s') (q : Q v H') : PB prog c B loc Q v s'
inductive PU (prog : Program) (c : Cx) (B : Heap) (loc : Loc) (Q : HM → Prop) (v : Unit) (s' : Shared) : Prop
  | mk (H' : HM) (g : Good prog c B loc H' s') (q : Q H') : PU prog c B loc Q v s'
/-- a tree that hands back a value -/
noncomputable def TV (c : Cx) (n k : Nat) (t : Sem Value) (loc : Loc) (H : HM) (Q : QV) : Prop :=
  ∀ B dp un s, Room n k dp un → Good prog c B loc H s →
    wpAny (model prog c.w) (c.A dp un) t (PV prog c B loc Q) c.X s
/-- a list of values -/
noncomputable def TL (c : Cx) (n k : Nat) (t : Sem (List Value)) (loc : Loc) (H : HM) (Q : List V → HM → Prop) : Prop :=
  ∀ B dp un s, Room n k dp un → Good prog c B loc H s →
    wpAny (model prog c.w) (c.A dp un) t (PVs prog c B loc Q) c.X s
noncomputable def TB (c : Cx) (n k : Nat) (t : Sem Bool) (loc : Loc) (H : HM) (Q : Bool → HM → Prop) : Prop :=
  ∀ B dp un s, Room n k dp un → Good prog c B loc H s →
    wpAny (model prog c.w) (c.A dp un) t (PB prog c B loc Q) c.X s
inductive Fl where
  | next | brk | cont
  | ret (v : V)
inductive RepF (h : Heap) : Flow → Fl → Prop
  | next : RepF h .next .next
  | brk : RepF h .brk .brk
  | cont : RepF h .cont .cont
  | ret {v : Value} {x : V} : Rep h v x → RepF h (.ret v) (.ret x)
noncomputable abbrev QF := Fl → Loc → HM → Prop
inductive PF (prog : Program) (c : Cx) (B : Heap) (Q : QF) (v : Flow) (s' : Shared) : Prop
  | mk (r : Fl) (loc' : Loc) (H' : HM) (a : RepF s'.heap v r) (g : Good prog c B loc' H' s') (q : Q r loc' H') : PF prog c B Q v s'
noncomputable def TF (c : Cx) (n k : Nat) (t : Sem Flow) (loc : Loc) (H : HM) (Q : QF) : Prop :=
  ∀ B dp un s, Room n k dp un → Good prog c B loc H s →
    wpAny (model prog c.w) (c.A dp un) t (PF prog c B Q) c.X s

/-- what a step of the same block keeps -/
structure Keep (c : Cx) (H : HM) (h h' : Heap) : Prop where
  kp : ∀ b o, h.get? b = some o → H b = none → b ≠ c.L → b ∉ c.cells → b ∉ c.frs → h'.get? b = some o
  ks : ∀ b o, h.get? b = some o → H b = none → b ≠ c.L → b ∉ c.cells → (∀ vs, o.data ≠ .fields vs) → ∃ sl, h'.get? b = some { o with slots := sl }

noncomputable def domOf (H : HM) (h : Heap) : List Addr := (List.range h.objs.size).filter fun a => (H a).isSome
theorem mem_dom {H : HM} {h : Heap} {a : Addr} {o : Obj} (e : h.get? a = some o) : a ∈ domOf H h ↔ H a ≠ none := by
  unfold domOf
  rw [List.mem_filter, List.mem_range]
  have := Heap.lt_size e
  cases H a <;> simp [this]
section
variable {prog} {c : Cx} {B : Heap} {loc loc' : Loc} {H H' : HM} {s s' : Shared}
/-- all that this block does not change -/
noncomputable def baseOf (c : Cx) (H : HM) (h : Heap) : Heap := hideAll h (c.L :: c.cells ++ domOf H h)
theorem baseOf_get {h : Heap} {b : Addr} {o : Obj} (e : h.get? b = some o) (hH : H b = none) (hL : b ≠ c.L) (hC : b ∉ c.cells) : (baseOf c H h).get? b = some o := by
  refine hideAll_get _ e fun q => ?_
  simp only [List.cons_append, List.mem_cons, List.mem_append] at q
  rcases q with q | q | q
  · exact hL q
  · exact hC q
  · exact (mem_dom e).mp q hH
theorem baseOf_of {h : Heap} {b : Addr} {o : Obj} (e : (baseOf c H h).get? b = some o) : h.get? b = some o ∧ H b = none ∧ b ≠ c.L ∧ b ∉ c.cells := by
  have h1 := of_hideAll _ e
  have n1 : b ∉ (c.L :: c.cells ++ domOf H h) := fun q => by
    have z := hideAll_none (h := h) _ q
    unfold baseOf at e
    first | exact (no z e).elim | exact (no e z).elim | obtain rfl := so z e | (rw [z] at e; cases e)
  simp only [List.cons_append, List.mem_cons, List.mem_append, not_or] at n1
  refine ⟨h1, ?_, n1.1, n1.2.1⟩
  cases q : H b with
  | none => rfl
  | some m => exact absurd ((mem_dom h1).mpr (by rw [q]; simp)) n1.2.2

theorem Good.stat (G : Good prog c B loc H s) (K : CxOk c) : ∀ b o, c.B0.get? b = some o → s.heap.get? b = some o := fun b o e =>
  G.kp b o (G.sub b o e) fun q => by first | exact (no (K.apart b q) e).elim | exact (no e (K.apart b q)).elim | obtain rfl := so (K.apart b q) e | (rw [K.apart b q] at e; cases e)

/-- the widest base at a state -/
theorem Good.wide (G : Good prog c B loc H s) (K : CxOk c) : Good prog c (baseOf c H s.heap) loc H s where
  sub b o e := by
    refine baseOf_get (G.stat K b o e) ?_ (fun q => ?_) fun q => ?_
    · cases q : H b with
      | none => rfl
      | some m => have := (G.obj b m q).nb; first | exact (no (G.sub b o e) this).elim | exact (no this (G.sub b o e)).elim | obtain rfl := so (G.sub b o e) this | (rw [G.sub b o e] at this; cases this)
    · have := K.newL; rw [← q, e] at this; cases this
    · have := K.newC b q; first | exact (no e this).elim | exact (no this e).elim | obtain rfl := so e this | (rw [e] at this; cases this)
  kp b o e _ := (baseOf_of e).1
  ks b o e _ := ⟨o.slots, (baseOf_of e).1⟩
  apart b hb := by
    cases q : (baseOf c H s.heap).get? b with
    | none => rfl
    | some o =>
      obtain ⟨_, _, h1, h2⟩ := baseOf_of q
      exact (hb.elim h1 h2).elim
  obj a m e := by
    obtain ⟨h1, h2, h3, h4, h5⟩ := G.obj a m e
    refine ⟨?_, h2, h3, h4, h5⟩
    cases q : (baseOf c H s.heap).get? a with
    | none => rfl
    | some o => have := (baseOf_of q).2.1; first | exact (no e this).elim | exact (no this e).elim | obtain rfl := so e this | (rw [e] at this; cases this)
  loc := G.loc
  gens := G.gens
  os := G.os
  fr := G.fr
  lo b o e := by
    obtain ⟨l1, l2⟩ := G.lo b o e
    have nH : ∀ o', B.get? b = some o' → H b = none := fun o' e' => by
      cases q : H b with
      | none => rfl
      | some m => have := (G.obj b m q).nb; first | exact (no e' this).elim | exact (no this e').elim | obtain rfl := so e' this | (rw [e'] at this; cases this)
    have nL : ∀ o', B.get? b = some o' → b ≠ c.L := fun o' e' q => by have := G.apart b (.inl q); first | exact (no e' this).elim | exact (no this e').elim | obtain rfl := so e' this | (rw [e'] at this; cases this)
    have nC : ∀ o', B.get? b = some o' → b ∉ c.cells := fun o' e' q => by have := G.apart b (.inr q); first | exact (no e' this).elim | exact (no this e').elim | obtain rfl := so e' this | (rw [e'] at this; cases this)
    refine ⟨fun hb => baseOf_get (G.kp b o (l1 hb) hb) (nH _ (l1 hb)) (nL _ (l1 hb)) (nC _ (l1 hb)), fun hn => ?_⟩
    obtain ⟨sl, z⟩ := l2 hn
    obtain ⟨sl', z'⟩ := G.ks b _ z hn
    exact ⟨sl', baseOf_get z' (nH _ z) (nL _ z) (nC _ z)⟩
/-- back from the widest base -/
theorem Good.narrow (G : Good prog c B loc H s) (G' : Good prog c (baseOf c H s.heap) loc' H' s') : Good prog c B loc' H' s' where
  sub := G.sub
  kp b o e hf := by
    refine G'.kp b o (baseOf_get (G.kp b o e hf) ?_ (fun q => ?_) fun q => ?_) hf
    · cases q : H b with
      | none => rfl
      | some m => have := (G.obj b m q).nb; first | exact (no e this).elim | exact (no this e).elim | obtain rfl := so e this | (rw [e] at this; cases this)
    · have := G.apart b (.inl q); first | exact (no e this).elim | exact (no this e).elim | obtain rfl := so e this | (rw [e] at this; cases this)
    · have := G.apart b (.inr q); first | exact (no e this).elim | exact (no this e).elim | obtain rfl := so e this | (rw [e] at this; cases this)
  ks b o e hn := by
    obtain ⟨sl, hs⟩ := G.ks b o e hn
    obtain ⟨sl', hs'⟩ := G'.ks b _ (baseOf_get (c := c) (H := H) hs (by
      cases q : H b with
      | none => rfl
      | some m => have := (G.obj b m q).nb; first | exact (no e this).elim | exact (no this e).elim | obtain rfl := so e this | (rw [e] at this; cases this)) (fun q => by have := G.apart b (.inl q); first | exact (no e this).elim | exact (no this e).elim | obtain rfl := so e this | (rw [e] at this; cases this)) fun q => by
        have := G.apart b (.inr q); first | exact (no e this).elim | exact (no this e).elim | obtain rfl := so e this | (rw [e] at this; cases this)) hn
    exact ⟨sl', hs'⟩
  apart := G.apart
  obj a m e := by
    obtain ⟨h1, h2, h3, h4, h5⟩ := G'.obj a m e
    refine ⟨?_, h2, h3, h4, h5⟩
    cases q : B.get? a with
    | none => rfl
    | some o =>
      exfalso
      have hL : a ≠ c.L := h3
      have hn : H a = none := by
        cases z : H a with
        | none => rfl
        | some m' => have := (G.obj a m' z).nb; first | exact (no q this).elim | exact (no this q).elim | obtain rfl := so q this | (rw [q] at this; cases this)
      have := baseOf_get (c := c) (H := H) (G.kp a o q h2) hn h3 h4
      first | exact (no h1 this).elim | exact (no this h1).elim | obtain rfl := so h1 this | (rw [h1] at this; cases this)
  loc := G'.loc
  gens := G'.gens
  os := G'.os
  fr := G'.fr
  lo := G.lo
theorem Good.keep (G' : Good prog c (baseOf c H s.heap) loc' H' s') : Keep c H s.heap s'.heap where
  kp b o e hH hL hC hf := G'.kp b o (baseOf_get e hH hL hC) hf
  ks b o e hH hL hC hn := by
    obtain ⟨sl, h⟩ := G'.ks b o (baseOf_get e hH hL hC) hn
    exact ⟨sl, h⟩
/-- a thing that is new is nowhere in the old heap -/
theorem Good.fresh (G' : Good prog c (baseOf c H s.heap) loc' H' s') {a : Addr} {m : M} (e : H' a = some m) (hH : H a = none) : s.heap.get? a = none := by
  obtain ⟨h1, _, h3, h4, _⟩ := G'.obj a m e
  cases q : s.heap.get? a with
  | none => rfl
  | some o => first | exact (no (baseOf_get q hH h3 h4) h1).elim | exact (no h1 (baseOf_get q hH h3 h4)).elim | obtain rfl := so (baseOf_get q hH h3 h4) h1 | (rw [baseOf_get q hH h3 h4] at h1; cases h1)
end
end Mine

namespace Mine
open PySem PySem.Calls PySem.Spec PyProof.Rows PySem.W

theorem repM_noTup {prog : Program} {w : World} {h : Heap} {a : Addr} {m : M} (r : RepM prog w h a m) : ∀ vs, ¬ IsTup h a vs := by
  rintro vs ⟨o, ho, hc, n, hd⟩
  cases m with
  | list l => obtain ⟨_, _, e, _⟩ := r; (first | exact (no e ho).elim | exact (no ho e).elim | obtain rfl := so e ho | (rw [e] at ho; cases ho)); simp at hc
  | dictI l => obtain ⟨_, ⟨o', es, ep, e, _, hd', _⟩, _⟩ := r; (first | exact (no e ho).elim | exact (no ho e).elim | obtain rfl := so e ho | (rw [e] at ho; cases ho)); rw [hd] at hd'; cases hd'
  | dictS l => obtain ⟨_, ⟨o', es, ep, e, _, hd', _⟩, _⟩ := r; (first | exact (no e ho).elim | exact (no ho e).elim | obtain rfl := so e ho | (rw [e] at ho; cases ho)); rw [hd] at hd'; cases hd'
  | dictP l => obtain ⟨_, ⟨o', es, ep, e, _, hd', _⟩, _⟩ := r; (first | exact (no e ho).elim | exact (no ho e).elim | obtain rfl := so e ho | (rw [e] at ho; cases ho)); rw [hd] at hd'; cases hd'
  | inst C d => have e : h.get? a = some (instObj C d) := r; (first | exact (no e ho).elim | exact (no ho e).elim | obtain rfl := so e ho | (rw [e] at ho; cases ho)); cases hd
  | attrs l => obtain ⟨_, _, e, _⟩ := r; (first | exact (no e ho).elim | exact (no ho e).elim | obtain rfl := so e ho | (rw [e] at ho; cases ho)); cases hd
  | set S n => obtain ⟨o', es, ep, t, e, _, hd', _⟩ := r; (first | exact (no e ho).elim | exact (no ho e).elim | obtain rfl := so e ho | (rw [e] at ho; cases ho)); rw [hd] at hd'; cases hd'
  | exc C d tb => obtain ⟨o', vs, e, _, _, hd', _⟩ := r; (first | exact (no e ho).elim | exact (no ho e).elim | obtain rfl := so e ho | (rw [e] at ho; cases ho)); rw [hd] at hd'; cases hd'
  | tb fl => obtain ⟨o', ts, e, _, hd', _⟩ := r; (first | exact (no e ho).elim | exact (no ho e).elim | obtain rfl := so e ho | (rw [e] at ho; cases ho)); rw [hd] at hd'; cases hd'
  | fixed l n => have e : h.get? a = some { cls := .type "list", data := .seq l.toArray n } := r; (first | exact (no e ho).elim | exact (no ho e).elim | obtain rfl := so e ho | (rw [e] at ho; cases ho)); simp at hc

theorem repM_there {prog : Program} {w : World} {h : Heap} {a : Addr} {m : M} (r : RepM prog w h a m) : ∃ o, h.get? a = some o := by
  cases m with
  | list l => obtain ⟨_, _, e, _⟩ := r; exact ⟨_, e⟩
  | dictI l => obtain ⟨_, ⟨o', es, ep, e, _⟩, _⟩ := r; exact ⟨_, e⟩
  | dictS l => obtain ⟨_, ⟨o', es, ep, e, _⟩, _⟩ := r; exact ⟨_, e⟩
  | dictP l => obtain ⟨_, ⟨o', es, ep, e, _⟩, _⟩ := r; exact ⟨_, e⟩
  | inst C d => exact ⟨_, r⟩
  | attrs l => obtain ⟨_, _, e, _⟩ := r; exact ⟨_, e⟩
  | set S n => obtain ⟨o', es, ep, t, e, _⟩ := r; exact ⟨_, e⟩
  | exc C d tb => obtain ⟨o', vs, e, _⟩ := r; exact ⟨_, e⟩
  | tb fl => obtain ⟨o', ts, e, _⟩ := r; exact ⟨_, e⟩
  | fixed l n => exact ⟨_, r⟩

section
variable {prog : Program} {c : Cx} {B : Heap} {loc loc' : Loc} {H H' : HM} {s s' : Shared} {n k dp un : Nat}
theorem Good.tupApart (G : Good prog c B loc H s) {a : Addr} {vs : Array Value} (t : IsTup s.heap a vs) : H a = none ∧ a ≠ c.L ∧ a ∉ c.cells := by
  obtain ⟨o, ho, hc, m, hd⟩ := t
  refine ⟨?_, ?_, ?_⟩
  · cases q : H a with
    | none => rfl
    | some m' => exact absurd ⟨o, ho, hc, m, hd⟩ (repM_noTup (G.obj a m' q).rep vs)
  · rintro rfl
    obtain ⟨_, ⟨o', es, ep, e, hd', _⟩, _⟩ := G.loc.ns
    (first | exact (no ho e).elim | exact (no e ho).elim | obtain rfl := so ho e | (rw [ho] at e; cases e)); rw [hd] at hd'; cases hd'
  · intro hm
    obtain ⟨_, o', e, hd'⟩ := G.loc.cl a hm
    (first | exact (no ho e).elim | exact (no e ho).elim | obtain rfl := so ho e | (rw [ho] at e; cases e)); rw [hd] at hd'; cases hd'
theorem Good.kt (G : Good prog c B loc H s) (K : Keep c H s.heap s'.heap) : Kt s.heap s'.heap := fun a vs t => by
  obtain ⟨h1, h2, h3⟩ := G.tupApart t
  obtain ⟨o, ho, hc, m, hd⟩ := t
  obtain ⟨sl, hs⟩ := K.ks a o ho h1 h2 h3 fun ws q => by first | exact (no q hd).elim | exact (no hd q).elim | obtain rfl := so q hd | (rw [q] at hd; cases hd)
  exact ⟨_, hs, hc, m, hd⟩
theorem Good.same (G : Good prog c B loc H s) (h1 : s'.heap = s.heap) (h2 : s'.gens = s.gens) (h3 : s'.os = s.os) : Good prog c B loc H s' where
  sub := G.sub
  lo := G.lo
  kp := by rw [h1]; exact G.kp
  ks := by rw [h1]; exact G.ks
  apart := G.apart
  obj := by rw [h1]; exact G.obj
  loc := by rw [h1]; exact G.loc
  gens := h2.trans G.gens
  os := h3.trans G.os
  fr := by rw [h1]; exact G.fr

/-- what holds behind a step: the new state, the old tuples, the rest of the heap -/
structure Aft (prog : Program) (c : Cx) (B : Heap) (H : HM) (s : Shared) (loc' : Loc) (H' : HM) (s' : Shared) : Prop where
  g : Good prog c B loc' H' s'
  kt : Kt s.heap s'.heap
  keep : Keep c H s.heap s'.heap
  fresh : ∀ a m, H' a = some m → H a = none → s.heap.get? a = none
theorem Good.aft (G : Good prog c B loc H s) (G' : Good prog c (baseOf c H s.heap) loc' H' s') : Aft prog c B H s loc' H' s' :=
  ⟨G.narrow G', G.kt G'.keep, G'.keep, fun _ _ e q => G'.fresh e q⟩

variable {Q : QV} {t : Sem Value}
theorem TV.run (h : TV prog c n k t loc H Q) (K : CxOk c) (R : Room n k dp un) (G : Good prog c B loc H s) {P : Value → Shared → Prop}
    (hP : ∀ v r H' s', Rep s'.heap v r → Aft prog c B H s loc H' s' → Q r H' → P v s') : wpAny (model prog c.w) (c.A dp un) t P c.X s :=
  wpAny_mono (h _ dp un s R (G.wide K)) (fun v s' z0 => by obtain ⟨r, H', hr, G', q⟩ := z0; exact hP v r H' s' hr (G.aft G') q) fun _ _ x => x
theorem TL.run {Q : List V → HM → Prop} {t : Sem (List Value)} (h : TL prog c n k t loc H Q) (K : CxOk c) (R : Room n k dp un) (G : Good prog c B loc H s) {P : List Value → Shared → Prop}
    (hP : ∀ v r H' s', RepL s'.heap v r → Aft prog c B H s loc H' s' → Q r H' → P v s') : wpAny (model prog c.w) (c.A dp un) t P c.X s :=
  wpAny_mono (h _ dp un s R (G.wide K)) (fun v s' z0 => by obtain ⟨r, H', hr, G', q⟩ := z0; exact hP v r H' s' hr (G.aft G') q) fun _ _ x => x
theorem TB.run {Q : Bool → HM → Prop} {t : Sem Bool} (h : TB prog c n k t loc H Q) (K : CxOk c) (R : Room n k dp un) (G : Good prog c B loc H s) {P : Bool → Shared → Prop}
    (hP : ∀ b H' s', Aft prog c B H s loc H' s' → Q b H' → P b s') : wpAny (model prog c.w) (c.A dp un) t P c.X s :=
  wpAny_mono (h _ dp un s R (G.wide K)) (fun v s' z0 => by obtain ⟨H', G', q⟩ := z0; exact hP v H' s' (G.aft G') q) fun _ _ x => x
theorem TF.run {Q : QF} {t : Sem Flow} (h : TF prog c n k t loc H Q) (K : CxOk c) (R : Room n k dp un) (G : Good prog c B loc H s) {P : Flow → Shared → Prop}
    (hP : ∀ f r loc' H' s', RepF s'.heap f r → Aft prog c B H s loc' H' s' → Q r loc' H' → P f s') : wpAny (model prog c.w) (c.A dp un) t P c.X s :=
  wpAny_mono (h _ dp un s R (G.wide K)) (fun v s' z0 => by obtain ⟨r, l, H', hr, G', q⟩ := z0; exact hP v r l H' s' hr (G.aft G') q) fun _ _ x => x
theorem TV.mono {Q' : QV} (h : TV prog c n k t loc H Q) (hQ : ∀ r H', Q r H' → Q' r H') : TV prog c n k t loc H Q' := fun B dp un s R G =>
  wpAny_mono (h B dp un s R G) (fun _ _ z0 => by obtain ⟨r, H', a, b, q⟩ := z0; exact ⟨r, H', a, b, hQ r H' q⟩) fun _ _ x => x

theorem Room.units (R : Room n k dp un) : un + 100 ≤ cLine := by obtain ⟨_, h, _⟩ := R; (first | lia | omega)
theorem Room.depth (R : Room n k dp un) : dp < recursionLimit := by obtain ⟨h, _⟩ := R; (first | lia | omega)
-- constants
theorem tv_int (i : Int) (kk : Nat) (pos : Pos) (h : Q (.int i) H) : TV prog c n k (eval (.Constant (.int i) kk pos) c.env) loc H Q := fun _ _ _ _ _ G =>
  wpAny_Constant_int ⟨_, H, .int i _, G.same rfl rfl rfl, h⟩
theorem tv_str (i : Str) (kk : Nat) (pos : Pos) (h : Q (.str i) H) : TV prog c n k (eval (.Constant (.str i) kk pos) c.env) loc H Q := fun _ _ _ _ _ G =>
  wpAny_Constant_str ⟨_, H, .str i _, G.same rfl rfl rfl, h⟩
theorem tv_none (kk : Nat) (pos : Pos) (h : Q .none H) : TV prog c n k (eval (.Constant .none kk pos) c.env) loc H Q := fun _ _ _ _ _ G =>
  wpAny_Constant_none ⟨_, H, .none, G, h⟩
theorem tv_bool (b : Bool) (kk : Nat) (pos : Pos) (h : Q (.bool b) H) : TV prog c n k (eval (.Constant (.bool b) kk pos) c.env) loc H Q := fun _ _ _ _ _ G =>
  wpAny_Constant_bool ⟨_, H, .bool b, G, h⟩
-- names
theorem tv_name (K : CxOk c) {x : Str} {v : V} (pos : Pos) (hx : loc x = some v) (hd : (x == ("__debug__" : Str)) = false) (h : Q v H) : TV prog c n k (eval (.Name x pos) c.env) loc H Q := fun B dp un s R G => by
  refine wpAny_Name ?_ hd
  obtain ⟨m, hns, hm⟩ := G.loc.ns
  rcases hm x v hx with ⟨hk, u, hu, hr⟩ | ⟨hk, a, u, hl, hc, hr⟩
  · exact wpAny_loadName_local K.kind hk (K.locals ▸ hns) hu ⟨v, H, hr, G, h⟩
  · exact wpAny_loadName_cell K.kind hk hl hc ⟨v, H, hr, G, h⟩
-- sums and the like
end
end Mine

namespace Mine
open PySem PySem.Calls PySem.Spec PyProof.Rows PySem.W

theorem RepA.mono {h h' : Heap} (k : Kt h h') {es : List DictEntry} {l : List (Str × V)} (r : RepA h es l) : RepA h' es l := by
  induction r with
  | nil => exact .nil
  | cons a _ ih => exact .cons (Rep.mono k a) ih
theorem RepKV.mono {K : Type} {h h' : Heap} (k : Kt h h') {kvs : List (K × Value)} {l : List (K × V)} (r : RepKV h kvs l) : RepKV h' kvs l := by
  induction r with
  | nil => exact .nil
  | cons a _ ih => exact .cons (Rep.mono k a) ih
theorem RepP.mono {h h' : Heap} (k : Kt h h') {kvs : List (List Int × Addr × Value)} {l : List ((Int × Int) × V)} (r : RepP h kvs l) : RepP h' kvs l := by
  induction r with
  | nil => exact .nil
  | cons a _ ih => exact .cons (Rep.mono k a) ih
theorem RepM.mono {prog : Program} {w : World} {h h' : Heap} {a : Addr} {m : M} (r : RepM prog w h a m) (kt : Kt h h') (ha : ∀ o, h.get? a = some o → h'.get? a = some o) : RepM prog w h' a m := by
  cases m with
  | list l => obtain ⟨vs, n, e, r⟩ := r; exact ⟨vs, n, ha _ e, RepL.mono kt r⟩
  | dictI l => obtain ⟨kvs, h2, r⟩ := r; exact ⟨kvs, h2.at ha, r.mono kt⟩
  | dictS l => obtain ⟨kvs, h2, r⟩ := r; exact ⟨kvs, h2.at ha, r.mono kt⟩
  | dictP l =>
    obtain ⟨xs, ⟨o, es, ep, e, h4, h5, h6, h7, h8⟩, r⟩ := r
    refine ⟨xs, ⟨o, es, ep, ha _ e, h4, h5, h6, fun x hx => ?_, h8⟩, r.mono kt⟩
    obtain ⟨o', its, m, e1, e2, e3, e4⟩ := h7 x hx
    obtain ⟨o'', f1, f2, m', f3⟩ := kt _ its ⟨o', e1, e2, m, e3⟩
    exact ⟨o'', its, m', f1, f2, f3, e4⟩
  | inst C d => exact ha _ r
  | attrs l => obtain ⟨es, n, e, r, z⟩ := r; exact ⟨es, n, ha _ e, RepA.mono kt r, z⟩
  | set S n => obtain ⟨o, es, ep, t, e, r⟩ := r; exact ⟨o, es, ep, t, ha _ e, r⟩
  | exc C d tb => obtain ⟨o, vs, e, r⟩ := r; exact ⟨o, vs, ha _ e, r⟩
  | tb fl => obtain ⟨o, ts, e, r⟩ := r; exact ⟨o, ts, ha _ e, r⟩
  | fixed l n => exact ha _ r

section
variable {prog : Program} {c : Cx} {B : Heap} {loc loc' : Loc} {H H' : HM} {s s' : Shared} {n k dp un : Nat}
theorem Good.lt (G : Good prog c B loc H s) {a : Addr} {m : M} (e : H a = some m) : a < s.heap.objs.size := by
  obtain ⟨o, ho⟩ := repM_there (G.obj a m e).rep
  exact Heap.lt_size ho
theorem Good.newNone (G : Good prog c B loc H s) : H s.heap.objs.size = none := by
  cases q : H s.heap.objs.size with
  | none => rfl
  | some m => exact absurd (G.lt q) (Nat.lt_irrefl _)
theorem Good.newApart (G : Good prog c B loc H s) : B.get? s.heap.objs.size = none ∧ s.heap.objs.size ∉ c.frs ∧ s.heap.objs.size ≠ c.L ∧ s.heap.objs.size ∉ c.cells := by
  have hf : s.heap.objs.size ∉ c.frs := fun q => by
    obtain ⟨o, _, _, e, _⟩ := G.fr _ q
    exact absurd (Heap.lt_size e) (Nat.lt_irrefl _)
  refine ⟨?_, hf, ?_, ?_⟩
  · cases q : B.get? s.heap.objs.size with
    | none => rfl
    | some o => exact absurd (Heap.lt_size (G.kp _ o q hf)) (Nat.lt_irrefl _)
  · intro q
    obtain ⟨m, hns, _⟩ := G.loc.ns
    exact absurd (q ▸ hns.lt) (Nat.lt_irrefl _)
  · intro q
    obtain ⟨_, o, e, _⟩ := G.loc.cl _ q
    exact absurd (Heap.lt_size e) (Nat.lt_irrefl _)
theorem LocOk.keeps {h h' : Heap} (l : LocOk c loc h) (hk : ∀ b o, h.get? b = some o → h'.get? b = some o) : LocOk c loc h' where
  ns := by
    obtain ⟨m, hns, hm⟩ := l.ns
    refine ⟨m, hns.keeps hk, fun x v e => ?_⟩
    rcases hm x v e with ⟨a, u, b, r⟩ | ⟨a, b, u, d, e, r⟩
    · exact .inl ⟨a, u, b, Rep.mono (Kt.of_keeps hk) r⟩
    · exact .inr ⟨a, b, u, d, e.keeps hk, Rep.mono (Kt.of_keeps hk) r⟩
  cl := fun a ha => let ⟨v, e⟩ := l.cl a ha; ⟨v, e.keeps hk⟩
/-- nothing known changes -/
theorem Good.more (G : Good prog c B loc H s) (hk : ∀ b o, s.heap.get? b = some o → s'.heap.get? b = some o) (h2 : s'.gens = s.gens) (h3 : s'.os = s.os) : Good prog c B loc H s' where
  sub := G.sub
  lo := G.lo
  kp b o e hf := hk b o (G.kp b o e hf)
  ks b o e hn := let ⟨sl, z⟩ := G.ks b o e hn; ⟨sl, hk _ _ z⟩
  apart := G.apart
  obj a m e := let ⟨h1, h2, h3, h4, h5⟩ := G.obj a m e; ⟨h1, h2, h3, h4, h5.mono (Kt.of_keeps hk) fun o => hk a o⟩
  loc := G.loc.keeps hk
  gens := h2.trans G.gens
  os := h3.trans G.os
  fr b hb := let ⟨o, es, n, e, r⟩ := G.fr b hb; ⟨o, es, n, hk b o e, r⟩
/-- a new thing is told -/
theorem Good.tell (G : Good prog c B loc H s) {a : Addr} {m : M} (h1 : B.get? a = none) (h2 : a ∉ c.frs) (h3 : a ≠ c.L) (h4 : a ∉ c.cells) (r : RepM prog c.w s.heap a m) : Good prog c B loc (upd H a m) s where
  sub := G.sub
  lo := G.lo
  kp := G.kp
  ks := G.ks
  apart := G.apart
  obj b m' e := by
    unfold upd at e
    by_cases hb : b = a
    · subst hb; (first | exact (no (if_pos rfl) e).elim | exact (no e (if_pos rfl)).elim | obtain rfl := so (if_pos rfl) e | (rw [if_pos rfl] at e; cases e)); exact ⟨h1, h2, h3, h4, r⟩
    · rw [if_neg hb] at e; exact G.obj b m' e
  loc := G.loc
  gens := G.gens
  os := G.os
  fr := G.fr
theorem Good.push (G : Good prog c B loc H s) (o : Obj) : Good prog c B loc H { s with heap := s.heap.push o } := G.more (fun _ _ e => Heap.get?_push_of_some o e) rfl rfl
/-- a new thing -/
theorem Good.new (G : Good prog c B loc H s) {o : Obj} {m : M} (r : RepM prog c.w (s.heap.push o) s.heap.objs.size m) : Good prog c B loc (upd H s.heap.objs.size m) { s with heap := s.heap.push o } := by
  obtain ⟨h1, h2, h3, h4⟩ := G.newApart
  exact (G.push o).tell h1 h2 h3 h4 r
theorem LocOk.but {h h' : Heap} {a : Addr} (l : LocOk c loc h) (hs : Heap.SameBut a h h') (h1 : a ≠ c.L) (h2 : a ∉ c.cells) (kt : Kt h h') : LocOk c loc h' where
  ns := by
    obtain ⟨m, hns, hm⟩ := l.ns
    refine ⟨m, hns.sameBut hs (Ne.symm h1), fun x v e => ?_⟩
    rcases hm x v e with ⟨a', u, b, r⟩ | ⟨a', b, u, d, e, r⟩
    · exact .inl ⟨a', u, b, Rep.mono kt r⟩
    · obtain ⟨o, e, q⟩ := e
      refine .inr ⟨a', b, u, d, ⟨o, (hs.2 b ?_).trans e, q⟩, Rep.mono kt r⟩
      rintro rfl
      exact h2 (by
        have := d
        exact List.mem_map.mpr ⟨(x, b), by
          clear hm
          revert d
          generalize c.env.cells = l
          intro d
          induction l with
          | nil => cases d
          | cons p l ih =>
            rw [List.lookup_cons] at d
            split at d
            · rename_i q
              cases d
              have : x = p.1 := by simpa using q
              subst this; exact .head _
            · exact .tail _ (ih d), rfl⟩)
  cl := fun b hb => let ⟨v, o, e, q⟩ := l.cl b hb; ⟨v, o, (hs.2 b (by rintro rfl; exact h2 hb)).trans e, q⟩
/-- a told thing changes -/
theorem Good.set (G : Good prog c B loc H s) {a : Addr} {m m' : M} {s' : Shared} (e : H a = some m) (hs : Heap.SameBut a s.heap s'.heap) (r : Kt s.heap s'.heap → RepM prog c.w s'.heap a m') (hg : s'.gens = s.gens) (ho : s'.os = s.os) : Good prog c B loc (upd H a m') s' := by
  obtain ⟨h1, h2, h3, h4, h5⟩ := G.obj a m e
  have kt : Kt s.heap s'.heap := Kt.of_but hs.extBut (repM_noTup h5)
  exact {
    sub := G.sub
    lo := G.lo
    kp := fun b o eb hf => (hs.2 b (by rintro rfl; first | exact (no h1 eb).elim | exact (no eb h1).elim | obtain rfl := so h1 eb | (rw [h1] at eb; cases eb))).trans (G.kp b o eb hf)
    ks := fun b o eb hn => by
      obtain ⟨sl, z⟩ := G.ks b o eb hn
      exact ⟨sl, (hs.2 b (by rintro rfl; first | exact (no h1 eb).elim | exact (no eb h1).elim | obtain rfl := so h1 eb | (rw [h1] at eb; cases eb))).trans z⟩
    apart := G.apart
    obj := fun b mb eb => by
      unfold upd at eb
      by_cases hb : b = a
      · subst hb; (first | exact (no (if_pos rfl) eb).elim | exact (no eb (if_pos rfl)).elim | obtain rfl := so (if_pos rfl) eb | (rw [if_pos rfl] at eb; cases eb)); exact ⟨h1, h2, h3, h4, r kt⟩
      · rw [if_neg hb] at eb
        obtain ⟨g1, g2, g3, g4, g5⟩ := G.obj b mb eb
        exact ⟨g1, g2, g3, g4, g5.mono kt fun o q => (hs.2 b hb).trans q⟩
    loc := G.loc.but hs h3 h4 kt
    gens := hg.trans G.gens
    os := ho.trans G.os
    fr := fun b hb => by
      obtain ⟨o, es, n, z, r⟩ := G.fr b hb
      exact ⟨o, es, n, (hs.2 b (by rintro rfl; exact h2 hb)).trans z, r⟩ }
end
end Mine

namespace Mine
open PySem PySem.Calls PySem.Spec PyProof.Rows PySem.W

section
variable {prog : Program} {c : Cx} {B : Heap} {loc loc' : Loc} {H H' : HM} {s s' : Shared} {n k dp un : Nat} {Q : QV}
/-- every thing of the heap but the block's locals and some few, as a ledger -/
noncomputable def allNews (c : Cx) (ex : List Addr) (h : Heap) : List (Addr × Obj) := (List.range h.objs.size).filterMap fun b => if b ∈ ex ∨ b = c.L ∨ (c.B0.get? b).isSome then none else (h.get? b).map fun o => (b, o)
theorem mem_allNews {ex : List Addr} {h : Heap} {b : Addr} {o : Obj} : (b, o) ∈ allNews c ex h ↔ h.get? b = some o ∧ b ∉ ex ∧ b ≠ c.L ∧ c.B0.get? b = none := by
  unfold allNews
  rw [List.mem_filterMap]
  constructor
  · rintro ⟨a, _, ha⟩
    split at ha
    · cases ha
    · rename_i hn
      cases q : h.get? a with
      | none => first | exact (no q ha).elim | exact (no ha q).elim | obtain rfl := so q ha | (rw [q] at ha; cases ha)
      | some o' =>
        rw [q] at ha
        obtain ⟨rfl, rfl⟩ : a = b ∧ o' = o := by simpa using ha
        simp only [not_or, Option.isSome_iff_ne_none, ne_eq, Decidable.not_not] at hn
        exact ⟨q, hn⟩
  · rintro ⟨h1, h2, h3, h4⟩
    refine ⟨b, List.mem_range.mpr (Heap.lt_size h1), ?_⟩
    rw [if_neg (by simp [h2, h3, h4]), h1]; rfl
theorem news_all (ex : List Addr) (h : Heap) : News c.B0 c.L h (allNews c ex h) := fun p hp => by
  obtain ⟨a, o⟩ := p
  obtain ⟨h1, _, h3, h4⟩ := mem_allNews.mp hp
  exact ⟨h1, h3, h4⟩
theorem Good.frL (G : Good prog c B loc H s) (K : CxOk c) {m : Str → Option Value} (hns : s.heap.Ns c.L m) : Fr c.B0 c.L s.heap m := ⟨hns, G.stat K, K.above⟩
/-- a told thing changes, all but it and the locals' object stays -/
theorem Good.setL (G : Good prog c B loc H s) {a : Addr} {m m' : M} (e : H a = some m) (hk : ∀ b o, b ≠ a → b ≠ c.L → s.heap.get? b = some o → s'.heap.get? b = some o) (hl : ∀ m, s.heap.Ns c.L m → s'.heap.Ns c.L m)
    (r : Kt s.heap s'.heap → RepM prog c.w s'.heap a m') (h2 : s'.gens = s.gens) (h3 : s'.os = s.os) : Good prog c B loc (upd H a m') s' := by
  obtain ⟨a1, a2, a3, a4, a5⟩ := G.obj a m e
  have kt : Kt s.heap s'.heap := fun b vs t => by
    have z := G.tupApart t
    have hb : b ≠ a := by rintro rfl; rw [e] at z; cases z.1
    obtain ⟨o, ho, r⟩ := t
    exact ⟨o, hk b o hb z.2.1 ho, r⟩
  have nL : ∀ b o, B.get? b = some o → b ≠ a ∧ b ≠ c.L := fun b o e => ⟨fun q => (by rw [q, a1] at e; cases e), fun q => (by have := G.apart b (.inl q); first | exact (no e this).elim | exact (no this e).elim | obtain rfl := so e this | (rw [e] at this; cases this))⟩
  have cellA : ∀ b o v, s.heap.get? b = some o → o.data = .cell v → b ≠ a ∧ b ≠ c.L := fun b o v ho hv => by
    refine ⟨?_, ?_⟩
    · rintro rfl
      cases m with
      | list l => obtain ⟨_, _, z, _⟩ := a5; (first | exact (no z ho).elim | exact (no ho z).elim | obtain rfl := so z ho | (rw [z] at ho; cases ho)); cases hv
      | dictI l => obtain ⟨_, ⟨o', es, ep, z, _, hd', _⟩, _⟩ := a5; (first | exact (no z ho).elim | exact (no ho z).elim | obtain rfl := so z ho | (rw [z] at ho; cases ho)); rw [hv] at hd'; cases hd'
      | dictS l => obtain ⟨_, ⟨o', es, ep, z, _, hd', _⟩, _⟩ := a5; (first | exact (no z ho).elim | exact (no ho z).elim | obtain rfl := so z ho | (rw [z] at ho; cases ho)); rw [hv] at hd'; cases hd'
      | dictP l => obtain ⟨_, ⟨o', es, ep, z, _, hd', _⟩, _⟩ := a5; (first | exact (no z ho).elim | exact (no ho z).elim | obtain rfl := so z ho | (rw [z] at ho; cases ho)); rw [hv] at hd'; cases hd'
      | inst C d => have z : s.heap.get? b = some (instObj C d) := a5; (first | exact (no z ho).elim | exact (no ho z).elim | obtain rfl := so z ho | (rw [z] at ho; cases ho)); cases hv
      | attrs l => obtain ⟨_, _, z, _⟩ := a5; (first | exact (no z ho).elim | exact (no ho z).elim | obtain rfl := so z ho | (rw [z] at ho; cases ho)); cases hv
      | set S n => obtain ⟨o', es, ep, t, z, _, hd', _⟩ := a5; (first | exact (no z ho).elim | exact (no ho z).elim | obtain rfl := so z ho | (rw [z] at ho; cases ho)); rw [hv] at hd'; cases hd'
      | exc C d tb => obtain ⟨o', vs, z, _, _, hd', _⟩ := a5; (first | exact (no z ho).elim | exact (no ho z).elim | obtain rfl := so z ho | (rw [z] at ho; cases ho)); rw [hv] at hd'; cases hd'
      | tb fl => obtain ⟨o', ts, z, _, hd', _⟩ := a5; (first | exact (no z ho).elim | exact (no ho z).elim | obtain rfl := so z ho | (rw [z] at ho; cases ho)); rw [hv] at hd'; cases hd'
      | fixed l n => have z : s.heap.get? b = some { cls := .type "list", data := .seq l.toArray n } := a5; (first | exact (no z ho).elim | exact (no ho z).elim | obtain rfl := so z ho | (rw [z] at ho; cases ho)); cases hv
    · rintro rfl
      obtain ⟨_, ⟨o', es, ep, e', hd, _⟩, _⟩ := G.loc.ns
      rw [ho] at e'; cases e'; first | exact (no hv hd).elim | exact (no hd hv).elim | obtain rfl := so hv hd | (rw [hv] at hd; cases hd)
  exact {
    sub := G.sub
    lo := G.lo
    kp := fun b o eb hf => hk b o (nL b o eb).1 (nL b o eb).2 (G.kp b o eb hf)
    ks := fun b o eb hn => let ⟨sl, z⟩ := G.ks b o eb hn; ⟨sl, hk _ _ (nL b o eb).1 (nL b o eb).2 z⟩
    apart := G.apart
    obj := fun b mb eb => by
      unfold upd at eb
      by_cases hb : b = a
      · subst hb; (first | exact (no (if_pos rfl) eb).elim | exact (no eb (if_pos rfl)).elim | obtain rfl := so (if_pos rfl) eb | (rw [if_pos rfl] at eb; cases eb)); exact ⟨a1, a2, a3, a4, r kt⟩
      · rw [if_neg hb] at eb
        obtain ⟨h1, h2, h3, h4, h5⟩ := G.obj b mb eb
        exact ⟨h1, h2, h3, h4, h5.mono kt fun o => hk b o hb h3⟩
    loc := {
      ns := by
        obtain ⟨m, hns, hm⟩ := G.loc.ns
        refine ⟨m, hl m hns, fun x v e => ?_⟩
        rcases hm x v e with ⟨a, u, b, r⟩ | ⟨a, b, u, d, ⟨o, ho, e⟩, r⟩
        · exact .inl ⟨a, u, b, Rep.mono kt r⟩
        · have z := cellA b o _ ho e
          exact .inr ⟨a, b, u, d, ⟨o, hk b o z.1 z.2 ho, e⟩, Rep.mono kt r⟩
      cl := fun b hb => by
        obtain ⟨v, o, ho, e⟩ := G.loc.cl b hb
        have z := cellA b o _ ho e
        exact ⟨v, o, hk b o z.1 z.2 ho, e⟩ }
    gens := h2.trans G.gens
    os := h3.trans G.os
    fr := fun b hb => by
      by_cases q : b = c.L
      · subst q
        obtain ⟨m, hns, _⟩ := G.loc.ns
        obtain ⟨o, es, ep, e, hd, _⟩ := hl m hns
        exact ⟨o, es, ep, e, hd⟩
      · obtain ⟨o, es, n, z, r⟩ := G.fr b hb
        exact ⟨o, es, n, hk b o (by rintro rfl; exact a2 hb) q z, r⟩ }

-- displays
theorem tl_nil {env : Env} {pos : Pos} {Q : List V → HM → Prop} (h : Q [] H) : TL prog c n k (spliced (backTo pos (starEach [] env))) loc H Q := fun B dp un s R G => by
  show wpAny _ _ (spliced []) _ _ _
  exact wpAny_pure ⟨[], H, .nil, G, h⟩
theorem tl_cons {e : Expr} {es : List Expr} {env : Env} {pos : Pos} {Q : List V → HM → Prop} (K : CxOk c) (he : starEach (e :: es) env = (false, eval e env) :: starEach es env)
    (h : TV prog c n k (eval e env) loc H fun x H1 => TL prog c n k (spliced (backTo pos (starEach es env))) loc H1 fun xs H2 => Q (x :: xs) H2) :
    TL prog c n k (spliced (backTo pos (starEach (e :: es) env))) loc H Q := fun B dp un s R G => by
  rw [he]
  refine spliced_cons (h.run K R G fun v x H1 s1 rx G1 q => q.run K R G1.g fun us xs H2 s2 rs G2 q2 => ⟨x :: xs, H2, .cons (Rep.mono G2.kt rx) rs, G2.g, q2⟩)
theorem repL_le {h : Heap} {vs : List Value} {xs : List V} (r : RepL h vs xs) (hl : xs.length ≤ 1000) : vs.length ≤ sizeLine := by
  rw [r.length]; exact Nat.le_trans hl (by decide)
theorem tv_tuple {es : List Expr} {kk : Nat} {pos : Pos} (K : CxOk c) (h : TL prog c n k (spliced (backTo pos (starEach es c.env))) loc H fun xs H1 => xs.length ≤ 1000 ∧ Q (.tup xs) H1) :
    TV prog c n k (eval (.Tuple es kk pos) c.env) loc H Q := fun B dp un s R G => by
  refine wpAny_Tuple (h.run K R G fun vs xs H1 s1 rs G1 q => ⟨repL_le rs q.1, .tup xs, H1, ?_, G1.g.push _, q.2⟩)
  exact .tup ⟨_, Heap.get?_push_size _ rfl, rfl, 0, rfl⟩ (RepL.mono (Kt.of_keeps fun _ _ e => Heap.get?_push_of_some _ e) rs)
theorem repM_newList {h : Heap} {vs : List Value} {xs : List V} (w : World) (rs : RepL h vs xs) : RepM prog w (h.push { cls := .type "list", data := .seq vs.toArray }) h.objs.size (.list xs) :=
  ⟨_, 0, Heap.get?_push_size _ rfl, RepL.mono (Kt.of_keeps fun _ _ e => Heap.get?_push_of_some _ e) (by simpa using rs)⟩
theorem tv_list {es : List Expr} {pos : Pos} (K : CxOk c) (h : TL prog c n k (spliced (backTo pos (starEach es c.env))) loc H fun xs H1 => xs.length ≤ 1000 ∧ ∀ a, H1 a = none → Q (.ref a) (upd H1 a (.list xs))) :
    TV prog c n k (eval (.List es pos) c.env) loc H Q := fun B dp un s R G => by
  refine wpAny_List (h.run K R G fun vs xs H1 s1 rs G1 q => ⟨repL_le rs q.1, .ref _, _, .ref _, G1.g.new (repM_newList c.w rs), q.2 _ G1.g.newNone⟩)
end
end Mine

namespace Mine
open PySem PySem.Calls PySem.Spec PyProof.Rows PySem.W

noncomputable def V.noPrim : V → Bool
  | .prim _ => false
  | _ => true
theorem handed_of {h : Heap} {v : Value} {x : V} (r : Rep h v x) (p : x.noPrim = true) : handedIn v = true := by
  cases r <;> first | rfl | cases p

section
variable {prog : Program} {c : Cx} {B : Heap} {loc loc' : Loc} {H H' : HM} {s s' : Shared} {n k dp un : Nat} {Q : QV}

-- global names
theorem tv_glob (K : CxOk c) {x : Str} {v : V} (pos : Pos) (hx : c.T.glob x = some v) (hk : c.env.kindOf x = some .globalImplicit) (hd : (x == ("__debug__" : Str)) = false) (h : Q v H) : TV prog c n k (eval (.Name x pos) c.env) loc H Q := fun B dp un s R G => by
  obtain ⟨u, r, g⟩ := K.tab.glob x v hx
  exact Name_function_global K.kind hk (g _ _ _ _ _ _ K.glob K.blt (G.stat K) ⟨v, H, Rep.mono (Kt.of_keeps (G.stat K)) r, G, h⟩) hd

-- attributes
theorem anyRef {h : Heap} {es : List DictEntry} {l : List (Str × V)} (r : RepA h es l) : es.any (·.refKey) = false := by
  induction r with
  | nil => rfl
  | cons _ _ ih => rw [List.any_cons, ih]; rfl
theorem getL_rep {h : Heap} {n : Str} {es : List DictEntry} {l : List (Str × V)} (q : RepA h es l) : (∀ x, l.lookup n = some x → ∃ v, getL n es = some (some v) ∧ Rep h v x) ∧ (l.lookup n = none → getL n es = some none) := by
  induction q with
  | nil => exact ⟨fun _ e => (by cases e), fun _ => rfl⟩
  | @cons hs m t v y es l r rest ih =>
    by_cases e : n = m
    · subst e
      refine ⟨fun x hx => ?_, fun hx => ?_⟩
      · simp only [List.lookup_cons, beq_self_eq_true] at hx
        cases hx
        refine ⟨v, ?_, r⟩
        simp [getL, Value.isStr]
      · simp at hx
    · have hb : (n == m) = false := beq_eq_false_iff_ne.mpr e
      have hs' : (Value.str m t).isStr n = false := by
        show (m == n) = false
        exact beq_eq_false_iff_ne.mpr (Ne.symm e)
      have hg : getL n (⟨hs, .str m t, v⟩ :: es) = getL n es := by
        have a1 := anyRef rest
        simp only [getL, List.find?_cons, hs', List.any_cons, DictEntry.refKey, a1]
        cases List.find? (fun x => x.key.isStr n) es <;> simp
      rw [hg]
      refine ⟨fun x hx => ih.1 x ?_, fun hx => ih.2 ?_⟩
      · rwa [List.lookup_cons, hb] at hx
      · rwa [List.lookup_cons, hb] at hx
noncomputable def getA (T : Tab) (x : V) (nm : Str) (H : HM) (Q : QV) : Prop :=
  ∃ a C d l v, x = .ref a ∧ H a = some (.inst C d) ∧ T.attr C nm = true ∧ H d = some (.attrs l) ∧ l.lookup nm = some v ∧ v.noPrim = true ∧ Q v H
theorem instAt (G : Good prog c B loc H s) {a C d : Addr} {l : List (Str × V)} (ha : H a = some (.inst C d)) (hd : H d = some (.attrs l)) : ∃ es n, W.InstAt s.heap a (instObj C d) C (some (dictOf es n)) ∧ RepA s.heap es l ∧ es.length ≤ 500 ∧ s.heap.get? d = some (dictOf es n) := by
  have h1 : s.heap.get? a = some (instObj C d) := (G.obj a _ ha).rep
  obtain ⟨es, n, h2, r, z⟩ := (G.obj d _ hd).rep
  exact ⟨es, n, ⟨h1, rfl, rfl, h2⟩, r, z, h2⟩
theorem op_getA (K : CxOk c) (G : Good prog c B loc H s) {u : Value} {x : V} {nm : Str} {expr : Bool} {A : Around} {E : Value → Shared → Prop} (r : Rep s.heap u x) (h : getA c.T x nm H Q) :
    wpAny (model prog c.w) A (getAttr u nm expr) (PV prog c B loc Q) E s := by
  obtain ⟨a, C, d, l, v, rfl, ha, ht, hd, hl, hp, hq⟩ := h
  cases r
  obtain ⟨es, m, I, ra, _, _⟩ := instAt G ha hd
  obtain ⟨k1, k2, at_, k3, k4⟩ := K.tab.attr C nm ht
  obtain ⟨v', hg, rv⟩ := (getL_rep ra).1 v hl
  exact get_value (K.kin.keeps (G.stat K)) I (plainGet_of k1).1 (findObj_own k2 k3 k4 hg) (handed_of rv hp) ⟨v, H, rv, G.same rfl rfl rfl, hq⟩
theorem tv_attr (K : CxOk c) {e : Expr} {nm : Str} {pos : Pos} (hb : attributeBase e nm c.env (eval e c.env) = eval e c.env) (h : TV prog c n k (eval e c.env) loc H fun x H1 => getA c.T x nm H1 Q) :
    TV prog c n k (eval (.Attribute e nm pos) c.env) loc H Q := fun B dp un s R G => by
  refine Attribute_any_ (h.run K R G fun v x H1 s1 rx G1 q => op_getA K G1.g rx q) ?_
  show (do let o ← attributeBase e nm c.env (eval e c.env); _) = _
  rw [hb]

-- stores to attributes
noncomputable def putA (l : List (Str × V)) (nm : Str) (y : V) : List (Str × V) := match l with
  | [] => [(nm, y)]
  | p :: r => if p.1 = nm then (nm, y) :: r else p :: putA r nm y
theorem putL_rep {h h' : Heap} (kt : Kt h h') {nm : Str} {hsh : Int} {tk : Tok} {v : Value} {y : V} (ry : Rep h' v y) : ∀ {es : List DictEntry} {l : List (Str × V)}, RepA h es l → RepA h' (putL nm hsh (.str nm tk) v es) (putA l nm y) ∧ (putL nm hsh (.str nm tk) v es).length ≤ es.length + 1
  | _, _, .nil => ⟨.cons ry .nil, by simp [putL]⟩
  | _, _, .cons (hsh := hs) (n := m) (t := t) (v := u) (x := x) (es := es) (l := l) r rest => by
    have ih := putL_rep kt (nm := nm) (hsh := hsh) (tk := tk) ry rest
    by_cases e : m = nm
    · subst e
      have : (Value.str m t).isStr m = true := by simp [Value.isStr]
      simp only [putL, this, if_true, putA]
      exact ⟨.cons ry (RepA.mono kt rest), by simp⟩
    · have : (Value.str m t).isStr nm = false := by
        show (m == nm) = false
        exact beq_eq_false_iff_ne.mpr e
      simp only [putL, this, Bool.false_eq_true, if_false, putA, e]
      exact ⟨.cons (Rep.mono kt r) ih.1, by simp only [List.length_cons]; (first | lia | omega)⟩
theorem getL_some {h : Heap} {nm : Str} {es : List DictEntry} {l : List (Str × V)} (r : RepA h es l) : (getL nm es).isSome = true := by
  cases e : l.lookup nm with
  | none => rw [(getL_rep r).2 e]; rfl
  | some x => obtain ⟨v, h, _⟩ := (getL_rep r).1 x e; rw [h]; rfl
noncomputable def setA (T : Tab) (x : V) (nm : Str) (y : V) (H : HM) (Q : HM → Prop) : Prop :=
  ∃ a C d l, x = .ref a ∧ H a = some (.inst C d) ∧ T.seta C nm = true ∧ H d = some (.attrs l) ∧ l.length ≤ 400 ∧ Q (upd H d (.attrs (putA l nm y)))
theorem RepA.length {h : Heap} {es : List DictEntry} {l : List (Str × V)} (r : RepA h es l) : es.length = l.length := by
  induction r with
  | nil => rfl
  | cons _ _ ih => simp [ih]
theorem op_setA (K : CxOk c) (G : Good prog c B loc H s) {u w' : Value} {x y : V} {nm : Str} {A : Around} {E : Value → Shared → Prop} {Q : HM → Prop} (r : Rep s.heap u x) (ry : Rep s.heap w' y) (h : setA c.T x nm y H Q) :
    wpAny (model prog c.w) A (setAttr u nm w') (PU prog c B loc Q) E s := by
  obtain ⟨a, C, d, l, rfl, ha, ht, hd, hz, hq⟩ := h
  cases r
  obtain ⟨es, m, I, ra, _, hdd⟩ := instAt G ha hd
  obtain ⟨k1, k2, k3, k4⟩ := K.tab.seta C nm ht
  obtain ⟨ml, hns, hm⟩ := G.loc.ns
  obtain ⟨d1, d2, d3, d4, _⟩ := G.obj d _ hd
  have dB : c.B0.get? d = none := by
    cases q : c.B0.get? d with
    | none => rfl
    | some o => first | exact (no (G.sub d o q) d1).elim | exact (no d1 (G.sub d o q)).elim | obtain rfl := so (G.sub d o q) d1 | (rw [G.sub d o q] at d1; cases d1)
  have N : News c.B0 c.L s.heap ((d, dictOf es m) :: allNews c [d] s.heap) := fun p hp => by
    rcases List.mem_cons.mp hp with rfl | hp
    · exact ⟨hdd, d3, dB⟩
    · exact news_all [d] s.heap p hp
  have len := ra.length
  refine set_dict (es' := putL nm (PyData.keyHash c.w.params nm) (.str nm (s.toks + 1)) w' es) (n' := putN nm es m) (news' := (d, dictOf (putL nm (PyData.keyHash c.w.params nm) (.str nm (s.toks + 1)) w' es) (putN nm es m)) :: allNews c [d] s.heap)
    (G.frL K hns) K.kin N I rfl k1 k2 k3 k4 (getL_some ra) rfl (Upd.head fun p hp => ?_) ?_ fun h' F' N' => ?_
  · obtain ⟨b, o⟩ := p
    have := (mem_allNews.mp hp).2.1
    simpa using this
  · have := (putL_rep (Kt.refl s.heap) (nm := nm) (hsh := PyData.keyHash c.w.params nm) (tk := s.toks + 1) ry ra).2
    (first | lia | omega)
  · have hk : ∀ b o, b ≠ d → b ≠ c.L → s.heap.get? b = some o → h'.get? b = some o := fun b o h1 h2 e => by
      cases q : c.B0.get? b with
      | some o' =>
        have z := G.stat K b o' q
        first | exact (no e z).elim | exact (no z e).elim | obtain rfl := so e z | (rw [e] at z; cases z)
        exact F'.keep b o q
      | none => exact (N' (b, o) (.tail _ (mem_allNews.mpr ⟨e, by simpa using h1, h2, q⟩))).1
    refine ⟨_, G.setL (s' := { s with heap := h', toks := s.toks + 2 }) (m' := .attrs (putA l nm y)) hd hk (fun m₂ h₂ => ?_) (fun kt => ?_) rfl rfl, hq⟩
    · obtain ⟨o1, es1, ep1, e1, f1, g1, i1⟩ := hns
      obtain ⟨o2, es2, ep2, e2, f2, g2, i2⟩ := h₂
      have : m₂ = ml := by
        funext z
        (first | exact (no e1 e2).elim | exact (no e2 e1).elim | obtain rfl := so e1 e2 | (rw [e1] at e2; cases e2)); first | exact (no f1 f2).elim | exact (no f2 f1).elim | obtain rfl := so f1 f2 | (rw [f1] at f2; cases f2)
        rw [← i1, ← i2]
      exact this ▸ F'.ns
    · have z := putL_rep kt (nm := nm) (hsh := PyData.keyHash c.w.params nm) (tk := s.toks + 1) (Rep.mono kt ry) ra
      exact ⟨_, _, (N' (d, _) (.head _)).1, z.1, by (first | lia | omega)⟩
end
end Mine

namespace Mine
open PySem PySem.Calls PySem.Spec PyProof.Rows PySem.W

/-- plain data: nothing that changes, no bools -/
noncomputable def plain : Nat → V → Bool
  | _, .none => true
  | _, .int _ => true
  | _, .str x => PyData.strOk x
  | n + 1, .tup l => l.all (plain n)
  | _, _ => false
mutual
noncomputable def V.dat : V → Dat
  | .none => .none
  | .int i => .int i
  | .str x => .str x
  | .tup l => .tuple (V.dats l)
  | _ => .none
noncomputable def V.dats : List V → List Dat
  | [] => []
  | x :: l => V.dat x :: V.dats l
end
theorem dats_mem {l : List V} {d : Dat} : d ∈ V.dats l ↔ ∃ x ∈ l, V.dat x = d := by
  induction l with
  | nil => simp [V.dats]
  | cons x l ih => simp [V.dats, ih, eq_comm]
theorem dat_ok : ∀ (n : Nat) (x : V), plain n x = true → kqdOk n (V.dat x) = true := by
  intro n
  induction n with
  | zero => intro x h; cases x <;> first | rfl | exact h | cases h
  | succ n ih =>
    intro x h
    cases x with
    | tup l =>
      show (V.dats l).all (kqdOk n) = true
      rw [List.all_eq_true]
      intro d hd
      obtain ⟨x, hx, rfl⟩ := dats_mem.mp hd
      have h' : l.all (plain n) = true := h
      exact ih x (List.all_eq_true.mp h' x hx)
    | _ => first | rfl | exact h | cases h
noncomputable def ofDat : Nat → Dat → V
  | 0, d => (match d with | .int i => .int i | .str x => .str x | _ => .none)
  | n + 1, d => (match d with | .int i => .int i | .str x => .str x | .tuple l => .tup (l.map (ofDat n)) | _ => .none)
theorem ofDat_dats {f : Dat → V} : ∀ {l : List V}, (∀ x ∈ l, f (V.dat x) = x) → (V.dats l).map f = l
  | [], _ => rfl
  | x :: l, h => List.cons_eq_cons.mpr ⟨h x (.head _), ofDat_dats fun y hy => h y (.tail _ hy)⟩
theorem ofDat_dat : ∀ (n N : Nat) (x : V), plain n x = true → n ≤ N → ofDat N (V.dat x) = x
  | 0, N, x, h, _ => by cases x <;> cases N <;> first | rfl | exact (Bool.false_ne_true h).elim
  | n + 1, 0, _, _, z => absurd z (Nat.not_succ_le_zero n)
  | n + 1, N + 1, x, h, z => by
    cases x with
    | tup l => exact congrArg V.tup (ofDat_dats fun y hy => ofDat_dat n N y (List.all_eq_true.mp h y hy) (Nat.le_of_succ_le_succ z))
    | _ => first | rfl | exact (Bool.false_ne_true h).elim
theorem dat_inj (n : Nat) (x : V) (m : Nat) (y : V) (h : plain n x = true) (g : plain m y = true) (e : V.dat x = V.dat y) : x = y :=
  (ofDat_dat n (n + m) x h (Nat.le_add_right _ _)).symm.trans ((congrArg _ e).trans (ofDat_dat m (n + m) y g (Nat.le_add_left _ _)))
/-- what reading a value back says -/
noncomputable def RdP (h : Heap) (v : Value) (x : V) : Prop := ∀ n, plain n x = true → ∃ as, Reads h v (kqdP (V.dat x)) as
noncomputable def RdL (h : Heap) (vs : List Value) (l : List V) : Prop := ∀ n, (∀ x ∈ l, plain n x = true) → ∃ as, ReadsAll h vs (kqdPs (V.dats l)) as
theorem rd_tup {h : Heap} {a : Addr} {vs : List Value} {l : List V} (t : IsTup h a vs.toArray) (r : RdL h vs l) : RdP h (.ref a) (.tup l) := fun n p => by
  obtain ⟨o, ho, hc, m, hd⟩ := t
  cases n with
  | zero => cases p
  | succ n =>
    obtain ⟨as, ra⟩ := r n (List.all_eq_true.mp (show l.all (plain n) = true from p))
    exact ⟨as, .tuple ho hc hd (by simpa using ra)⟩
theorem rd_cons {h : Heap} {v : Value} {x : V} {vs : List Value} {l : List V} (r : RdP h v x) (q : RdL h vs l) : RdL h (v :: vs) (x :: l) := fun n p => by
  obtain ⟨as, ra⟩ := r n (p _ (.head _))
  obtain ⟨bs, rb⟩ := q n fun x hx => p x (.tail _ hx)
  exact ⟨_, .cons ra rb⟩
theorem rd_no {h : Heap} {v : Value} {x : V} (hx : ∀ n, plain n x = false) : RdP h v x := fun n p => by rw [hx] at p; cases p
theorem rep_rd {h : Heap} {v : Value} {x : V} (r : Rep h v x) : RdP h v x :=
  Rep.rec (motive_1 := fun v x _ => RdP h v x) (motive_2 := fun vs l _ => RdL h vs l) (fun _ _ => ⟨_, .none⟩) (fun _ => rd_no fun n => by cases n <;> rfl) (fun i t _ _ => ⟨_, .int i t⟩) (fun x t _ _ => ⟨_, .str x t⟩) (fun t _ ih => rd_tup t ih) (fun _ => rd_no fun n => by cases n <;> rfl) (fun _ => rd_no fun n => by cases n <;> rfl) (fun _ _ => ⟨_, .nil⟩) (fun _ _ a b => rd_cons a b) r
theorem rep_reads {h : Heap} {v : Value} {x : V} {n : Nat} (r : Rep h v x) (p : plain n x = true) : ∃ as, Reads h v (kqdP (V.dat x)) as := rep_rd r n p
theorem repL_reads {h : Heap} {vs : List Value} {l : List V} {n : Nat} (r : RepL h vs l) (p : ∀ x ∈ l, plain n x = true) : ∃ as, ReadsAll h vs (kqdPs (V.dats l)) as :=
  RepL.ind (P := RdL h) (fun _ _ => ⟨_, .nil⟩) (fun a _ ih => rd_cons (rep_rd a) ih) r n p
theorem lay_plain {n : Nat} {x : V} (p : plain n x = true) (hn : n ≤ 64) : SeqAt.shaped (kqdP (V.dat x)) = true := by
  have l := kqd_lay n _ (dat_ok n x p)
  unfold SeqAt.shaped
  rw [l.1, Bool.true_and]; exact decide_eq_true (Nat.le_trans l.2 hn)
open Classical in
theorem eqv_plain {n m : Nat} {x y : V} (p : plain n x = true) (q : plain m y = true) : PyData.eqv (kqdP (V.dat x)) (kqdP (V.dat y)) = decide (x = y) := by
  have z := kqd_eqv n _ _ m (dat_ok n x p) (dat_ok m y q)
  by_cases e : x = y
  · rw [decide_eq_true e]; exact z.mpr (by rw [e])
  · rw [decide_eq_false e]; exact Bool.eq_false_iff.mpr fun w => e (dat_inj n x m y p q (z.mp w))

section
variable {prog : Program} {w : World} {A : Around} {E : Value → Shared → Prop} {s : Shared} {u v : Value} {x y : V} {Q : Value → Shared → Prop}
open Classical in
theorem op_eq (ru : Rep s.heap u x) (rv : Rep s.heap v y) (p : plain 60 x = true) (q : plain 60 y = true) (hu : A.units + 64 < cLine) (h : Q (.bool (decide (x = y))) s) : wpAny (model prog w) A (compareOp .Eq u v) Q E s := by
  obtain ⟨as, ra⟩ := rep_reads ru p
  obtain ⟨bs, rb⟩ := rep_reads rv q
  exact eq_dataH ra rb (lay_plain p (by decide)) (lay_plain q (by decide)) hu (by rw [eqv_plain p q]; exact h)
open Classical in
theorem op_ne (ru : Rep s.heap u x) (rv : Rep s.heap v y) (p : plain 60 x = true) (q : plain 60 y = true) (hu : A.units + 64 < cLine) (h : Q (.bool (!decide (x = y))) s) : wpAny (model prog w) A (compareOp .NotEq u v) Q E s := by
  obtain ⟨as, ra⟩ := rep_reads ru p
  obtain ⟨bs, rb⟩ := rep_reads rv q
  exact ne_dataH ra rb (lay_plain p (by decide)) (lay_plain q (by decide)) hu (by rw [eqv_plain p q]; exact h)
end
end Mine

namespace Mine
open PySem PySem.Calls PySem.Spec PyProof.Rows PySem.W

open Classical in
noncomputable def eqG (x y : V) (H : HM) (Q : Bool → Prop) : Prop :=
  (plain 60 x = true ∧ plain 60 y = true ∧ Q (decide (x = y))) ∨
  (∃ a b l m, x = .ref a ∧ y = .ref b ∧ H a = some (.list l) ∧ H b = some (.list m) ∧ (∀ z ∈ l, plain 50 z = true) ∧ (∀ z ∈ m, plain 50 z = true) ∧ Q (decide (l = m)))
open Classical in
noncomputable def inV (x y : V) (H : HM) (Q : Bool → Prop) : Prop :=
  (∃ i a l, x = .int i ∧ y = .ref a ∧ H a = some (.dictI l) ∧ Q (l.lookup i).isSome) ∨
  (∃ i a S m, x = .int i ∧ y = .ref a ∧ H a = some (.set S m) ∧ Q (S i)) ∨
  (∃ l, y = .tup l ∧ plain 8 x = true ∧ (∀ z ∈ l, plain 8 z = true) ∧ Q (decide (x ∈ l))) ∨
  (∃ a l, y = .ref a ∧ H a = some (.list l) ∧ plain 8 x = true ∧ (∀ z ∈ l, plain 8 z = true) ∧ Q (decide (x ∈ l)))
noncomputable def isV (x y : V) (Q : Bool → Prop) : Prop := match x, y with
  | .none, .none => Q true
  | .int _, .none => Q false
  | .str _, .none => Q false
  | .tup _, .none => Q false
  | _, _ => False
noncomputable def cmpV (op : CmpOp) (x y : V) (H : HM) (Q : Bool → Prop) : Prop := match op with
  | .Eq => eqG x y H Q
  | .NotEq => eqG x y H fun b => Q (!b)
  | .Lt => ∃ i j, x = .int i ∧ y = .int j ∧ Q (decide (i < j))
  | .LtE => ∃ i j, x = .int i ∧ y = .int j ∧ Q (decide (i ≤ j))
  | .Gt => ∃ i j, x = .int i ∧ y = .int j ∧ Q (decide (j < i))
  | .GtE => ∃ i j, x = .int i ∧ y = .int j ∧ Q (decide (j ≤ i))
  | .In => inV x y H Q
  | .NotIn => inV x y H fun b => Q (!b)
  | .Is => isV x y Q
  | .IsNot => False

theorem lookup_rep {K : Type} [BEq K] [LawfulBEq K] [DecidableEq K] {h : Heap} (k : K) : ∀ {kvs : List (K × Value)} {l : List (K × V)}, RepKV h kvs l → (∀ x, l.lookup k = some x → ∃ v, valueAt kvs k = some v ∧ Rep h v x) ∧ (l.lookup k = none → valueAt kvs k = none)
  | _, _, .nil => ⟨fun _ e => (by cases e), fun _ => rfl⟩
  | _, _, .cons (k := k') (v := v) (x := y) (kvs := kvs) (l := l) r rest => by
    have ih := lookup_rep k rest
    by_cases e : k = k'
    · subst e
      refine ⟨fun x hx => ?_, fun hx => ?_⟩
      · simp only [List.lookup_cons, beq_self_eq_true] at hx; cases hx
        exact ⟨v, by simp [valueAt], r⟩
      · simp at hx
    · have hb : (k == k') = false := beq_eq_false_iff_ne.mpr e
      have hv : valueAt ((k', v) :: kvs) k = valueAt kvs k := by
        unfold valueAt
        rw [List.find?_cons]
        simp [Ne.symm e]
      rw [hv]
      exact ⟨fun x hx => ih.1 x (by rwa [List.lookup_cons, hb] at hx), fun hx => ih.2 (by rwa [List.lookup_cons, hb] at hx)⟩
theorem lookup_isSome {K : Type} [BEq K] [LawfulBEq K] [DecidableEq K] {h : Heap} {k : K} {kvs : List (K × Value)} {l : List (K × V)} (r : RepKV h kvs l) : (valueAt kvs k).isSome = (l.lookup k).isSome := by
  cases e : l.lookup k with
  | none => rw [(lookup_rep k r).2 e]; rfl
  | some x => obtain ⟨v, h, _⟩ := (lookup_rep k r).1 x e; rw [h]; rfl

theorem shaped_list {l : List V} (pl : ∀ z ∈ l, plain 50 z = true) : SeqAt.shaped (.list (kqdPs (V.dats l))) = true := by
  have z : plain 51 (.tup l) = true := List.all_eq_true.mpr pl
  have l1 := kqd_lay 51 (.list (V.dats l)) (by have := dat_ok 51 _ z; simpa [kqdOk, V.dat] using this)
  unfold SeqAt.shaped
  rw [kqdP] at l1
  rw [l1.1, Bool.true_and]
  exact decide_eq_true (Nat.le_trans l1.2 (by decide))
open Classical in
theorem eqv_list {l m : List V} (pl : ∀ z ∈ l, plain 50 z = true) (pm : ∀ z ∈ m, plain 50 z = true) : PyData.eqv (.list (kqdPs (V.dats l))) (.list (kqdPs (V.dats m))) = decide (l = m) := by
  have := eqv_plain (x := .tup l) (y := .tup m) (n := 51) (m := 51) (List.all_eq_true.mpr pl) (List.all_eq_true.mpr pm)
  simp only [V.dat, kqdP] at this
  have e' : PyData.eqv (.list (kqdPs (V.dats l))) (.list (kqdPs (V.dats m))) = PyData.eqv (.tuple (kqdPs (V.dats l))) (.tuple (kqdPs (V.dats m))) := rfl
  rw [e', this]
  simp
open Classical in
theorem any_in {l : List V} {x : V} (px : plain 8 x = true) (pl : ∀ z ∈ l, plain 8 z = true) : ((kqdPs (V.dats l)).any fun y => PyData.eqv y (kqdP (V.dat x))) = decide (x ∈ l) := by
  have ok : ∀ d ∈ V.dats l, kqdOk 8 d = true := fun d hd => by obtain ⟨w, hw, rfl⟩ := dats_mem.mp hd; exact dat_ok 8 _ (pl w hw)
  have := kqd_any (V.dats l) (V.dat x) ok (dat_ok 8 _ px)
  have m : V.dat x ∈ V.dats l ↔ x ∈ l := by
    rw [dats_mem]
    exact ⟨fun z0 => by obtain ⟨y, hy, e⟩ := z0; exact dat_inj 8 y 8 x (pl y hy) px e ▸ hy, fun hx => ⟨x, hx, rfl⟩⟩
  by_cases hq : x ∈ l
  · rw [decide_eq_true hq]; exact this.mpr (m.mpr hq)
  · rw [decide_eq_false hq]; exact Bool.eq_false_iff.mpr fun z => hq (m.mp (this.mp z))
theorem dats_ok {l : List V} (pl : ∀ z ∈ l, plain 8 z = true) : ∀ d ∈ V.dats l, kqdOk 8 d = true := fun d hd => by obtain ⟨w, hw, rfl⟩ := dats_mem.mp hd; exact dat_ok 8 _ (pl w hw)
section
variable {prog : Program} {c : Cx} {B : Heap} {loc loc' : Loc} {H H' : HM} {s s' : Shared} {n k dp un : Nat} {Q : QV}
theorem ne_sys (K : CxOk c) (G : Good prog c B loc H s) {a : Addr} {m : M} (e : H a = some m) : (a == sysModules) = false := by
  rw [beq_eq_false_iff_ne]
  rintro rfl
  obtain ⟨o, ho⟩ := K.sysm
  have := (G.obj _ m e).nb
  rw [G.sub _ o ho] at this; cases this

end
section
variable {prog : Program} {c : Cx} {B : Heap} {loc : Loc} {H : HM} {s : Shared} {n k dp un : Nat} {u v : Value} {x y : V} {Q : Bool → Prop} {E : Value → Shared → Prop} {P : Value → Shared → Prop}
theorem un1 (R : Room n k dp un) : (c.A dp un).units + 64 < cLine := by
  have hu := R.units
  show un + 64 < cLine
  (first | lia | omega)
theorem un2 (R : Room n k dp un) {d : Nat} (hd : d ≤ 9) : (c.A dp un).units + 1 + d < cLine := by
  have hu := R.units
  show un + 1 + d < cLine
  (first | lia | omega)
theorem op_eqG (R : Room n k dp un) (G : Good prog c B loc H s) (ru : Rep s.heap u x) (rv : Rep s.heap v y) (h : eqG x y H Q) (hP : ∀ b tk, Q b → P (.bool b) { s with toks := tk }) : wpAny (model prog c.w) (c.A dp un) (compareOp .Eq u v) P E s := by
  rcases h with ⟨p, q, h⟩ | ⟨a, b, l, m, rfl, rfl, ha, hb, pl, pm, h⟩
  · exact op_eq ru rv p q (un1 R) (hP _ s.toks h)
  · cases ru; cases rv
    obtain ⟨vs, i, e1, r1⟩ := (G.obj a _ ha).rep
    obtain ⟨us, j, e2, r2⟩ := (G.obj b _ hb).rep
    obtain ⟨as, ra⟩ := repL_reads r1 pl
    obtain ⟨bs, rb⟩ := repL_reads r2 pm
    exact eq_dataH (reads_list_at e1 rfl rfl ra) (reads_list_at e2 rfl rfl rb) (shaped_list pl) (shaped_list pm) (un1 R) (by rw [eqv_list pl pm]; exact hP _ s.toks h)
theorem op_neG (R : Room n k dp un) (G : Good prog c B loc H s) (ru : Rep s.heap u x) (rv : Rep s.heap v y) (h : eqG x y H fun b => Q (!b)) (hP : ∀ b tk, Q b → P (.bool b) { s with toks := tk }) : wpAny (model prog c.w) (c.A dp un) (compareOp .NotEq u v) P E s := by
  rcases h with ⟨p, q, h⟩ | ⟨a, b, l, m, rfl, rfl, ha, hb, pl, pm, h⟩
  · exact op_ne ru rv p q (un1 R) (hP _ s.toks h)
  · cases ru; cases rv
    obtain ⟨vs, i, e1, r1⟩ := (G.obj a _ ha).rep
    obtain ⟨us, j, e2, r2⟩ := (G.obj b _ hb).rep
    obtain ⟨as, ra⟩ := repL_reads r1 pl
    obtain ⟨bs, rb⟩ := repL_reads r2 pm
    exact ne_dataH (reads_list_at e1 rfl rfl ra) (reads_list_at e2 rfl rfl rb) (shaped_list pl) (shaped_list pm) (un1 R) (by rw [eqv_list pl pm]; exact hP _ s.toks h)
theorem op_inV (K : CxOk c) (R : Room n k dp un) (G : Good prog c B loc H s) (ru : Rep s.heap u x) (rv : Rep s.heap v y) (h : inV x y H Q) (hP : ∀ b tk, Q b → P (.bool b) { s with toks := tk }) : wpAny (model prog c.w) (c.A dp un) (compareOp .In u v) P E s := by
  rcases h with ⟨i, a, l, rfl, rfl, ha, h⟩ | ⟨i, a, S, m, rfl, rfl, ha, h⟩ | ⟨l, rfl, px, pl, h⟩ | ⟨a, l, rfl, ha, px, pl, h⟩
  · cases ru; cases rv
    obtain ⟨kvs, d, r⟩ := (G.obj a _ ha).rep
    refine wpAny_in_of (knd := intKind prog c.w) (k := i) (by simp [intKind, Value.isInt]) (ne_sys K G ha) d.mapOf ?_
    rw [lookup_isSome r]; exact hP _ _ h
  · cases ru; cases rv
    exact wpAny_inSet_of (knd := intKind prog c.w) (k := i) (by simp [intKind, Value.isInt]) rfl (G.obj a _ ha).rep (hP _ _ h)
  · obtain ⟨as, ra⟩ := rep_reads (n := 9) rv (List.all_eq_true.mpr pl)
    obtain ⟨bs, rb⟩ := rep_reads ru px
    have lx := kqd_lay 8 _ (dat_ok 8 _ px)
    exact SeqAt.in_tuple_reads (by simpa [V.dat, kqdP] using ra) rb (kqd_layL (dats_ok pl)).1 lx.1 (un2 R (Nat.le_trans (Nat.min_le_right _ _) (Nat.le_trans lx.2 (by decide)))) (by rw [any_in px pl]; exact hP _ s.toks h)
  · cases rv
    obtain ⟨vs, i, e1, r1⟩ := (G.obj a _ ha).rep
    obtain ⟨as, ra⟩ := repL_reads r1 pl
    obtain ⟨bs, rb⟩ := rep_reads ru px
    have lx := kqd_lay 8 _ (dat_ok 8 _ px)
    exact SeqAt.in_list_reads (reads_list_at e1 rfl rfl ra) rb (kqd_layL (dats_ok pl)).1 lx.1 (un2 R (Nat.le_trans (Nat.min_le_right _ _) (Nat.le_trans lx.2 (by decide)))) (by rw [any_in px pl]; exact hP _ s.toks h)
theorem op_niV (K : CxOk c) (R : Room n k dp un) (G : Good prog c B loc H s) (ru : Rep s.heap u x) (rv : Rep s.heap v y) (h : inV x y H fun b => Q (!b)) (hP : ∀ b tk, Q b → P (.bool b) { s with toks := tk }) : wpAny (model prog c.w) (c.A dp un) (compareOp .NotIn u v) P E s := by
  rcases h with ⟨i, a, l, rfl, rfl, ha, h⟩ | ⟨i, a, S, m, rfl, rfl, ha, h⟩ | ⟨l, rfl, px, pl, h⟩ | ⟨a, l, rfl, ha, px, pl, h⟩
  · cases ru; cases rv
    obtain ⟨kvs, d, r⟩ := (G.obj a _ ha).rep
    refine wpAny_notIn_of (knd := intKind prog c.w) (k := i) (by simp [intKind, Value.isInt]) (ne_sys K G ha) d.mapOf ?_
    rw [lookup_isSome r]; exact hP _ _ h
  · cases ru; cases rv
    exact wpAny_notInSet_of (knd := intKind prog c.w) (k := i) (by simp [intKind, Value.isInt]) rfl (G.obj a _ ha).rep (hP _ _ h)
  · obtain ⟨as, ra⟩ := rep_reads (n := 9) rv (List.all_eq_true.mpr pl)
    obtain ⟨bs, rb⟩ := rep_reads ru px
    have lx := kqd_lay 8 _ (dat_ok 8 _ px)
    exact SeqAt.notIn_tuple_reads (by simpa [V.dat, kqdP] using ra) rb (kqd_layL (dats_ok pl)).1 lx.1 (un2 R (Nat.le_trans (Nat.min_le_right _ _) (Nat.le_trans lx.2 (by decide)))) (by rw [any_in px pl]; exact hP _ s.toks h)
  · cases rv
    obtain ⟨vs, i, e1, r1⟩ := (G.obj a _ ha).rep
    obtain ⟨as, ra⟩ := repL_reads r1 pl
    obtain ⟨bs, rb⟩ := rep_reads ru px
    have lx := kqd_lay 8 _ (dat_ok 8 _ px)
    exact SeqAt.notIn_list_reads (reads_list_at e1 rfl rfl ra) rb (kqd_layL (dats_ok pl)).1 lx.1 (un2 R (Nat.le_trans (Nat.min_le_right _ _) (Nat.le_trans lx.2 (by decide)))) (by rw [any_in px pl]; exact hP _ s.toks h)
theorem op_is (ru : Rep s.heap u x) (rv : Rep s.heap v y) (h : isV x y Q) (hP : ∀ b tk, Q b → P (.bool b) { s with toks := tk }) : wpAny (model prog c.w) (c.A dp un) (compareOp .Is u v) P E s := by
  cases y with
  | none =>
    cases rv
    cases x with
    | none => cases ru; exact is_none (hP _ s.toks h)
    | int i => cases ru; exact is_none (hP _ s.toks h)
    | str i => cases ru; exact is_none (hP _ s.toks h)
    | tup i => cases ru; exact is_none (hP _ s.toks h)
    | _ => exact h.elim
  | _ => cases x <;> exact h.elim
theorem op_cmp (K : CxOk c) (R : Room n k dp un) (G : Good prog c B loc H s) {op : CmpOp}
    (ru : Rep s.heap u x) (rv : Rep s.heap v y) (h : cmpV op x y H Q) (hP : ∀ b tk, Q b → P (.bool b) { s with toks := tk }) : wpAny (model prog c.w) (c.A dp un) (compareOp op u v) P E s := by
  cases op with
  | Eq => exact op_eqG R G ru rv h hP
  | NotEq => exact op_neG R G ru rv h hP
  | Lt => obtain ⟨i, j, rfl, rfl, h⟩ := h; cases ru; cases rv; exact lt_int (hP _ s.toks h)
  | LtE => obtain ⟨i, j, rfl, rfl, h⟩ := h; cases ru; cases rv; exact le_int (hP _ s.toks h)
  | Gt => obtain ⟨i, j, rfl, rfl, h⟩ := h; cases ru; cases rv; exact gt_int (hP _ s.toks h)
  | GtE => obtain ⟨i, j, rfl, rfl, h⟩ := h; cases ru; cases rv; exact ge_int (hP _ s.toks h)
  | In => exact op_inV K R G ru rv h hP
  | NotIn => exact op_niV K R G ru rv h hP
  | Is => exact op_is ru rv h hP
  | IsNot => exact h.elim
end
end Mine

namespace Mine
open PySem PySem.Calls PySem.Spec PyProof.Rows PySem.W

theorem lookup_mem {K : Type} [BEq K] [LawfulBEq K] {A : Type} : ∀ {l : List (K × A)} {x : K} {a : A}, l.lookup x = some a → (x, a) ∈ l
  | [], _, _, e => by cases e
  | (k, b) :: l, x, a, e => by
    rw [List.lookup_cons] at e
    split at e
    · rename_i q; cases e
      have : x = k := by simpa using q
      subst this; exact .head _
    · exact .tail _ (lookup_mem e)
section
variable {prog : Program} {c : Cx} {B : Heap} {loc loc' : Loc} {H H' : HM} {s s' : Shared} {n k dp un : Nat} {Q : QV}
theorem cell_mem {x : Str} {a : Addr} (e : c.env.cells.lookup x = some a) : a ∈ c.cells := List.mem_map.mpr ⟨(x, a), lookup_mem e, rfl⟩

/-- a name of the block is stored -/
theorem Good.store (G : Good prog c B loc H s) (K : CxOk c) {x : Str} {u : Value} {v : V} {A : Around} {E : Value → Shared → Prop} {P : Unit → Shared → Prop} (r : Rep s.heap u v)
    (hk : c.env.kindOf x = some .local ∨ (c.env.kindOf x = some .cell ∧ (c.env.cells.lookup x).isSome = true))
    (hP : ∀ s', Good prog c B (put loc x v) H s' → P () s') : wpAny (model prog c.w) A (storeName c.env x u) P E s := by
  obtain ⟨m, hns, hm⟩ := G.loc.ns
  -- what a change at one address that is the block's own leaves
  have key : ∀ (a : Addr) (h' : Heap) (tk : Nat), (a = c.L ∨ a ∈ c.cells) → Heap.SameBut a s.heap h' → Kt s.heap h' → LocOk c (put loc x v) h' → Good prog c B (put loc x v) H { s with heap := h', toks := tk } ∨ a ∈ c.frs := by
    intro a h' tk ha hs kt hl
    by_cases hf : a ∈ c.frs
    · exact .inr hf
    left
    have nB : ∀ b o, B.get? b = some o → b ≠ a := fun b o e q => by have := G.apart b (q ▸ ha); first | exact (no e this).elim | exact (no this e).elim | obtain rfl := so e this | (rw [e] at this; cases this)
    exact {
      sub := G.sub
      lo := G.lo
      kp := fun b o e hb => (hs.2 b (nB b o e)).trans (G.kp b o e hb)
      ks := fun b o e hn => by obtain ⟨sl, z⟩ := G.ks b o e hn; exact ⟨sl, (hs.2 b (nB b o e)).trans z⟩
      apart := G.apart
      obj := fun b mb e => by
        obtain ⟨h1, h2, h3, h4, h5⟩ := G.obj b mb e
        refine ⟨h1, h2, h3, h4, h5.mono kt fun o q => (hs.2 b ?_).trans q⟩
        rintro rfl
        exact ha.elim h3 h4
      loc := hl
      gens := G.gens
      os := G.os
      fr := fun b hb => by
        obtain ⟨o, es, n, e, r⟩ := G.fr b hb
        exact ⟨o, es, n, (hs.2 b (by rintro rfl; exact hf hb)).trans e, r⟩ }
  rcases hk with hk | ⟨hk, hc⟩
  · refine wpAny_storeName_local hk (K.locals ▸ hns) (fun h' hn' hs => ?_) ?_
    · rw [K.locals] at hn' hs
      have kt : Kt s.heap h' := Kt.of_but hs.extBut fun vs t => (G.tupApart t).2.1 rfl
      have hl : LocOk c (put loc x v) h' := {
        ns := ⟨_, hn', fun y z e => by
          unfold put at e
          by_cases hy : y = x
          · subst hy
            first | exact (no (if_pos rfl) e).elim | exact (no e (if_pos rfl)).elim | obtain rfl := so (if_pos rfl) e | (rw [if_pos rfl] at e; cases e)
            exact .inl ⟨hk, u, if_pos rfl, Rep.mono kt r⟩
          · rw [if_neg hy] at e
            rcases hm y z e with ⟨a, u', b, r'⟩ | ⟨a, b, u', d, ⟨o, ho, e'⟩, r'⟩
            · exact .inl ⟨a, u', by simp [hy, b], Rep.mono kt r'⟩
            · exact .inr ⟨a, b, u', d, ⟨o, (hs.2 b (by rintro rfl; exact K.Lc (cell_mem d))).trans ho, e'⟩, Rep.mono kt r'⟩⟩
        cl := fun a ha => by
          obtain ⟨v', o, ho, e'⟩ := G.loc.cl a ha
          exact ⟨v', o, (hs.2 a (by rintro rfl; exact K.Lc ha)).trans ho, e'⟩ }
      have nB : ∀ b o, B.get? b = some o → b ≠ c.L := fun b o e q => by have := G.apart b (.inl q); first | exact (no e this).elim | exact (no this e).elim | obtain rfl := so e this | (rw [e] at this; cases this)
      refine hP _ {
        sub := G.sub
        lo := G.lo
        kp := fun b o e hb => (hs.2 b (nB b o e)).trans (G.kp b o e hb)
        ks := fun b o e hn => by obtain ⟨sl, z⟩ := G.ks b o e hn; exact ⟨sl, (hs.2 b (nB b o e)).trans z⟩
        apart := G.apart
        obj := fun b mb e => by
          obtain ⟨h1, h2, h3, h4, h5⟩ := G.obj b mb e
          exact ⟨h1, h2, h3, h4, h5.mono kt fun o q => (hs.2 b h3).trans q⟩
        loc := hl
        gens := G.gens
        os := G.os
        fr := fun b hb => by
          by_cases q : b = c.L
          · subst q
            obtain ⟨o, es, ep, e, hd, _⟩ := hn'
            exact ⟨o, es, ep, e, hd⟩
          · obtain ⟨o, es, n, e, r⟩ := G.fr b hb
            exact ⟨o, es, n, (hs.2 b q).trans e, r⟩ }
    · rw [K.kind]; rfl
  · obtain ⟨a, ha⟩ := Option.isSome_iff_exists.mp hc
    have hm' := cell_mem ha
    obtain ⟨v₀, hcell⟩ := G.loc.cl a hm'
    refine wpAny_storeName_cell K.kind hk ha hcell fun h' hc' hs => ?_
    have kt : Kt s.heap h' := Kt.of_but hs.extBut fun vs t => (G.tupApart t).2.2 hm'
    have aL : c.L ≠ a := by rintro rfl; exact K.Lc hm'
    have hl : LocOk c (put loc x v) h' := {
      ns := ⟨m, hns.sameBut hs aL, fun y z e => by
        unfold put at e
        by_cases hy : y = x
        · subst hy
          first | exact (no (if_pos rfl) e).elim | exact (no e (if_pos rfl)).elim | obtain rfl := so (if_pos rfl) e | (rw [if_pos rfl] at e; cases e)
          exact .inr ⟨hk, a, u, ha, hc', Rep.mono kt r⟩
        · rw [if_neg hy] at e
          rcases hm y z e with ⟨a', u', b, r'⟩ | ⟨a', b, u', d, ⟨o, ho, e'⟩, r'⟩
          · exact .inl ⟨a', u', b, Rep.mono kt r'⟩
          · exact .inr ⟨a', b, u', d, ⟨o, (hs.2 b (by rintro rfl; exact hy (K.inj y x b d ha))).trans ho, e'⟩, Rep.mono kt r'⟩⟩
      cl := fun b hb => by
        by_cases q : b = a
        · subst q; exact ⟨_, hc'⟩
        · obtain ⟨v', o, ho, e'⟩ := G.loc.cl b hb
          exact ⟨v', o, (hs.2 b q).trans ho, e'⟩ }
    rcases key a h' s.toks (.inr hm') hs kt hl with g | g
    · exact hP _ g
    · exfalso
      obtain ⟨o, es, n, e, hd⟩ := G.fr a g
      obtain ⟨o', e', hd'⟩ := hcell
      rw [e] at e'; cases e'; rw [hd] at hd'; cases hd'

noncomputable def KindOk (c : Cx) (x : Str) : Prop := c.env.kindOf x = some .local ∨ (c.env.kindOf x = some .cell ∧ (c.env.cells.lookup x).isSome = true)

theorem tf_asgn (K : CxOk c) {x : Str} {e : Expr} {p pos : Pos} {Q : QF} (hk : KindOk c x) (hs : swapsWith e (some (.Name x p)) pos.line c.env = pure false)
    (h : TV prog c n k (eval e c.env) loc H fun v H1 => Q .next (put loc x v) H1) : TF prog c n k (exec (.Assign [.Name x p] e pos) c.env) loc H Q := fun B dp un s R G => by
  refine wpAny_Assign_Name (h.run K R G fun v x H1 s1 rx G1 q => ?_) hs
  exact G1.g.store K rx hk fun s' G' => ⟨.next, _, H1, .next, G', q⟩
theorem tf_ret (K : CxOk c) {e : Expr} {pos : Pos} {Q : QF} (h : TV prog c n k (eval e c.env) loc H fun v H1 => Q (.ret v) loc H1) : TF prog c n k (exec (.Return (some e) pos) c.env) loc H Q := fun B dp un s R G =>
  wpAny_Return_some (h.run K R G fun _ v H1 _ rv G1 q => ⟨.ret v, loc, H1, .ret rv, G1.g, q⟩)
theorem tf_ret0 {pos : Pos} {Q : QF} (h : Q (.ret .none) loc H) : TF prog c n k (exec (.Return none pos) c.env) loc H Q := fun B dp un s R G =>
  wpAny_Return_none ⟨.ret .none, loc, H, .ret .none, G, h⟩
theorem tf_expr (K : CxOk c) {e : Expr} {pos : Pos} {Q : QF} (hs : swapsWith e none pos.line c.env = pure false) (h : TV prog c n k (eval e c.env) loc H fun _ H1 => Q .next loc H1) : TF prog c n k (exec (.Expr e pos) c.env) loc H Q := fun B dp un s R G =>
  wpAny_Expr_any (h.run K R G fun _ v H1 _ rv G1 q => ⟨.next, loc, H1, .next, G1.g, q⟩) (by unfold interactive; rw [K.kind]; rfl) hs
theorem tf_cont {pos : Pos} {Q : QF} (h : Q .cont loc H) : TF prog c n k (exec (.Continue pos) c.env) loc H Q := fun B dp un s R G => wpAny_Continue ⟨.cont, loc, H, .cont, G, h⟩
theorem tf_nil {Q : QF} (h : Q .next loc H) : TF prog c n k (execs [] c.env) loc H Q := fun B dp un s R G => wpAny_execs_nil ⟨.next, loc, H, .next, G, h⟩
theorem tf_cons (K : CxOk c) {st : Stmt} {rest : List Stmt} {Q : QF} (h : TF prog c n k (exec st c.env) loc H fun f loc1 H1 => match f with | .next => TF prog c n k (execs rest c.env) loc1 H1 Q | f => Q f loc1 H1) :
    TF prog c n k (execs (st :: rest) c.env) loc H Q := fun B dp un s R G => by
  refine wpAny_execs_cons (h.run K R G fun f r loc1 H1 s1 rf G1 q => ?_)
  induction rf with
  | next => exact q _ _ _ _ R G1.g
  | brk => exact ⟨.brk, loc1, H1, .brk, G1.g, q⟩
  | cont => exact ⟨.cont, loc1, H1, .cont, G1.g, q⟩
  | ret rv => exact ⟨_, loc1, H1, .ret rv, G1.g, q⟩
theorem tf_if (K : CxOk c) {t : Expr} {b1 b2 : List Stmt} {pos : Pos} {Q : QF} (h : TB prog c n k (isTrue t c.env (eval t c.env)) loc H fun b H1 => if b = true then TF prog c n k (execs b1 c.env) loc H1 Q else TF prog c n k (execs b2 c.env) loc H1 Q) :
    TF prog c n k (exec (.If t b1 b2 pos) c.env) loc H Q := fun B dp un s R G => by
  refine wpAny_If (h.run K R G fun b H1 s1 G1 q => ?_)
  cases b
  · exact q _ _ _ _ R G1.g
  · exact q _ _ _ _ R G1.g
/-- the raises' post inside a loop -/
noncomputable def loopX (prog : Program) (c : Cx) (dp un : Nat) : Value → Shared → Prop := notedBy (model prog c.w) (c.A dp un) c.env (cameBackBy (model prog c.w) (c.A dp un) c.env c.X)
noncomputable def Cx.withX (c : Cx) (X : Value → Shared → Prop) : Cx := { c with X := X }
theorem CxOk.withX (K : CxOk c) (X : Value → Shared → Prop) : CxOk (c.withX X) := ⟨K.kind, K.glob, K.blt, K.locals, K.apart, K.Lc, K.inj, K.newL, K.newC, K.nl, K.kin, K.sysm, K.tab, K.above, K.each⟩
theorem Good.withX (G : Good prog c B loc H s) (X : Value → Shared → Prop) : Good prog (c.withX X) B loc H s := ⟨G.sub, G.kp, G.ks, G.apart, fun a m e => (G.obj a m e).wx rfl rfl rfl rfl, ⟨G.loc.ns, G.loc.cl⟩, G.gens, G.os, G.fr, G.lo⟩
theorem Good.offX {X : Value → Shared → Prop} (G : Good prog (c.withX X) B loc H s) : Good prog c B loc H s := ⟨G.sub, G.kp, G.ks, G.apart, fun a m e => (G.obj a m e).wx rfl rfl rfl rfl, ⟨G.loc.ns, G.loc.cl⟩, G.gens, G.os, G.fr, G.lo⟩

theorem tf_while (K : CxOk c) {t : Expr} {body : List Stmt} {pos : Pos} {Q : QF} (I : Nat → Loc → HM → Prop)
    (turn : ∀ dp un m loc H, I m loc H → TB prog (c.withX (loopX prog c dp un)) n k (isTrue t c.env (eval t c.env)) loc H fun b H1 =>
      if b = true then TF prog (c.withX (loopX prog c dp un)) n k (execs body c.env) loc H1 fun f loc2 H2 => match f with
        | .next | .cont => ∃ m', m' < m ∧ I m' loc2 H2
        | .brk => Q .next loc2 H2
        | .ret v => Q (.ret v) loc2 H2
      else Q .next loc H1) (m : Nat) (h : I m loc H) : TF prog c n k (exec (.While t body [] pos) c.env) loc H Q := fun B dp un s R G => by
  refine wpAny_While (codeAny_whileLoop (fun m s => ∃ loc H, Good prog c B loc H s ∧ I m loc H) (fun m s z0 => ?_) m ⟨loc, H, G, h⟩)
  obtain ⟨loc, H, G, hI⟩ := z0
  refine (turn dp un m loc H hI).run (K.withX _) R (G.withX _) fun b H1 s1 G1 q => ?_
  cases b with
  | false => exact wpAny_execs_nil ⟨.next, loc, H1, .next, G1.g.offX, q⟩
  | true =>
    simp only [if_true] at q ⊢
    refine TF.run (c := c.withX (loopX prog c dp un)) q (K.withX _) R G1.g fun f r loc2 H2 s2 rf G2 q2 => ?_
    induction rf with
    | next => obtain ⟨m', hm, hI⟩ := q2; exact ⟨m', hm, loc2, H2, G2.g.offX, hI⟩
    | cont => obtain ⟨m', hm, hI⟩ := q2; exact ⟨m', hm, loc2, H2, G2.g.offX, hI⟩
    | brk => exact ⟨.next, loc2, H2, .next, G2.g.offX, q2⟩
    | ret rv => exact ⟨_, loc2, H2, .ret rv, G2.g.offX, q2⟩
end
end Mine

namespace Mine
open PySem PySem.Calls PySem.Spec PyProof.Rows PySem.W

/-- an address that nothing told of lies at -/
structure Sep (c : Cx) (B : Heap) (H : HM) (a : Addr) : Prop where
  b : B.get? a = none
  h : H a = none
  l : a ≠ c.L
  cl : a ∉ c.cells
  fr : a ∉ c.frs
noncomputable def Cx.re (c : Cx) (env : Env) (L : Addr) (X : Value → Shared → Prop) : Cx := { c with env := env, L := L, X := X }
structure IterOk (prog : Program) (c : Cx) (it : Addr) (items : List V) (fix : HM → Prop) (St : Nat → Heap → Prop) : Prop where
  frame : ∀ i h h', St i h → (∀ o, h.get? it = some o → h'.get? it = some o) → Kt h h' → St i h'
  there : ∀ i h, St i h → ∃ o vs, h.get? it = some o ∧ o.data = .fields vs
  self : ∀ i (s : Shared) (A : Around) (Q : Value → Shared → Prop) (E : Value → Shared → Prop), St i s.heap → Q (.ref it) s → wpAny (model prog c.w) A (pyIter (.ref it)) Q E s
  item : ∀ (env : Env) (L : Addr) (X : Value → Shared → Prop) i x B loc H (dp un : Nat) s (P : Option Value → Shared → Prop) (E : Value → Shared → Prop), Good prog (c.re env L X) B loc H s → fix H → St i s.heap → items[i]? = some x →
    (∀ v h' tk, Rep h' v x → St (i + 1) h' → Heap.ExtBut it s.heap h' → P (some v) { s with heap := h', toks := tk }) → wpAny (model prog c.w) (c.A dp un) (pyNext (.ref it)) P E s
  stop : ∀ (env : Env) (L : Addr) (X : Value → Shared → Prop) i B loc H (dp un : Nat) s (P : Option Value → Shared → Prop) (E : Value → Shared → Prop), Good prog (c.re env L X) B loc H s → fix H → St i s.heap → items[i]? = none →
    (∀ h' tk, Heap.ExtBut it s.heap h' → P none { s with heap := h', toks := tk }) → wpAny (model prog c.w) (c.A dp un) (pyNext (.ref it)) P E s

section
variable {prog : Program} {c : Cx} {B : Heap} {loc loc' : Loc} {H H' : HM} {s s' : Shared} {n k dp un : Nat} {Q : QV}
theorem Good.other (G : Good prog c B loc H s) {a : Addr} {h' : Heap} {tk : Nat} (S : Sep c B H a) (hs : Heap.ExtBut a s.heap h') (hn : ∀ vs, ¬ IsTup s.heap a vs) : Good prog c B loc H { s with heap := h', toks := tk } ∧ Kt s.heap h' := by
  have kt : Kt s.heap h' := Kt.of_but hs hn
  have nB : ∀ b o, B.get? b = some o → b ≠ a := fun b o e q => by rw [q, S.b] at e; cases e
  refine ⟨{
    sub := G.sub
    lo := G.lo
    kp := fun b o e hb => hs b o (nB b o e) (G.kp b o e hb)
    ks := fun b o e hn => by obtain ⟨sl, z⟩ := G.ks b o e hn; exact ⟨sl, hs b _ (nB b o e) z⟩
    apart := G.apart
    obj := fun b mb e => by
      obtain ⟨h1, h2, h3, h4, h5⟩ := G.obj b mb e
      exact ⟨h1, h2, h3, h4, h5.mono kt fun o q => hs b o (by rintro rfl; first | exact (no S.h e).elim | exact (no e S.h).elim | obtain rfl := so S.h e | (rw [S.h] at e; cases e)) q⟩
    loc := {
      ns := by
        obtain ⟨m, hns, hm⟩ := G.loc.ns
        refine ⟨m, hns.extBut hs (Ne.symm S.l), fun x v e => ?_⟩
        rcases hm x v e with ⟨b, u, d, r⟩ | ⟨b, d, u, f, ⟨o, ho, e'⟩, r⟩
        · exact .inl ⟨b, u, d, Rep.mono kt r⟩
        · exact .inr ⟨b, d, u, f, ⟨o, hs d o (by rintro rfl; exact S.cl (cell_mem f)) ho, e'⟩, Rep.mono kt r⟩
      cl := fun b hb => by
        obtain ⟨v, o, ho, e'⟩ := G.loc.cl b hb
        exact ⟨v, o, hs b o (by rintro rfl; exact S.cl hb) ho, e'⟩ }
    gens := G.gens
    os := G.os
    fr := fun b hb => by
      obtain ⟨o, es, m, e, r⟩ := G.fr b hb
      exact ⟨o, es, m, hs b o (by rintro rfl; exact S.fr hb) e, r⟩ }, kt⟩
theorem noTup_fields {h : Heap} {a : Addr} (hn : ∃ o vs, h.get? a = some o ∧ o.data = .fields vs) : ∀ vs, ¬ IsTup h a vs := fun vs z0 => by
  obtain ⟨o, ho, _, m, hd⟩ := z0
  obtain ⟨o', vs', e, d⟩ := hn
  (first | exact (no ho e).elim | exact (no e ho).elim | obtain rfl := so ho e | (rw [ho] at e; cases e)); first | exact (no hd d).elim | exact (no d hd).elim | obtain rfl := so hd d | (rw [hd] at d; cases d)
theorem Good.sepNew (G : Good prog c B loc H s) : Sep c B H s.heap.objs.size := let ⟨h1, h2, h3, h4⟩ := G.newApart; ⟨h1, G.newNone, h3, h4, h2⟩
/-- behind a step an address that was apart is apart -/
theorem Aft.sep {loc' : Loc} (F : Aft prog c B H s loc' H' s') {a : Addr} (S : Sep c B H a) {o : Obj} (ho : s.heap.get? a = some o) : Sep c B H' a where
  b := S.b
  h := by
    cases q : H' a with
    | none => rfl
    | some m => have := F.fresh a m q S.h; first | exact (no ho this).elim | exact (no this ho).elim | obtain rfl := so ho this | (rw [ho] at this; cases this)
  l := S.l
  cl := S.cl
  fr := S.fr
theorem Sep.withX {X : Value → Shared → Prop} {a : Addr} (S : Sep c B H a) : Sep (c.withX X) B H a := ⟨S.b, S.h, S.l, S.cl, S.fr⟩

/-- a for over items, from the iterator on -/
theorem tf_loop (K : CxOk c) {x : Str} {px : Pos} {body : List Stmt} {Q : QF} {it : Addr} {items : List V} {fix : HM → Prop} {St : Nat → Heap → Prop} (W : IterOk prog c it items fix St) (hk : KindOk c x)
    (J : Nat → Loc → HM → Prop) (hfix : ∀ i loc H, J i loc H → fix H)
    (turn : ∀ dp un i y loc H, J i loc H → items[i]? = some y → TF prog (c.withX (loopX prog c dp un)) n k (execs body c.env) (put loc x y) H fun f loc2 H2 => match f with
        | .next | .cont => J (i + 1) loc2 H2
        | .brk => Q .next loc2 H2
        | .ret v => Q (.ret v) loc2 H2)
    (out : ∀ loc H, J items.length loc H → Q .next loc H)
    (R : Room n k dp un) (G : Good prog c B loc H s) (S : Sep c B H it) (hJ : J 0 loc H) (hSt : St 0 s.heap) :
    codeAny (model prog c.w) (c.A dp un) (.forLoop (.Name x px) (.ref it) body [] c.env) (fun r s' => match r with
      | .ok f => PF prog c B Q f s'
      | .error e => cameBackBy (model prog c.w) (c.A dp un) c.env c.X e s') s := by
  refine codeAny_forLoop_any (fun m s => ∃ i loc H, i ≤ items.length ∧ m = items.length - i ∧ Good prog c B loc H s ∧ Sep c B H it ∧ J i loc H ∧ St i s.heap) (fun m s z0 => ?_) items.length ⟨0, loc, H, Nat.zero_le _, by simp, G, S, hJ, hSt⟩
  obtain ⟨i, loc, H, hi, hm, G, S, hJ, hSt⟩ := z0
  by_cases hlt : i < items.length
  · have hx : items[i]? = some items[i] := List.getElem?_eq_getElem hlt
    refine W.item c.env c.L c.X i _ B loc H dp un s _ _ G (hfix i loc H hJ) hSt hx fun v h' tk rv hSt' hs => ?_
    obtain ⟨G', kt⟩ := G.other (tk := tk) S hs (noTup_fields (W.there i _ hSt))
    show wpAny _ _ (letOwnedTupleGo (.Name x px) (.ref it) v) _ _ _
    refine wpAny_pure (wpAny_assign_Name (Good.store (G'.wide K) K rv hk fun s1 G1 => ?_))
    have F := G'.aft G1
    obtain ⟨o, vs, ho, hd⟩ := W.there (i + 1) h' hSt'
    have e1 : s1.heap.get? it = some o := F.keep.kp it o ho S.h S.l S.cl S.fr
    have St1 : St (i + 1) s1.heap := W.frame _ _ _ hSt' (fun o' e => by (first | exact (no ho e).elim | exact (no e ho).elim | obtain rfl := so ho e | (rw [ho] at e; cases e)); exact e1) F.kt
    have S1 : Sep c B H it := F.sep S ho
    refine TF.run (turn dp un i _ loc H hJ hx) (K.withX _) R (F.g.withX _) fun f r loc2 H2 s2 rf F2 q2 => ?_
    have e2 : s2.heap.get? it = some o := F2.keep.kp it o e1 S1.h S1.l S1.cl S1.fr
    have St2 : St (i + 1) s2.heap := W.frame _ _ _ St1 (fun o' e => by (first | exact (no e1 e).elim | exact (no e e1).elim | obtain rfl := so e1 e | (rw [e1] at e; cases e)); exact e2) F2.kt
    have S2 : Sep c B H2 it := by
      have z := F2.sep S1.withX e1
      exact ⟨z.b, z.h, z.l, z.cl, z.fr⟩
    induction rf with
    | next => exact ⟨items.length - (i + 1), by (first | lia | omega), i + 1, loc2, H2, hlt, rfl, F2.g.offX, S2, q2, St2⟩
    | cont => exact ⟨items.length - (i + 1), by (first | lia | omega), i + 1, loc2, H2, hlt, rfl, F2.g.offX, S2, q2, St2⟩
    | brk => exact ⟨.next, loc2, H2, .next, F2.g.offX, q2⟩
    | ret rv => exact ⟨_, loc2, H2, .ret rv, F2.g.offX, q2⟩
  · have hx : items[i]? = none := List.getElem?_eq_none (by (first | lia | omega))
    have hi' : i = items.length := by (first | lia | omega)
    subst hi'
    refine W.stop c.env c.L c.X _ B loc H dp un s _ _ G (hfix _ loc H hJ) hSt hx fun h' tk hs => ?_
    obtain ⟨G', kt⟩ := G.other (tk := tk) S hs (noTup_fields (W.there _ _ hSt))
    exact wpAny_execs_nil ⟨.next, loc, H, .next, G', out loc H hJ⟩
end
end Mine

namespace Mine
open PySem PySem.Calls PySem.Spec PyProof.Rows PySem.W

/-- a contract of anything called -/
noncomputable def CW (prog : Program) (T : Tab) (n : Nat) (f : Value) (args : List V) (H : HM) (Q : QV) : Prop :=
  ∀ c : Cx, CxOk c → c.T = T → ∀ k B loc dp un s vs, Room n k dp un → Good prog c B loc H s → RepL s.heap vs args →
    wpAny (model prog c.w) (c.A dp un) (call f vs) (PV prog c B loc Q) c.X s

/-- a contract at one block -/
noncomputable def CWat (prog : Program) (c : Cx) (n : Nat) (f : Value) (args : List V) (H : HM) (Q : QV) : Prop :=
  ∀ k B loc dp un s vs, Room n k dp un → Good prog c B loc H s → RepL s.heap vs args →
    wpAny (model prog c.w) (c.A dp un) (call f vs) (PV prog c B loc Q) c.X s
theorem CW.at {prog : Program} {c : Cx} {n : Nat} {f : Value} {args : List V} {H : HM} {Q : QV} (h : CW prog c.T n f args H Q) (K : CxOk c) : CWat prog c n f args H Q := h c K rfl
theorem RepL.inv1 {h : Heap} {vs : List Value} {x : V} (r : RepL h vs [x]) : ∃ v, vs = [v] ∧ Rep h v x := by
  cases r with | cons a b => cases b; exact ⟨_, rfl, a⟩
theorem RepL.inv2 {h : Heap} {vs : List Value} {x y : V} (r : RepL h vs [x, y]) : ∃ v u, vs = [v, u] ∧ Rep h v x ∧ Rep h u y := by
  cases r with | cons a b => obtain ⟨u, rfl, q⟩ := b.inv1; exact ⟨_, u, rfl, a, q⟩
theorem RepL.inv3 {h : Heap} {vs : List Value} {x y z : V} (r : RepL h vs [x, y, z]) : ∃ v u t, vs = [v, u, t] ∧ Rep h v x ∧ Rep h u y ∧ Rep h t z := by
  cases r with | cons a b => obtain ⟨u, t, rfl, q, p⟩ := b.inv2; exact ⟨_, u, t, rfl, a, q, p⟩
theorem RepL.inv0 {h : Heap} {vs : List Value} (r : RepL h vs []) : vs = [] := by cases r; rfl
theorem Rep.invRef {h : Heap} {v : Value} {a : Addr} (r : Rep h v (.ref a)) : v = .ref a := by cases r; rfl
theorem Rep.invInt {h : Heap} {v : Value} {i : Int} (r : Rep h v (.int i)) : ∃ t, v = .int i t := by cases r; exact ⟨_, rfl⟩
theorem Rep.invStr {h : Heap} {v : Value} {x : Str} (r : Rep h v (.str x)) : ∃ t, v = .str x t := by cases r; exact ⟨_, rfl⟩
theorem Rep.invBool {h : Heap} {v : Value} {b : Bool} (r : Rep h v (.bool b)) : v = .bool b := by cases r; rfl
theorem Rep.invPrim {h : Heap} {v u : Value} (r : Rep h v (.prim u)) : v = u := by cases r; rfl
theorem Rep.invTup {h : Heap} {v : Value} {l : List V} (r : Rep h v (.tup l)) : ∃ a vs, v = .ref a ∧ IsTup h a vs.toArray ∧ RepL h vs l := by cases r with | tup a b => exact ⟨_, _, rfl, a, b⟩

section
variable {prog : Program} {T : Tab} {H : HM} {n : Nat} {Q : QV}
theorem cw_len_list {a : Addr} {xs : List V} (e : H a = some (.list xs)) (hl : xs.length ≤ 1000000) (h : Q (.int xs.length) H) : CW prog T n (.builtin "len") [.ref a] H Q := fun c K hT k B loc dp un s vs R G rs => by
  obtain ⟨v, rfl, r⟩ := rs.inv1
  obtain rfl := r.invRef
  obtain ⟨us, m, he, hr⟩ := (G.obj a _ e).rep
  have hlen : us.size = xs.length := by simpa using hr.length
  refine call_len_list (items := us) ⟨_, he, rfl, m, rfl⟩ (by (first | lia | omega)) ⟨.int us.size, H, .int _ _, G.same rfl rfl rfl, ?_⟩
  rw [hlen]; exact h
theorem cw_len_tup {xs : List V} (hl : xs.length ≤ 1000000) (h : Q (.int xs.length) H) : CW prog T n (.builtin "len") [.tup xs] H Q := fun c K hT k B loc dp un s vs R G rs => by
  obtain ⟨v, rfl, r⟩ := rs.inv1
  obtain ⟨a, us, rfl, t, hr⟩ := r.invTup
  have hlen := hr.length
  refine PyProof.Rows.len_tuple t (by simp; (first | lia | omega)) ⟨.int us.length, H, ?_, G.same rfl rfl rfl, ?_⟩
  · simpa using Rep.int (h := s.heap) (us.length : Int) (s.toks + 1)
  rw [hlen]; exact h
theorem repKV_len {K : Type} {h : Heap} {kvs : List (K × Value)} {l : List (K × V)} (r : RepKV h kvs l) : kvs.length = l.length := by
  induction r with
  | nil => rfl
  | cons _ _ ih => exact congrArg Nat.succ ih
theorem cw_len_dict {a : Addr} {xs : List (Int × V)} (e : H a = some (.dictI xs)) (hl : xs.length ≤ 1000000) (h : Q (.int xs.length) H) : CW prog T n (.builtin "len") [.ref a] H Q := fun c K hT k B loc dp un s vs R G rs => by
  obtain ⟨v, rfl, r⟩ := rs.inv1
  obtain rfl := r.invRef
  obtain ⟨kvs, hd, hr⟩ := (G.obj a _ e).rep
  have hlen := repKV_len hr
  refine call_len_dict (ne_sys K G e) hd (by (first | lia | omega)) ⟨.int kvs.length, H, .int _ _, G.same rfl rfl rfl, ?_⟩
  rw [hlen]; exact h
theorem cw_abs {i : Int} (h : Q (.int (if i < 0 then -i else i)) H) : CW prog T n (.builtin "abs") [.int i] H Q := fun c K hT k B loc dp un s vs R G rs => by
  obtain ⟨v, rfl, r⟩ := rs.inv1
  obtain ⟨t, rfl⟩ := r.invInt
  exact call_abs_int fun u tk => ⟨_, H, .int _ _, G.same rfl rfl rfl, h⟩
theorem cw_tuple_list {a : Addr} {xs : List V} (e : H a = some (.list xs)) (hl : xs.length ≤ 1000000) (h : Q (.tup xs) H) : CW prog T n (.type "tuple") [.ref a] H Q := fun c K hT k B loc dp un s vs R G rs => by
  obtain ⟨v, rfl, r⟩ := rs.inv1
  obtain rfl := r.invRef
  obtain ⟨us, m, he, hr⟩ := (G.obj a _ e).rep
  have hlen : us.size = xs.length := by simpa using hr.length
  refine call_tuple_list (items := us) ⟨_, he, rfl, m, rfl⟩ (fun h' hk => ⟨.tup xs, H, ?_, G.more (fun b o e => Heap.get?_push_of_some _ (hk b o e)) rfl rfl, h⟩) (by unfold sizeLine; (first | lia | omega))
  exact .tup (vs := us.toList) ⟨_, Heap.get?_push_size _ rfl, rfl, 0, by simp⟩ (RepL.mono (Kt.of_keeps fun b o e => Heap.get?_push_of_some _ (hk b o e)) hr)
theorem cw_list_seq {a : Addr} {xs : List V} (e : H a = some (.list xs)) (hl : xs.length ≤ 1000000) (h : ∀ b, H b = none → Q (.ref b) (upd H b (.list xs))) : CW prog T n (.type "list") [.ref a] H Q := fun c K hT k B loc dp un s vs R G rs => by
  obtain ⟨v, rfl, r⟩ := rs.inv1
  obtain rfl := r.invRef
  obtain ⟨us, m, he, hr⟩ := (G.obj a _ e).rep
  have hlen : us.size = xs.length := by simpa using hr.length
  refine call_list_seq a (.inl rfl) he rfl rfl (fun h' c' hk hn => ?_) (by unfold sizeLine; (first | lia | omega))
  obtain ⟨n1, n2, n3, n4⟩ := G.newApart
  exact ⟨.ref _, _, .ref _, Good.tell (m := .list xs) (s := { s with heap := h' }) (G.more (s' := { s with heap := h' }) hk rfl rfl) n1 n2 n3 n4 ⟨us, c', hn, RepL.mono (Kt.of_keeps hk) hr⟩, h _ G.newNone⟩
theorem cw_isinst_str {x : Str} (h : Q (.bool true) H) : CW prog T n (.builtin "isinstance") [.str x, .prim (.type "str")] H Q := fun c K hT k B loc dp un s vs R G rs => by
  obtain ⟨v, u, rfl, r1, r2⟩ := rs.inv2
  obtain ⟨t, rfl⟩ := r1.invStr
  obtain rfl := r2.invPrim
  exact IsiPair.str_str ⟨_, H, .bool _, G, h⟩
theorem cw_isinst_tup {x : List V} (h : Q (.bool false) H) : CW prog T n (.builtin "isinstance") [.tup x, .prim (.type "str")] H Q := fun c K hT k B loc dp un s vs R G rs => by
  obtain ⟨v, u, rfl, r1, r2⟩ := rs.inv2
  obtain ⟨a, us, rfl, ⟨o, ho, hc, _⟩, _⟩ := r1.invTup
  obtain rfl := r2.invPrim
  exact IsiPair.tuple_str ho hc ⟨_, H, .bool _, G.same rfl rfl rfl, h⟩
theorem cw_append {a : Addr} {xs : List V} {x : V} (e : H a = some (.list xs)) (hl : xs.length ≤ 1000000) (h : Q .none (upd H a (.list (xs ++ [x])))) : CW prog T n (.builtin "list.append") [.ref a, x] H Q := fun c K hT k B loc dp un s vs R G rs => by
  obtain ⟨v, u, rfl, r1, r2⟩ := rs.inv2
  obtain rfl := r1.invRef
  obtain ⟨us, m, he, hr⟩ := (G.obj a _ e).rep
  have hlen : us.size = xs.length := by simpa using hr.length
  refine append_at he (fun h' hs hn => ?_) (by unfold sizeLine; (first | lia | omega))
  exact ⟨.none, _, .none, G.set (s' := { s with heap := h' }) (m' := .list (xs ++ [x])) e hs (fun kt => ⟨_, _, hn, by simpa using (RepL.mono kt hr).append (.cons (Rep.mono kt r2) .nil)⟩) rfl rfl, h⟩
theorem cw_pop {a : Addr} {xs : List V} {x : V} (e : H a = some (.list (xs ++ [x]))) (hl : xs.length ≤ 1000000) (h : Q x (upd H a (.list xs))) : CW prog T n (.builtin "list.pop") [.ref a] H Q := fun c K hT k B loc dp un s vs R G rs => by
  obtain ⟨v, rfl, r1⟩ := rs.inv1
  obtain rfl := r1.invRef
  obtain ⟨us, m, he, hr⟩ := (G.obj a _ e).rep
  have hlen : us.size = xs.length + 1 := by simpa using hr.length
  obtain ⟨y, hy, ry⟩ := hr.get (i := xs.length) (x := x) (by simp)
  have hy' : us[us.size - 1]? = some y := by
    rw [hlen]; simpa using hy
  refine call_meets F.slot_list_pop ⟨_, he, rfl⟩ F.entry_list_pop (F.args_list_pop_1 _) (MeetsSeq.list_pop_last a us m y hy' (by unfold sizeLine; (first | lia | omega))) ⟨he, ?_⟩
  have hs : Heap.SameBut a s.heap (s.heap.update a (Obj.mapSeq fun xs => xs.eraseIdxIfInBounds (us.size - 1))) := Heap.SameBut.update ..
  have G' := G.set (m' := .list xs) (s' := { s with heap := s.heap.update a (Obj.mapSeq fun xs => xs.eraseIdxIfInBounds (us.size - 1)) }) e hs (fun kt => by
    refine ⟨us.eraseIdxIfInBounds (us.size - 1), _, Heap.get?_update_self _ he rfl, ?_⟩
    have : (us.eraseIdxIfInBounds (us.size - 1)).toList = us.toList.take xs.length := by
      have h1 : us.size - 1 < us.size := by (first | lia | omega)
      rw [Array.eraseIdxIfInBounds, dif_pos h1, Array.toList_eraseIdx, List.eraseIdx_eq_take_drop_succ, hlen]
      have : us.toList.drop (xs.length + 1 - 1 + 1) = [] := List.drop_eq_nil_of_le (by simp [hlen])
      rw [this]; simp
    rw [this]
    have := (RepL.mono kt hr).take xs.length
    simpa using this) rfl rfl
  exact ⟨x, _, Rep.mono (Kt.of_but hs.extBut (repM_noTup (G.obj a _ e).rep)) ry, G', h⟩
theorem cw_set0 (h : ∀ b, H b = none → Q (.ref b) (upd H b (.set (fun _ => false) 0))) : CW prog T n (.type "set") [] H Q := fun c K hT k B loc dp un s vs R G rs => by
  obtain rfl := rs.inv0
  refine call_set_0 fun led => ⟨.ref _, _, .ref _, G.new ?_, h _ G.newNone⟩
  exact ⟨_, #[], 0, _, Heap.get?_push_size _ rfl, ⟨rfl, rfl, rfl⟩, rfl, fun e he => by simp at he, fun k => by simp, by decide, by rfl, rfl⟩
theorem cw_set_add {a : Addr} {S : Int → Bool} {m : Nat} {i : Int} (e : H a = some (.set S m)) (hm : m ≤ 4000) (h : Q .none (upd H a (.set (fun j => S j || decide (j = i)) (if S i = true then m else m + 1)))) : CW prog T n (.builtin "set.add") [.ref a, .int i] H Q := fun c K hT k B loc dp un s vs R G rs => by
  obtain ⟨v, u, rfl, r1, r2⟩ := rs.inv2
  obtain rfl := r1.invRef
  obtain ⟨t, rfl⟩ := r2.invInt
  have he : s.heap.SetOf (intKind prog c.w) a S m := (G.obj a _ e).rep
  refine call_set_add (knd := intKind prog c.w) (k := i) ?_ rfl he ?_ fun h' hs hn => ⟨.none, _, .none, G.set (s' := { s with heap := h', toks := s.toks + 1 }) (m' := .set (fun j => S j || decide (j = i)) (if S i = true then m else m + 1)) e hs (fun kt => hn) rfl rfl, h⟩
  · simp [intKind, Value.isInt]
  · unfold scanBound; (first | lia | omega)
end
end Mine

namespace Mine
open PySem PySem.Calls PySem.Spec PyProof.Rows PySem.W

/-- a key's value is set in an ordered table -/
noncomputable def kst {K A : Type} [DecidableEq K] (l : List (K × A)) (k : K) (v : A) : List (K × A) :=
  if l.any (fun kv => kv.1 = k) then l.map (fun kv => if kv.1 = k then (kv.1, v) else kv) else l ++ [(k, v)]
theorem repKV_any {K : Type} [DecidableEq K] {h : Heap} {k : K} {kvs : List (K × Value)} {l : List (K × V)} (r : RepKV h kvs l) : kvs.any (fun kv => kv.1 = k) = l.any (fun kv => kv.1 = k) := by
  induction r with
  | nil => rfl
  | cons _ _ ih => rw [List.any_cons, List.any_cons, ih]
theorem repKV_map {K : Type} [DecidableEq K] {h : Heap} {k : K} {v : Value} {x : V} (r : Rep h v x) {kvs : List (K × Value)} {l : List (K × V)} (q : RepKV h kvs l) : RepKV h (kvs.map (fun kv => if kv.1 = k then (kv.1, v) else kv)) (l.map (fun kv => if kv.1 = k then (kv.1, x) else kv)) := by
  induction q with
  | nil => exact .nil
  | @cons k' _ _ _ _ a b ih =>
    rw [List.map_cons, List.map_cons]
    by_cases e : k' = k
    · rw [if_pos e, if_pos e]; exact .cons r ih
    · rw [if_neg e, if_neg e]; exact .cons a ih
theorem repKV_app {K : Type} {h : Heap} {kvs ws : List (K × Value)} {l m : List (K × V)} (r : RepKV h kvs l) (q : RepKV h ws m) : RepKV h (kvs ++ ws) (l ++ m) := by
  induction r with
  | nil => exact q
  | cons a _ ih => exact .cons a ih
theorem repKV_stored {K : Type} [DecidableEq K] {h : Heap} {k : K} {v : Value} {x : V} (r : Rep h v x) {kvs : List (K × Value)} {l : List (K × V)} (q : RepKV h kvs l) : RepKV h (stored kvs k v) (kst l k x) := by
  unfold stored kst
  rw [repKV_any q]
  split
  · exact repKV_map r q
  · exact repKV_app q (.cons r .nil)
theorem repP_at {h : Heap} {i j : Int} {xs : List (List Int × Addr × Value)} {l : List ((Int × Int) × V)} (q : RepP h xs l) : (∀ x, l.lookup (i, j) = some x → ∃ p, atKey xs [i, j] = some p ∧ Rep h p.2 x) ∧ (l.lookup (i, j) = none → atKey xs [i, j] = none) := by
  induction q with
  | nil => exact ⟨fun _ e => (by cases e), fun _ => rfl⟩
  | @cons i' j' a v y kvs l r rest ih =>
    by_cases e : (i, j) = (i', j')
    · cases e
      refine ⟨fun x hx => ?_, fun hx => ?_⟩
      · simp only [List.lookup_cons, beq_self_eq_true] at hx; cases hx
        exact ⟨(a, v), by simp [atKey], r⟩
      · simp at hx
    · have hb : ((i, j) == (i', j')) = false := beq_eq_false_iff_ne.mpr e
      have hv : atKey (([i', j'], a, v) :: kvs) [i, j] = atKey kvs [i, j] := by
        unfold atKey
        rw [List.find?_cons]
        have : decide ([i', j'] = [i, j]) = false := decide_eq_false fun q => e (by simp at q; rw [q.1, q.2])
        simp only [this]
      rw [hv]
      exact ⟨fun x hx => ih.1 x (by rwa [List.lookup_cons, hb] at hx), fun hx => ih.2 (by rwa [List.lookup_cons, hb] at hx)⟩
theorem repP_len {h : Heap} {xs : List (List Int × Addr × Value)} {l : List ((Int × Int) × V)} (r : RepP h xs l) : xs.length = l.length := by
  induction r with
  | nil => rfl
  | cons _ _ ih => exact congrArg Nat.succ ih
theorem repP_app {h : Heap} {i j : Int} {a : Addr} {v : Value} {x : V} (r : Rep h v x) {xs : List (List Int × Addr × Value)} {l : List ((Int × Int) × V)} (q : RepP h xs l) : RepP h (xs ++ [([i, j], a, v)]) (l ++ [((i, j), x)]) := by
  induction q with
  | nil => exact .cons r .nil
  | cons a _ ih => exact .cons a ih

section
variable {prog : Program} {T : Tab} {H : HM} {n : Nat} {Q : QV}
theorem cw_get_str {a : Addr} {l : List (Str × V)} {x : Str} {d : V} (e : H a = some (.dictS l)) (h : Q ((l.lookup x).getD d) H) : CW prog T n (.builtin "dict.get") [.ref a, .str x, d] H Q := fun c K hT k B loc dp un s vs R G rs => by
  obtain ⟨v, u, t, rfl, r1, r2, r3⟩ := rs.inv3
  obtain rfl := r1.invRef
  obtain ⟨tk, rfl⟩ := r2.invStr
  obtain ⟨kvs, hd, hr⟩ := (G.obj a _ e).rep
  refine call_meetsIn F.slot_dict_get hd.mapOf.typeIs F.entry_dict_get (F.args_dict_get_3 _ _ _) (meets_dict_get_default (PySem.strKind prog c.w) (k := x) a (by simp [PySem.strKind, Value.isStrOf, Value.isStr]) (ne_sys K G e) t) ⟨_, hd.mapOf, ?_⟩
  refine ⟨_, H, ?_, G.same rfl rfl rfl, h⟩
  cases q : l.lookup x with
  | none => rw [(lookup_rep x hr).2 q]; exact r3
  | some y => obtain ⟨v, hv, ry⟩ := (lookup_rep x hr).1 y q; rw [hv]; exact ry
theorem tupKey {h : Heap} {v : Value} {i j : Int} {prog : Program} {w : World} (r : Rep h v (.tup [.int i, .int j])) : ∃ a, v = .ref a ∧ IsTupleKey (intKind prog w) h [i, j] a := by
  obtain ⟨a, vs, rfl, ⟨o, ho, hc, m, hd⟩, rl⟩ := r.invTup
  obtain ⟨v, u, rfl, r1, r2⟩ := rl.inv2
  obtain ⟨t1, rfl⟩ := r1.invInt
  obtain ⟨t2, rfl⟩ := r2.invInt
  refine ⟨a, rfl, o, _, m, ho, hc, hd, ?_⟩
  refine .cons ?_ (.cons ?_ .nil) <;> simp [intKind, Value.isInt]
theorem cw_get_pair {a : Addr} {l : List ((Int × Int) × V)} {i j : Int} {d : V} (e : H a = some (.dictP l)) (h : Q ((l.lookup (i, j)).getD d) H) : CW prog T n (.builtin "dict.get") [.ref a, .tup [.int i, .int j], d] H Q := fun c K hT k B loc dp un s vs R G rs => by
  obtain ⟨v, u, t, rfl, r1, r2, r3⟩ := rs.inv3
  obtain rfl := r1.invRef
  obtain ⟨xs, hd, hr⟩ := (G.obj a _ e).rep
  obtain ⟨b, rfl, hk⟩ := tupKey (prog := prog) (w := c.w) r2
  have hu := R.units
  refine call_meetsIn F.slot_dict_get hd.typeIs F.entry_dict_get (F.args_dict_get_3 _ _ _) (meetsH_dict_get_default (tupleKind (intKind prog c.w)) a b (ne_sys K G e) t) ⟨tupleKind_room_in1 (show un + 1 < cLine by (first | lia | omega)), [i, j], xs, hk, hd, ?_⟩
  refine ⟨_, H, ?_, G.same rfl rfl rfl, h⟩
  cases q : l.lookup (i, j) with
  | none => rw [(repP_at hr).2 q]; exact r3
  | some y => obtain ⟨v, hv, ry⟩ := (repP_at hr).1 y q; rw [hv]; exact ry
theorem cw_list_dict {a : Addr} {l : List (Int × V)} (e : H a = some (.dictI l)) (hl : l.length ≤ 1000000) (h : ∀ b, H b = none → Q (.ref b) (upd H b (.list (l.map fun p => .int p.1)))) : CW prog T n (.type "list") [.ref a] H Q := fun c K hT k B loc dp un s vs R G rs => by
  obtain ⟨v, rfl, r⟩ := rs.inv1
  obtain rfl := r.invRef
  obtain ⟨kvs, hd, hr⟩ := (G.obj a _ e).rep
  obtain ⟨ep, hat⟩ := hd.dictAt
  have hlen := repKV_len hr
  refine W.kdl_call (W.kdl_dict (knd := intKind prog c.w) (kvs := kvs) (ep := ep) (ne_sys K G e)) rfl hat (by unfold sizeLine; (first | lia | omega)) fun h' tk acc' c' hk hn hacc => ?_
  obtain ⟨n1, n2, n3, n4⟩ := G.newApart
  refine ⟨.ref _, _, .ref _, Good.tell (m := .list (l.map fun p => .int p.1)) (s := { s with heap := h', toks := tk }) (G.more (s' := { s with heap := h', toks := tk }) hk rfl rfl) n1 n2 n3 n4 ⟨acc', c', hn, ?_⟩, h _ G.newNone⟩
  have key : ∀ {kvs : List (Int × Value)} {l : List (Int × V)}, RepKV s.heap kvs l → ∀ {us : List Value}, us.length = kvs.length → (∀ (j : Nat) (u : Value), us[j]? = some u → ∃ k x, kvs[j]? = some (k, x) ∧ (intKind prog c.w).is k u = true) → RepL h' us (l.map fun p => .int p.1) := by
    intro kvs l r
    induction r with
    | nil => intro us hl _; cases us with | nil => exact .nil | cons _ _ => cases hl
    | @cons k v x kvs l a b ih =>
      intro us hl hp
      cases us with
      | nil => cases hl
      | cons u us =>
        obtain ⟨k', x', hk', hi⟩ := hp 0 u rfl
        cases hk'
        obtain ⟨t, rfl⟩ := Value.isInt_shape hi
        exact .cons (.int _ t) (ih (by simpa using hl) fun j u hu => by simpa using hp (j + 1) u (by simpa using hu))
  exact key hr (us := acc'.toList) (by rw [Array.length_toList]; exact hacc.1) fun (j : Nat) (u : Value) (hu : acc'.toList[j]? = some u) => hacc.2 j u (by rw [← Array.getElem?_toList]; exact hu)
end

/-- x[i] -/
inductive subV : V → V → HM → (V → Prop) → Prop
  | tup {l : List V} {j : Int} {z : V} {H : HM} {Q : V → Prop} (h0 : 0 ≤ j) (h1 : j < 1000000) (e : l[j.toNat]? = some z) (q : Q z) : subV (.tup l) (.int j) H Q
  | list {a : Addr} {l : List V} {j : Int} {z : V} {H : HM} {Q : V → Prop} (ha : H a = some (.list l)) (h0 : 0 ≤ j) (h1 : j < 1000000) (e : l[j.toNat]? = some z) (q : Q z) : subV (.ref a) (.int j) H Q
  | dictI {a : Addr} {l : List (Int × V)} {j : Int} {z : V} {H : HM} {Q : V → Prop} (ha : H a = some (.dictI l)) (e : l.lookup j = some z) (q : Q z) : subV (.ref a) (.int j) H Q
/-- x[i] = y -/
inductive setV : V → V → V → HM → (HM → Prop) → Prop
  | list {a : Addr} {l : List V} {j : Int} {y : V} {H : HM} {Q : HM → Prop} (ha : H a = some (.list l)) (h0 : 0 ≤ j) (h1 : j < l.length) (h2 : l.length ≤ 1000000) (q : Q (upd H a (.list (l.set j.toNat y)))) : setV (.ref a) (.int j) y H Q
  | dictI {a : Addr} {l : List (Int × V)} {j : Int} {y : V} {H : HM} {Q : HM → Prop} (ha : H a = some (.dictI l)) (h2 : l.length ≤ 1000000) (q : Q (upd H a (.dictI (kst l j y)))) : setV (.ref a) (.int j) y H Q
  | dictS {a : Addr} {l : List (Str × V)} {j : Str} {y : V} {H : HM} {Q : HM → Prop} (ha : H a = some (.dictS l)) (h2 : l.length ≤ 1000000) (q : Q (upd H a (.dictS (kst l j y)))) : setV (.ref a) (.str j) y H Q
  | dictP {a : Addr} {l : List ((Int × Int) × V)} {j m : Int} {y : V} {H : HM} {Q : HM → Prop} (ha : H a = some (.dictP l)) (h2 : l.length ≤ 1000000) (h3 : l.lookup (j, m) = none) (q : Q (upd H a (.dictP (l ++ [((j, m), y)])))) : setV (.ref a) (.tup [.int j, .int m]) y H Q
theorem subscripted_op (slice : Expr) (o i : Value) : ∃ ops, subscripted slice false o i = operate ops (getItem o i) := by
  cases slice with
  | Slice a b c p => cases c <;> exact ⟨_, rfl⟩
  | _ => exact ⟨_, rfl⟩
theorem setItem_exact {prog : Program} {w : World} {A : Around} {E : Value → Shared → Prop} {s : Shared} {l : Addr} {items : Array Value} {m : Nat} {k : Int} {t : Tok} {v : Value} {Q : Unit → Shared → Prop} (he : s.heap.get? l = some { cls := .type "list", data := .seq items m })
    (h0 : 0 ≤ k) (hfit : k < 2 ^ 63) (hj : k < items.size) (hQ : ∀ h', (∃ m', h'.get? l = some { cls := .type "list", data := .seq (items.setIfInBounds k.toNat v) m' }) → Heap.SameBut l s.heap h' → Q () { s with heap := h' }) :
    wpAny (model prog w) A (setItem (.ref l) (.int k t) v) Q E s := by
  have hl : s.heap.IsList l items := ⟨_, he, rfl, m, rfl⟩
  have hf := fitsIndex_of h0 hfit
  clear hfit
  unfold setItem
  try with_reducible refine wpAny_holding ?_
  first | refine wpAny_bind (wpAny_pure ?_) | skip
  refine wpAny_bind (wpAny_sequenceKey hl.typeIs (by decide) ?_)
  refine wpAny_bind (wpAny_callSpecial?_slot (name := Str.ofString "__setitem__") hl.typeIs slot_list_setitem
    (wpAny_call_entry slot_list_setitem hl.typeIs entry_list_setitem ?_ (args_list_setitem _ _ _)))
  show wpAny _ _ (Builtin.List.listSubscript? (.int k t) >>= _) _ _ s
  refine wpAny_bind (wpAny_listSubscript_int hf ?_)
  obtain ⟨j, rfl⟩ := Int.eq_ofNat_of_zero_le h0
  have hj' : j < items.size := by (first | lia | omega)
  have fin : ∃ m', (s.heap.update l (Obj.mapSeq (·.setIfInBounds j v))).get? l = some { cls := .type "list", data := .seq (items.setIfInBounds j v) m' } := ⟨_, Heap.get?_update_self _ he rfl⟩
  show wpAny _ _ ((seqItemAt l j >>= fun r => pure (r.map (j, ·))) >>= _) _ _ s
  refine wpAny_bind (wpAny_bind (wpAny_seqItemAt he rfl (wpAny_pure ?_)))
  rw [Array.getElem?_eq_getElem hj']
  show wpAny _ _ (setSeqItemAt l j v >>= _) _ _ s
  refine wpAny_bind (wpAny_setSeqItemAt he rfl ?_)
  first
    | exact wpAny_bind (wpAny_pure (wpAny_pure ⟨.none, rfl, wpAny_pure (hQ _ fin (Heap.SameBut.update ..))⟩))
    | exact wpAny_pure ⟨.none, rfl, wpAny_pure (hQ _ fin (Heap.SameBut.update ..))⟩
section
variable {prog : Program} {c : Cx} {B : Heap} {loc loc' : Loc} {H H' : HM} {s s' : Shared} {n k dp un : Nat} {Q : QV}
theorem op_sub (K : CxOk c) (G : Good prog c B loc H s) {u v : Value} {x y : V} {value slice : Expr} {A : Around} {E : Value → Shared → Prop} {QQ : V → Prop} (ru : Rep s.heap u x) (rv : Rep s.heap v y) (h : subV x y H QQ) :
    wpAny (model prog c.w) A (subscriptTail value slice u v) (fun v s' => ∃ r H', Rep s'.heap v r ∧ Good prog c B loc H' s' ∧ QQ r ∧ H' = H) E s := by
  induction h with
  | @tup l j z H QQ h0 h1 hz hq =>
    obtain ⟨t, rfl⟩ := rv.invInt
    obtain ⟨ops, ho⟩ := subscripted_op slice u (.int j t)
    obtain ⟨a, vs, rfl, ht, rl⟩ := ru.invTup
    obtain ⟨w, hw, rw'⟩ := rl.get hz
    have this : j.toNat < vs.length := (List.getElem?_eq_some_iff.mp hw).1
    exact tail_any ht.typeIs slot_tuple_getitem.lookup (getItem_tuple ht (by (first | lia | omega)) (by (first | lia | omega)) (j := j.toNat) (by rw [seqIndex_of h0 (by simp; (first | lia | omega))]) (by simpa using hw) ⟨z, H, rw', G, hq, rfl⟩) ho
  | @list a l j z H QQ e h0 h1 hz hq =>
    obtain ⟨t, rfl⟩ := rv.invInt
    obtain ⟨ops, ho⟩ := subscripted_op slice u (.int j t)
    obtain rfl := ru.invRef
    obtain ⟨us, m, he, hr⟩ := (G.obj _ _ e).rep
    obtain ⟨w, hw, rw'⟩ := hr.get hz
    exact tail_any ⟨_, he, rfl⟩ slot_list_getitem.lookup (wpAny_getItem_list ⟨_, he, rfl, m, rfl⟩ h0 (by (first | lia | omega)) (by simpa using hw) ⟨z, H, rw', G, hq, rfl⟩) ho
  | @dictI a l j z H QQ e hz hq =>
    obtain ⟨t, rfl⟩ := rv.invInt
    obtain ⟨ops, ho⟩ := subscripted_op slice u (.int j t)
    obtain rfl := ru.invRef
    obtain ⟨kvs, hd, hr⟩ := (G.obj _ _ e).rep
    obtain ⟨w, hw, rw'⟩ := (lookup_rep _ hr).1 z hz
    exact tail_any hd.mapOf.typeIs F.slot_dict_getitem.lookup (wpAny_getItem_of (knd := intKind prog c.w) (by simp [intKind, Value.isInt]) hd.mapOf hw ⟨z, H, rw', G.same rfl rfl rfl, hq, rfl⟩) ho
theorem tv_sub (K : CxOk c) {e i : Expr} {pos : Pos} (h : TV prog c n k (eval e c.env) loc H fun x H1 => TV prog c n k (eval i c.env) loc H1 fun y H2 => subV x y H2 fun z => Q z H2) :
    TV prog c n k (eval (.Subscript e i pos) c.env) loc H Q := fun B dp un s R G => by
  refine Subscript_ (h.run K R G fun v x H1 s1 rx G1 q => q.run K R G1.g fun u y H2 s2 ry G2 q2 => ?_)
  refine wpAny_mono (op_sub K G2.g (Rep.mono G2.kt rx) ry q2) (fun _ _ z0 => by obtain ⟨r, H', a, b, q, e⟩ := z0; exact ⟨r, H', a, b, e ▸ q⟩) fun _ _ x => x
theorem op_setItem (K : CxOk c) (R : Room n k dp un) (G : Good prog c B loc H s) {u v w : Value} {x y z : V} {E : Value → Shared → Prop} {QQ : HM → Prop} (ru : Rep s.heap u x) (rv : Rep s.heap v y) (rw' : Rep s.heap w z) (h : setV x y z H QQ) :
    wpAny (model prog c.w) (c.A dp un) (setItem u v w) (PU prog c B loc QQ) E s := by
  induction h with
  | @list a l j z H QQ e h0 h1 h2 hq =>
    obtain rfl := ru.invRef
    obtain ⟨t, rfl⟩ := rv.invInt
    obtain ⟨us, m, he, hr⟩ := (G.obj _ _ e).rep
    have hlen : us.size = l.length := by simpa using hr.length
    refine setItem_exact he h0 (by (first | lia | omega)) (by (first | lia | omega)) fun h' hn' hs => ?_
    obtain ⟨m', hn'⟩ := hn'
    exact ⟨_, G.set (s' := { s with heap := h' }) (m' := .list (l.set j.toNat z)) e hs (fun kt => ⟨_, m', hn', by simpa using (RepL.mono kt hr).set j.toNat (Rep.mono kt rw')⟩) rfl rfl, hq⟩
  | @dictI a l j z H QQ e h2 hq =>
    obtain rfl := ru.invRef
    obtain ⟨t, rfl⟩ := rv.invInt
    obtain ⟨kvs, hd, hr⟩ := (G.obj _ _ e).rep
    have hlen := repKV_len hr
    refine wpAny_setItem_pairs (knd := intKind prog c.w) (k := j) (by simp [intKind, Value.isInt]) hd (fun h' hd' hs => ?_) (by unfold sizeLine; (first | lia | omega))
    exact ⟨_, G.set (s' := { s with heap := h', toks := s.toks + 1 }) (m' := .dictI (kst l j z)) e hs (fun kt => ⟨_, hd', repKV_stored (Rep.mono kt rw') (RepKV.mono kt hr)⟩) rfl rfl, hq⟩
  | @dictS a l j z H QQ e h2 hq =>
    obtain rfl := ru.invRef
    obtain ⟨t, rfl⟩ := rv.invStr
    obtain ⟨kvs, hd, hr⟩ := (G.obj _ _ e).rep
    have hlen := repKV_len hr
    refine wpAny_setItem_pairs (knd := PySem.strKind prog c.w) (k := j) (by simp [PySem.strKind, Value.isStrOf, Value.isStr]) hd (fun h' hd' hs => ?_) (by unfold sizeLine; (first | lia | omega))
    exact ⟨_, G.set (s' := { s with heap := h', toks := s.toks + 1 }) (m' := .dictS (kst l j z)) e hs (fun kt => ⟨_, hd', repKV_stored (Rep.mono kt rw') (RepKV.mono kt hr)⟩) rfl rfl, hq⟩
  | @dictP a l j m z H QQ e h2 h3 hq =>
    obtain rfl := ru.invRef
    obtain ⟨b, rfl, hk⟩ := tupKey (prog := prog) (w := c.w) rv
    obtain ⟨xs, hd, hr⟩ := (G.obj _ _ e).rep
    have hlen := repP_len hr
    have hu := R.units
    refine wpAny_setItem_heap (knd := tupleKind (intKind prog c.w)) (tupleKind_room_in1 (show un + 1 < cLine by (first | lia | omega))) hk hd (fun h' hd' hs => ?_) (by unfold sizeLine; (first | lia | omega))
    rw [storedH_new ((repP_at hr).2 h3)] at hd'
    exact ⟨_, G.set (s' := { s with heap := h', toks := s.toks + _ }) (m' := .dictP (l ++ [((j, m), z)])) e hs (fun kt => ⟨_, hd', repP_app (Rep.mono kt rw') (RepP.mono kt hr)⟩) rfl rfl, hq⟩
end
end Mine

namespace Mine
open PySem PySem.Calls PySem.Spec PyProof.Rows PySem.W

/-- no starred argument -/
noncomputable def plainE : Expr → Bool
  | .Starred .. => false
  | _ => true
theorem starEach_plain {e : Expr} {es : List Expr} {env : Env} (h : plainE e = true) : starEach (e :: es) env = (false, eval e env) :: starEach es env := by
  cases e <;> first | rfl | cases h
theorem starEach_all {env : Env} {pos : Pos} : ∀ {es : List Expr}, es.all plainE = true → ((backTo pos (starEach es env)).any fun x => x.1) = false
  | [], _ => rfl
  | e :: es, h => by
    simp only [List.all_cons, Bool.and_eq_true] at h
    rw [starEach_plain h.1]
    have := starEach_all (env := env) (pos := pos) h.2
    simpa [backTo] using this
theorem starEach_all' {env : Env} {pos : Pos} : ∀ {es : List Expr}, es.all plainE = true → ((backTo pos (starEach es env)).all fun x => !x.1) = true
  | [], _ => rfl
  | e :: es, h => by
    simp only [List.all_cons, Bool.and_eq_true] at h
    rw [starEach_plain h.1]
    have := starEach_all' (env := env) (pos := pos) h.2
    simpa [backTo] using this
/-- what a call's base may be -/
noncomputable def okBase : Expr → Bool
  | .Name .. => true
  | .Attribute .. => true
  | .Subscript .. => true
  | _ => false
theorem okBase_eq {o : Expr} (h : okBase o = true) (nm : Str) (env : Env) (whole : Sem Value) : attributeBase o nm env whole = whole := by
  cases o <;> first | rfl | cases h
inductive Callee (K : Frag) : Value → List Value → Prop
  | builtin (id : String) (l : List Value) : Callee K (.builtin id) l
  | type (T : String) : Callee K (.type T) []
  | keep (u : Value) (l : List Value) : keepIn K u = true → Callee K u l

section
variable {prog : Program} {c : Cx} {B : Heap} {loc loc' : Loc} {H H' : HM} {s s' : Shared} {n k dp un : Nat} {Q : QV}
/-- the arguments -/
noncomputable def TA (prog : Program) (c : Cx) (n k : Nat) (pos : Pos) (args : List Expr) (loc : Loc) (H : HM) (Q : List V → HM → Prop) : Prop := match args with
  | [] => Q [] H
  | e :: es => TL prog c n k (spliced (backTo pos (starEach (e :: es) c.env))) loc H Q
theorem op_callWith (K : CxOk c) (R : Room n k dp un) (G : Good prog c B loc H s) {u : Value} {first : List Value} {fs : List V} {args : List Expr} {pos : Pos} (C : Callee c.K u first) (hp : args.all plainE = true) (rf : RepL s.heap first fs)
    (h : TA prog c n k pos args loc H fun xs H1 => CWat prog c n u (fs ++ xs) H1 Q) :
    wpAny (model prog c.w) (c.A dp un) (callWith pos u first (backTo pos (starEach args c.env)) []) (PV prog c B loc Q) c.X s := by
  cases args with
  | nil =>
    have h2 : wpAny (model prog c.w) (c.A dp un) (call u (first ++ [])) (PV prog c B loc Q) c.X s :=
      (show CWat prog c n u (fs ++ []) H Q from h) k B loc dp un s _ R G (rf.append .nil)
    cases C with
    | builtin id l => exact callWith_method0 (by simpa using h2)
    | type T => exact callWith_type0 h2
    | keep u l hk => exact callWith_K0 (K.kin.keeps (G.stat K)) hk h2
  | cons e es =>
    simp only [List.all_cons, Bool.and_eq_true] at hp
    have h' : wpAny (model prog c.w) (c.A dp un) (spliced (backTo pos (starEach (e :: es) c.env))) (fun vs s' => c.K.In s'.heap ∧ wpAny (model prog c.w) (c.A dp un) (call u (first ++ vs)) (PV prog c B loc Q) c.X s') c.X s :=
      TL.run (show TL prog c n k (spliced (backTo pos (starEach (e :: es) c.env))) loc H _ from h) K R G fun vs xs H1 s1 rs F q => ⟨K.kin.keeps (F.g.stat K), q k B loc dp un s1 _ R F.g ((RepL.mono F.kt rf).append rs)⟩
    have st := starEach_plain (es := es) (env := c.env) hp.1
    have an := starEach_all (env := c.env) (pos := pos) hp.2
    cases C with
    | builtin id l => exact callWith_method1 (wpAny_mono h' (fun _ _ x => x.2) fun _ _ x => x) st an
    | type T => exact callWith_type1 (wpAny_mono h' (fun _ _ x => by simpa using x.2) fun _ _ x => x) st an
    | keep u l hk => exact callWith_K (K.kin.keeps (G.stat K)) hk h' st an
/-- a call of a global name -/
theorem tv_call (K : CxOk c) {x : Str} {np pos : Pos} {args : List Expr} {v : V} {u : Value} (hx : c.T.glob x = some v) (hk : c.env.kindOf x = some .globalImplicit) (hd : (x == ("__debug__" : Str)) = false)
    (hv : (v = .prim u ∧ Callee c.K u []) ∨ ∃ f, v = .ref f ∧ u = .ref f ∧ keepIn c.K (.ref f) = true) (hp : args.all plainE = true)
    (h : TA prog c n k pos args loc H fun xs H1 => CWat prog c n u xs H1 Q) :
    TV prog c n k (eval (.Call (.Name x np) args [] pos) c.env) loc H Q := fun B dp un s R G => by
  refine wpAny_Call_NameR ((tv_glob (Q := fun r H1 => r = v ∧ H1 = H) K np hx hk hd ⟨rfl, rfl⟩).run K R G fun w r H1 s1 rw' F q => ?_)
  obtain ⟨rfl, rfl⟩ := q
  rcases hv with ⟨rfl, C⟩ | ⟨f, rfl, rfl, hf⟩
  · obtain rfl := rw'.invPrim
    exact op_callWith K R F.g C hp .nil h
  · obtain rfl := rw'.invRef
    exact op_callWith K R F.g (.keep _ _ hf) hp .nil h
/-- a method's tree -/
theorem methodCall_eq {o : Expr} {nm : Str} {apos pos : Pos} {args : List Expr} {env : Env} (ho : okBase o = true) (hp : args.all plainE = true) (hl : args.length < 25) (hpos : (apos.endLine == pos.line) = true) :
    eval (.Call (.Attribute o nm apos) args [] pos) env = (do
      let ov ← eval o env
      standAt apos.atName
      let (f, first) ← holding [ov] (getMethod ov nm (do return (← importBound o env).getD true))
      callWith pos f first (backTo pos (starEach args env)) (backToKw pos (keywordEach [] env))) := by
  rw [arm_eval_Call, okBase_eq ho]
  have hf : methodCallForm (args.length + ([] : List Keyword).length) (backTo pos (starEach args env)) (backToKw pos (keywordEach [] env)) = true := by
    have e : backToKw pos (keywordEach [] env) = [] := rfl
    rw [e]
    unfold methodCallForm
    rw [starEach_all' hp]
    simp; (first | lia | omega)
  have hq : methodCallPos true o env apos pos = pure pos := by
    unfold methodCallPos; simp [hpos]
  unfold methodCall calleeOf
  rw [hf, hq]
  rfl
theorem tv_meth (K : CxOk c) {o : Expr} {nm : Str} {apos pos : Pos} {args : List Expr} (ho : okBase o = true) (hp : args.all plainE = true) (hl : args.length < 25) (hpos : (apos.endLine == pos.line) = true)
    (GM : V → HM → (Value → List V → HM → Prop) → Prop)
    (hGM : ∀ B (dp un : Nat) s u x H (P : Value → List V → HM → Prop) (pl : Sem Bool) (PP : Value × List Value → Shared → Prop), Good prog c B loc H s → Rep s.heap u x → GM x H P → (∀ f first fs s', Callee c.K f first → RepL s'.heap first fs → Good prog c B loc H s' → P f fs H → PP (f, first) s') → wpAny (model prog c.w) (c.A dp un) (getMethod u nm pl) PP c.X s)
    (h : TV prog c n k (eval o c.env) loc H fun x H1 => GM x H1 fun f fs H2 => TA prog c n k pos args loc H2 fun xs H3 => CWat prog c n f (fs ++ xs) H3 Q) :
    TV prog c n k (eval (.Call (.Attribute o nm apos) args [] pos) c.env) loc H Q := fun B dp un s R G => by
  refine methodCall_KW (h.run K R G fun u x H1 s1 rx F q => hGM B dp un s1 u x H1 _ _ _ F.g rx q fun f first fs s2 C rf G2 q2 => ?_) (methodCall_eq ho hp hl hpos)
  exact op_callWith K R G2 C hp rf q2
/-- a method of an object -/
noncomputable def gmI (T : Tab) (nm : Str) (x : V) (H : HM) (P : Value → List V → HM → Prop) : Prop :=
  ∃ a C d f l, x = .ref a ∧ H a = some (.inst C d) ∧ H d = some (.attrs l) ∧ T.meth C nm = some f ∧ l.lookup nm = none ∧ P (.ref f) [.ref a] H
theorem op_gmI (K : CxOk c) {nm : Str} {A : Around} (G : Good prog c B loc H s) {u : Value} {x : V} {P : Value → List V → HM → Prop} {pl : Sem Bool} {PP : Value × List Value → Shared → Prop} {E : Value → Shared → Prop} (ru : Rep s.heap u x) (h : gmI c.T nm x H P)
    (hP : ∀ f first fs s', Callee c.K f first → RepL s'.heap first fs → Good prog c B loc H s' → P f fs H → PP (f, first) s') : wpAny (model prog c.w) A (getMethod u nm pl) PP E s := by
  obtain ⟨a, C, d, f, l, rfl, ha, hd, hm, hl, hP'⟩ := h
  obtain rfl := ru.invRef
  obtain ⟨es, m, I, ra, _, _⟩ := instAt G ha hd
  obtain ⟨h1, h2, h3, h4⟩ := K.tab.meth C nm f hm
  have hsh : shadowIn (some (dictOf es m)) nm = some false := by
    have := (getL_rep ra).2 hl
    show (getL nm es).map _ = _
    rw [this]; rfl
  refine method_fn (K.kin.keeps (G.stat K)) I (plainGet_of h1).1 (plainGet_of h1).2 h2 (by simpa [isFn] using h3) hsh ?_
  exact hP _ _ _ _ (.keep _ _ h4) (.cons (.ref _) .nil) G hP'
/-- a method of a builtin type -/
inductive gmB : String → V → HM → (Value → List V → HM → Prop) → Prop
  | app {a : Addr} {l : List V} {H : HM} {P : Value → List V → HM → Prop} (e : H a = some (.list l)) (h : P (.builtin "list.append") [.ref a] H) : gmB "append" (.ref a) H P
  | pop {a : Addr} {l : List V} {H : HM} {P : Value → List V → HM → Prop} (e : H a = some (.list l)) (h : P (.builtin "list.pop") [.ref a] H) : gmB "pop" (.ref a) H P
  | getS {a : Addr} {l : List (Str × V)} {H : HM} {P : Value → List V → HM → Prop} (e : H a = some (.dictS l)) (h : P (.builtin "dict.get") [.ref a] H) : gmB "get" (.ref a) H P
  | getP {a : Addr} {l : List ((Int × Int) × V)} {H : HM} {P : Value → List V → HM → Prop} (e : H a = some (.dictP l)) (h : P (.builtin "dict.get") [.ref a] H) : gmB "get" (.ref a) H P
  | add {a : Addr} {S : Int → Bool} {m : Nat} {H : HM} {P : Value → List V → HM → Prop} (e : H a = some (.set S m)) (h : P (.builtin "set.add") [.ref a] H) : gmB "add" (.ref a) H P
theorem op_gmB {nm : String} {A : Around} (G : Good prog c B loc H s) {u : Value} {x : V} {P : Value → List V → HM → Prop} {pl : Sem Bool} {PP : Value × List Value → Shared → Prop} {E : Value → Shared → Prop} (ru : Rep s.heap u x) (h : gmB nm x H P)
    (hP : ∀ f first fs s', Callee c.K f first → RepL s'.heap first fs → Good prog c B loc H s' → P f fs H → PP (f, first) s') : wpAny (model prog c.w) A (getMethod u nm pl) PP E s := by
  induction h with
  | app e h =>
    obtain rfl := ru.invRef
    obtain ⟨us, m, he, _⟩ := (G.obj _ _ e).rep
    exact getMethod_builtin (id := "list.append") ⟨_, he, rfl⟩ F.plainAttrs_list F.slot_list_append F.type_list_append (fun b q => by cases q; exact ⟨_, he, rfl⟩) (hP _ _ _ _ (.builtin _ _) (.cons (.ref _) .nil) G h)
  | pop e h =>
    obtain rfl := ru.invRef
    obtain ⟨us, m, he, _⟩ := (G.obj _ _ e).rep
    exact getMethod_builtin (id := "list.pop") ⟨_, he, rfl⟩ F.plainAttrs_list F.slot_list_pop F.type_list_pop (fun b q => by cases q; exact ⟨_, he, rfl⟩) (hP _ _ _ _ (.builtin _ _) (.cons (.ref _) .nil) G h)
  | getS e h =>
    obtain rfl := ru.invRef
    obtain ⟨kvs, hd, _⟩ := (G.obj _ _ e).rep
    obtain ⟨o, _, _, ho, hx, _⟩ := id hd
    exact getMethod_builtin (id := "dict.get") hd.mapOf.typeIs F.plainAttrs_dict F.slot_dict_get F.type_dict_get (fun b q => by cases q; exact ⟨_, ho, hx.2.1⟩) (hP _ _ _ _ (.builtin _ _) (.cons (.ref _) .nil) G h)
  | getP e h =>
    obtain rfl := ru.invRef
    obtain ⟨kvs, hd, _⟩ := (G.obj _ _ e).rep
    exact getMethod_builtin (id := "dict.get") hd.typeIs F.plainAttrs_dict F.slot_dict_get F.type_dict_get (dictOfH_noDict hd) (hP _ _ _ _ (.builtin _ _) (.cons (.ref _) .nil) G h)
  | add e h =>
    obtain rfl := ru.invRef
    exact getMethod_set_add (knd := intKind prog c.w) ((G.obj _ _ e).rep) (hP _ _ _ _ (.builtin _ _) (.cons (.ref _) .nil) G h)
end
end Mine

namespace Mine
open PySem PySem.Calls PySem.Spec PyProof.Rows PySem.W

section
variable {prog : Program} {c : Cx} {B : Heap} {loc loc' : Loc} {H H' : HM} {s s' : Shared} {n k dp un : Nat} {Q : QV}
-- comparisons
theorem tv_cmp (K : CxOk c) {l r : Expr} {op : CmpOp} {pos : Pos} (hm : behindInMarks op r = false)
    (h : TV prog c n k (eval l c.env) loc H fun x H1 => TV prog c n k (eval r c.env) loc H1 fun y H2 => cmpV op x y H2 fun b => Q (.bool b) H2) :
    TV prog c n k (eval (.Compare l [op] [r] pos) c.env) loc H Q := fun B dp un s R G =>
  wpAny_Compare1 (h.run K R G fun u x H1 s1 rx F q => q.run K R F.g fun v y H2 s2 ry F2 q2 =>
    op_cmp K R F2.g (Rep.mono F2.kt rx) ry q2 fun b tk hq => ⟨.bool b, H2, .bool b, F2.g.same rfl rfl rfl, hq⟩) hm
theorem tb_cmp (K : CxOk c) {l r : Expr} {op : CmpOp} {pos : Pos} {whole : Sem Value} {Q : Bool → HM → Prop} (hm : behindInMarks op r = false)
    (h : TV prog c n k (eval l c.env) loc H fun x H1 => TV prog c n k (eval r c.env) loc H1 fun y H2 => cmpV op x y H2 fun b => Q b H2) :
    TB prog c n k (isTrue (.Compare l [op] [r] pos) c.env whole) loc H Q := fun B dp un s R G =>
  wpAny_isTrue_Compare1 (h.run K R G fun u x H1 s1 rx F q => q.run K R F.g fun v y H2 s2 ry F2 q2 =>
    op_cmp K R F2.g (Rep.mono F2.kt rx) ry q2 fun b tk hq => wpAny_truthy_bool ⟨H2, F2.g.same rfl rfl rfl, hq⟩) hm
-- truth
noncomputable def plainT : Expr → Bool
  | .Name .. => true
  | .Call .. => true
  | .Constant .. => true
  | _ => false
theorem isTrue_eq {e : Expr} (h : plainT e = true) (env : Env) (whole : Sem Value) : isTrue e env whole = (do let v ← whole; standAt e.pos; holding [v] (truthy v)) := by
  cases e <;> first | rfl | cases h
theorem tb_val (K : CxOk c) {e : Expr} {Q : Bool → HM → Prop} (he : plainT e = true) (h : TV prog c n k (eval e c.env) loc H fun x H1 => ∃ b, x = .bool b ∧ Q b H1) : TB prog c n k (isTrue e c.env (eval e c.env)) loc H Q := fun B dp un s R G =>
  wpAny_isTrue_value (h.run K R G fun u x H1 s1 rx F z0 => by
    obtain ⟨b, e, q⟩ := z0
    subst e
    obtain rfl := rx.invBool
    exact wpAny_truthy_bool ⟨H1, F.g, q⟩) (isTrue_eq he _ _)
theorem tb_not (K : CxOk c) {e : Expr} {pos : Pos} {whole : Sem Value} {Q : Bool → HM → Prop} (h : TB prog c n k (isTrue e c.env (eval e c.env)) loc H fun b H1 => Q (!b) H1) : TB prog c n k (isTrue (.UnaryOp .Not e pos) c.env whole) loc H Q := fun B dp un s R G =>
  wpAny_isTrue_Not (h.run K R G fun _ H1 _ F q => ⟨H1, F.g, q⟩)
theorem tb_and (K : CxOk c) {e₁ e₂ : Expr} {pos : Pos} {whole : Sem Value} {Q : Bool → HM → Prop}
    (h : TB prog c n k (isTrue e₁ c.env (eval e₁ c.env)) loc H fun b H1 => if b = true then TB prog c n k (isTrue e₂ c.env (eval e₂ c.env)) loc H1 Q else Q false H1) :
    TB prog c n k (isTrue (.BoolOp .And [e₁, e₂] pos) c.env whole) loc H Q := fun B dp un s R G => by
  refine wpAny_isTrue_BoolOp (wpAny_allTrue_And_cons (h.run K R G fun b H1 s1 F q => ?_))
  cases b with
  | false => exact ⟨H1, F.g, q⟩
  | true =>
    refine wpAny_allTrue_And_cons (TB.run (show TB prog c n k _ loc H1 Q from q) K R F.g fun b H2 s2 F2 q2 => ?_)
    cases b with
    | false => exact ⟨H2, F2.g, q2⟩
    | true => exact wpAny_allTrue_And_nil ⟨H2, F2.g, q2⟩
theorem tb_or (K : CxOk c) {e₁ e₂ : Expr} {pos : Pos} {whole : Sem Value} {Q : Bool → HM → Prop}
    (h : TB prog c n k (isTrue e₁ c.env (eval e₁ c.env)) loc H fun b H1 => if b = true then Q true H1 else TB prog c n k (isTrue e₂ c.env (eval e₂ c.env)) loc H1 Q) :
    TB prog c n k (isTrue (.BoolOp .Or [e₁, e₂] pos) c.env whole) loc H Q := fun B dp un s R G => by
  refine wpAny_isTrue_BoolOp (wpAny_allTrue_Or_cons (h.run K R G fun b H1 s1 F q => ?_))
  cases b with
  | true => exact ⟨H1, F.g, q⟩
  | false =>
    refine wpAny_allTrue_Or_cons (TB.run (show TB prog c n k _ loc H1 Q from q) K R F.g fun b H2 s2 F2 q2 => ?_)
    cases b with
    | true => exact ⟨H2, F2.g, q2⟩
    | false => exact wpAny_allTrue_Or_nil ⟨H2, F2.g, q2⟩
theorem tv_and (K : CxOk c) {e₁ e₂ : Expr} {pos : Pos}
    (h : TV prog c n k (eval e₁ c.env) loc H fun x H1 => ∃ b, x = .bool b ∧ if b = true then TV prog c n k (eval e₂ c.env) loc H1 Q else Q (.bool false) H1) :
    TV prog c n k (eval (.BoolOp .And [e₁, e₂] pos) c.env) loc H Q := fun B dp un s R G => by
  refine BoolOp_and (h.run K R G fun u x H1 s1 rx F z0 => ?_)
  obtain ⟨b, e, q⟩ := z0
  subst e
  obtain rfl := rx.invBool
  refine wpAny_truthy_bool ?_
  cases b with
  | false => exact ⟨_, H1, rx, F.g, q⟩
  | true => exact BoolOp_one (TV.run (show TV prog c n k _ loc H1 Q from q) K R F.g fun u x H2 s2 rx F2 q2 => ⟨x, H2, rx, F2.g, q2⟩)
theorem tv_or (K : CxOk c) {e₁ e₂ : Expr} {pos : Pos}
    (h : TV prog c n k (eval e₁ c.env) loc H fun x H1 => ∃ b, x = .bool b ∧ if b = true then Q (.bool true) H1 else TV prog c n k (eval e₂ c.env) loc H1 Q) :
    TV prog c n k (eval (.BoolOp .Or [e₁, e₂] pos) c.env) loc H Q := fun B dp un s R G => by
  refine BoolOp_or (h.run K R G fun u x H1 s1 rx F z0 => ?_)
  obtain ⟨b, e, q⟩ := z0
  subst e
  obtain rfl := rx.invBool
  refine wpAny_truthy_bool ?_
  cases b with
  | true => exact ⟨_, H1, rx, F.g, q⟩
  | false => exact BoolOp_one (TV.run (show TV prog c n k _ loc H1 Q from q) K R F.g fun u x H2 s2 rx F2 q2 => ⟨x, H2, rx, F2.g, q2⟩)
theorem tv_ite (K : CxOk c) {t e₁ e₂ : Expr} {pos : Pos}
    (h : TB prog c n k (isTrue t c.env (eval t c.env)) loc H fun b H1 => if b = true then TV prog c n k (eval e₁ c.env) loc H1 Q else TV prog c n k (eval e₂ c.env) loc H1 Q) :
    TV prog c n k (eval (.IfExp t e₁ e₂ pos) c.env) loc H Q := fun B dp un s R G => by
  refine wpAny_IfExp (h.run K R G fun b H1 s1 F q => ?_)
  cases b with
  | true => exact TV.run (show TV prog c n k _ loc H1 Q from q) K R F.g fun u x H2 s2 rx F2 q2 => ⟨x, H2, rx, F2.g, q2⟩
  | false => exact TV.run (show TV prog c n k _ loc H1 Q from q) K R F.g fun u x H2 s2 rx F2 q2 => ⟨x, H2, rx, F2.g, q2⟩
theorem tv_neg (K : CxOk c) {e : Expr} {pos : Pos} (h : TV prog c n k (eval e c.env) loc H fun x H1 => ∃ i, x = .int i ∧ Q (.int (-i)) H1) : TV prog c n k (eval (.UnaryOp .USub e pos) c.env) loc H Q := fun B dp un s R G =>
  wpAny_UnaryOp (h.run K R G fun u x H1 s1 rx F z0 => by
    obtain ⟨i, e, q⟩ := z0
    subst e
    obtain ⟨t, rfl⟩ := rx.invInt
    exact PyProof.Rows.neg_int ⟨_, H1, .int _ _, F.g.same rfl rfl rfl, q⟩)
-- sums
noncomputable def binV (op : Operator) (i j : Int) (Q : Int → Prop) : Prop := match op with
  | .Add => Q (i + j)
  | .Sub => Q (i - j)
  | .FloorDiv => 0 < j ∧ j < 1000 ∧ Q (i / j)
  | .Mod => 0 < j ∧ j < 1000 ∧ Q (i % j)
  | _ => False
theorem op_bin {A : Around} {E : Value → Shared → Prop} {op : Operator} {i j : Int} {t u : Tok} {QQ : Int → Prop} (h : binV op i j QQ) {P : Value → Shared → Prop} (hP : ∀ m t' tk, QQ m → P (.int m t') { s with toks := tk }) :
    wpAny (model prog c.w) A (binaryOp op (.int i t) (.int j u)) P E s := by
  unfold binV at h
  split at h
  · exact wpAny_add_int (hP _ _ _ h)
  · exact sub_int' (hP _ _ _ h)
  · obtain ⟨h1, h2, h⟩ := h
    refine floordiv_int (by (first | lia | omega)) (hP _ _ _ ?_) (.inl (PyProof.noPylong_small (by (first | lia | omega))))
    rwa [Int.fdiv_eq_ediv_of_nonneg _ (by (first | lia | omega))]
  · obtain ⟨h1, h2, h⟩ := h
    refine mod_int' (by (first | lia | omega)) (hP _ _ _ ?_)
    rwa [Int.fmod_eq_emod_of_nonneg _ (by (first | lia | omega))]
  · exact h.elim
theorem tv_binop (K : CxOk c) {l r : Expr} {op : Operator} {pos : Pos}
    (h : TV prog c n k (eval l c.env) loc H fun x H1 => TV prog c n k (eval r c.env) loc H1 fun y H2 => ∃ i j, x = .int i ∧ y = .int j ∧ binV op i j fun m => Q (.int m) H2) :
    TV prog c n k (eval (.BinOp l op r pos) c.env) loc H Q := fun B dp un s R G =>
  wpAny_BinOp (h.run K R G fun u x H1 s1 rx F q => q.run K R F.g fun v y H2 s2 ry F2 z0 => by
    obtain ⟨i, j, e1, e2, q2⟩ := z0
    subst e1 e2
    obtain ⟨t, rfl⟩ := rx.invInt
    obtain ⟨t2, rfl⟩ := ry.invInt
    exact op_bin (c := c) q2 fun m t' tk hq => ⟨_, H2, .int _ _, F2.g.same rfl rfl rfl, hq⟩)
-- tables as displays
theorem tv_dict0 {pos : Pos} (h : ∀ d, H d = none → Q (.ref d) (upd H d (.dictI []))) : TV prog c n k (eval (.Dict [] [] pos) c.env) loc H Q := fun B dp un s R G =>
  wpAny_Dict_empty ⟨.ref _, _, .ref _, G.new (m := .dictI []) ⟨[], Heap.DictOf.new _, .nil⟩, h _ G.newNone⟩
theorem tv_dict0S {pos : Pos} (h : ∀ d, H d = none → Q (.ref d) (upd H d (.dictS []))) : TV prog c n k (eval (.Dict [] [] pos) c.env) loc H Q := fun B dp un s R G =>
  wpAny_Dict_empty ⟨.ref _, _, .ref _, G.new (m := .dictS []) ⟨[], Heap.DictOf.new _, .nil⟩, h _ G.newNone⟩
-- slices
theorem op_slice {l : Addr} {xs : List V} {vl vu vs : Value} {lo hi st : Option Int} {value slice : Expr} {A : Around} {E : Value → Shared → Prop} {ys : List V} (G : Good prog c B loc H s) (e : ∃ us m, s.heap.get? l = some { cls := .type "list", data := .seq us m } ∧ RepL s.heap us.toList xs) (hl : xs.length ≤ 1000000)
    (pl : IsPart vl lo) (pu : IsPart vu hi) (ps : IsPart vs st) (h0 : st ≠ some 0) (hy : ∀ us : Array Value, RepL s.heap us.toList xs → RepL s.heap (slicePick us lo hi st).toList ys)
    (h : ∀ b, H b = none → Q (.ref b) (upd H b (.list ys))) :
    wpAny (model prog c.w) A (subscriptTail value slice (.ref l) (.ref s.heap.objs.size)) (PV prog c B loc Q) E { s with heap := s.heap.push { cls := .type "slice", data := .fields #[vl, vu, vs] } } := by
  obtain ⟨us, m, he, hr⟩ := e
  have hlen : us.size = xs.length := by simpa using hr.length
  obtain ⟨ops, ho⟩ := subscripted_op slice (.ref l) (.ref s.heap.objs.size)
  have G1 := G.push { cls := .type "slice", data := .fields #[vl, vu, vs] }
  have he1 : (s.heap.push { cls := .type "slice", data := .fields #[vl, vu, vs] }).get? l = some { cls := .type "list", data := .seq us m } := Heap.get?_push_of_some _ he
  refine tail_any (T := "list") ⟨_, he1, rfl⟩ slot_list_getitem.lookup (wpAny_getItem_list_slice ⟨_, he1, rfl, m, rfl⟩ (Heap.IsSliceOf.new ..) pl pu ps h0 ?_ (by unfold sizeLine; (first | lia | omega))) ho
  refine ⟨.ref _, _, .ref _, G1.new (m := .list ys) ⟨_, 0, Heap.get?_push_size _ rfl, ?_⟩, h _ G1.newNone⟩
  exact RepL.mono (Kt.of_keeps fun b o q => Heap.get?_push_of_some _ (Heap.get?_push_of_some _ q)) (hy us hr)
/-- the values are these, in any heap -/
noncomputable def FxI (vs : List Value) (xs : List V) : Prop := ∀ h : Heap, RepL h vs.toArray.toList xs
theorem tv_sliceTo (K : CxOk c) {e eu : Expr} {p pos : Pos}
    (h : TV prog c n k (eval e c.env) loc H fun x H1 => TV prog c n k (eval eu c.env) loc H1 fun y H2 => ∃ l vs m xs b, x = .ref l ∧ H2 l = some (.fixed vs m) ∧ FxI vs xs ∧ xs.length ≤ 1000000 ∧ y = .int b ∧ 0 ≤ b ∧ ∀ d, H2 d = none → Q (.ref d) (upd H2 d (.list (xs.take b.toNat)))) :
    TV prog c n k (eval (.Subscript e (.Slice none (some eu) none p) pos) c.env) loc H Q := fun B dp un s R G => by
  refine Subscript_ (h.run K R G fun u x H1 s1 rx F q => wpAny_Slice ?_)
  rw [evalPart_none, evalPart_some]
  refine wpAny_pure (q.run K R F.g fun v y H2 s2 ry F2 z0 => wpAny_pure ?_)
  obtain ⟨l, ws, m, xs, b, e1, e2, ef, e3, e4, e5, q2⟩ := z0
  subst e1 e4
  obtain rfl := rx.invRef
  obtain ⟨t, rfl⟩ := ry.invInt
  obtain ⟨b, rfl⟩ := Int.eq_ofNat_of_zero_le e5
  exact op_slice F2.g ⟨_, m, (F2.g.obj _ _ e2).rep, ef _⟩ e3 .none (.int _ _) .none (by simp) (fun us hr => by rw [slicePick_upto']; simpa using hr.take b) q2
theorem tv_sliceFrom (K : CxOk c) {e eu : Expr} {p pos : Pos}
    (h : TV prog c n k (eval e c.env) loc H fun x H1 => TV prog c n k (eval eu c.env) loc H1 fun y H2 => ∃ l xs b, x = .ref l ∧ H2 l = some (.list xs) ∧ xs.length ≤ 1000000 ∧ y = .int b ∧ 0 ≤ b ∧ ∀ d, H2 d = none → Q (.ref d) (upd H2 d (.list (xs.drop b.toNat)))) :
    TV prog c n k (eval (.Subscript e (.Slice (some eu) none none p) pos) c.env) loc H Q := fun B dp un s R G => by
  refine Subscript_ (h.run K R G fun u x H1 s1 rx F q => wpAny_Slice ?_)
  rw [evalPart_none, evalPart_some]
  refine q.run K R F.g fun v y H2 s2 ry F2 z0 => wpAny_pure (wpAny_pure ?_)
  obtain ⟨l, xs, b, e1, e2, e3, e4, e5, q2⟩ := z0
  subst e1 e4
  obtain rfl := rx.invRef
  obtain ⟨t, rfl⟩ := ry.invInt
  obtain ⟨b, rfl⟩ := Int.eq_ofNat_of_zero_le e5
  exact op_slice F2.g (F2.g.obj _ _ e2).rep e3 (.int _ _) .none .none (by simp) (fun us hr => by rw [slicePick_from']; simpa using hr.drop b) q2
theorem tv_sliceRev (K : CxOk c) {e eu : Expr} {p pos : Pos}
    (h : TV prog c n k (eval e c.env) loc H fun x H1 => TV prog c n k (eval eu c.env) loc H1 fun y H2 => ∃ l xs, x = .ref l ∧ H2 l = some (.list xs) ∧ xs.length ≤ 1000000 ∧ y = .int (-1) ∧ ∀ d, H2 d = none → Q (.ref d) (upd H2 d (.list xs.reverse))) :
    TV prog c n k (eval (.Subscript e (.Slice none none (some eu) p) pos) c.env) loc H Q := fun B dp un s R G => by
  refine Subscript_ (h.run K R G fun u x H1 s1 rx F q => wpAny_Slice ?_)
  rw [evalPart_none, evalPart_some]
  refine wpAny_pure (wpAny_pure (q.run K R F.g fun v y H2 s2 ry F2 z0 => ?_))
  obtain ⟨l, xs, e1, e2, e3, e4, q2⟩ := z0
  subst e1 e4
  obtain rfl := rx.invRef
  obtain ⟨t, rfl⟩ := ry.invInt
  exact op_slice F2.g (F2.g.obj _ _ e2).rep e3 .none .none (.int _ _) (by simp) (fun us hr => by rw [krv_pick]; simpa using hr.reverse) q2
end
end Mine

namespace Mine
open PySem PySem.Calls PySem.Spec PyProof.Rows PySem.W

section
variable {prog : Program} {c : Cx} {B : Heap} {loc loc' : Loc} {H H' : HM} {s s' : Shared} {n k dp un : Nat} {Q : QV}
theorem tf_asgnSub (K : CxOk c) {o i e : Expr} {p pos : Pos} {Q : QF} (hs : swapsWith e (some (.Subscript o i p)) pos.line c.env = pure false)
    (h : TV prog c n k (eval e c.env) loc H fun v H1 => TV prog c n k (eval o c.env) loc H1 fun x H2 => TV prog c n k (eval i c.env) loc H2 fun y H3 => setV x y v H3 fun H4 => Q .next loc H4) :
    TF prog c n k (exec (.Assign [.Subscript o i p] e pos) c.env) loc H Q := fun B dp un s R G =>
  wpAny_Assign_Subscript (h.run K R G fun v y H1 s1 ry F q => q.run K R F.g fun u x H2 s2 rx F2 q2 => q2.run K R F2.g fun t z H3 s3 rz F3 q3 =>
    wpAny_mono (op_setItem K R F3.g (Rep.mono F3.kt rx) rz (Rep.mono F3.kt (Rep.mono F2.kt ry)) q3) (fun _ _ z0 => by obtain ⟨H4, G4, q4⟩ := z0; exact ⟨.next, loc, H4, .next, G4, q4⟩) fun _ _ x => x) hs
noncomputable def noComp : Expr → Bool
  | .ListComp .. => false
  | .SetComp .. => false
  | .DictComp .. => false
  | _ => true
theorem swaps_no {e : Expr} (h : noComp e = true) (t : Option Expr) (line : Nat) (env : Env) : swapsWith e t line env = pure false := by
  cases e <;> first | rfl | cases h
noncomputable def noTup : Expr → Bool
  | .Tuple .. => false
  | _ => true
theorem swapped_no {e : Expr} (h : noTup e = true) (ts : List Expr) (k : Nat) (p : Pos) (env : Env) : swappedStores [.Tuple ts k p] e env = pure none := by
  cases e <;> first | rfl | cases h
theorem tf_unpack2 (K : CxOk c) {x y : Str} {e : Expr} {kk : Nat} {p p1 p2 pos : Pos} {Q : QF} (h1 : KindOk c x) (h2 : KindOk c y) (hs : noComp e = true) (hw : noTup e = true)
    (h : TV prog c n k (eval e c.env) loc H fun v H1 => ∃ a b, v = .tup [a, b] ∧ Q .next (put (put loc x a) y b) H1) :
    TF prog c n k (exec (.Assign [.Tuple [.Name x p1, .Name y p2] kk p] e pos) c.env) loc H Q := fun B dp un s R G => by
  refine Assign_Tuple (h.run K R G fun v z H1 s1 rz F z0 => ?_) (swaps_no hs (some (.Tuple [.Name x p1, .Name y p2] kk p)) pos.line c.env : swapsWithSole [.Tuple [.Name x p1, .Name y p2] kk p] e pos.line c.env = _) (swapped_no hw _ _ _ _)
  obtain ⟨a, b, ez, q⟩ := z0
  subst ez
  obtain ⟨t, vs, rfl, ht, rl⟩ := rz.invTup
  obtain ⟨va, vb, rfl, ra, rb⟩ := rl.inv2
  refine wpAny_assign_Tuple (items := #[va, vb]) rfl ht rfl rfl fun h' he => ?_
  have hk : ∀ b o, s1.heap.get? b = some o → h'.get? b = some o := fun b o q => he b o (Nat.ne_of_lt (Heap.lt_size q)) q
  have G2 := F.g.more (s' := { s1 with heap := h' }) hk rfl rfl
  have kt := Kt.of_keeps hk
  show wpAny _ _ (do holding [vb] (assign (.Name x p1) c.env va); assignInOrder [assign (.Name y p2) c.env] [vb]) _ _ _
  refine wpAny_bind (wpAny_holding (wpAny_assign_Name (Good.store (G2.wide K) K (Rep.mono kt ra) h1 fun s3 G3 => ?_)))
  have F3 := G2.aft G3
  show wpAny _ _ (do holding [] (assign (.Name y p2) c.env vb); assignInOrder [] []) _ _ _
  refine wpAny_bind (wpAny_holding (wpAny_assign_Name (F3.g.store K (Rep.mono F3.kt (Rep.mono kt rb)) h2 fun s4 G4 => ?_)))
  exact wpAny_pure ⟨.next, _, H1, .next, G4, q⟩
theorem op_load (K : CxOk c) (G : Good prog c B loc H s) {x : Str} {v : V} {A : Around} {E : Value → Shared → Prop} {P : Value → Shared → Prop} (hx : loc x = some v) (h : ∀ u, Rep s.heap u v → P u s) : wpAny (model prog c.w) A (loadName c.env x) P E s := by
  obtain ⟨m, hns, hm⟩ := G.loc.ns
  rcases hm x v hx with ⟨hk, u, hu, hr⟩ | ⟨hk, a, u, hl, hc, hr⟩
  · exact wpAny_loadName_local K.kind hk (K.locals ▸ hns) hu (h u hr)
  · exact wpAny_loadName_cell K.kind hk hl hc (h u hr)
theorem tf_augName (K : CxOk c) {x : Str} {e : Expr} {p pos : Pos} {Q : QF} (hk : KindOk c x)
    (h : ∃ i, loc x = some (.int i) ∧ TV prog c n k (eval e c.env) loc H fun v H1 => ∃ j, v = .int j ∧ Q .next (put loc x (.int (i + j))) H1) :
    TF prog c n k (exec (.AugAssign (.Name x p) .Add e pos) c.env) loc H Q := fun B dp un s R G => by
  obtain ⟨i, hx, h⟩ := h
  refine wpAny_AugAssign_Name (op_load K G hx fun u ru => ?_)
  obtain ⟨t, rfl⟩ := ru.invInt
  refine h.run K R G fun v y H1 s1 ry F z0 => ?_
  obtain ⟨j, e, q⟩ := z0
  subst e
  obtain ⟨t2, rfl⟩ := ry.invInt
  refine wpAny_iadd_int (Good.store (F.g.same (s' := { s1 with toks := s1.toks + 1 }) rfl rfl rfl) K (.int _ _) hk fun s' G' => ⟨.next, _, H1, .next, G', q⟩)
noncomputable def noSlice : Expr → Bool
  | .Slice .. => false
  | _ => true
theorem augStore_eq {i : Expr} (h : noSlice i = true) (ov iv new : Value) : augStore i ov iv new = (do
    holding [new, ov, iv] (setItem ov iv new)
    release [new, ov, iv] []
    pure .next) := by
  cases i <;> first | rfl | cases h
/-- x[i] += e, x a list -/
theorem tf_augSub (K : CxOk c) {o i e : Expr} {p pos : Pos} {Q : QF} (hi : noSlice i = true)
    (h : TV prog c n k (eval o c.env) loc H fun x H1 => TV prog c n k (eval i c.env) loc H1 fun y H2 => ∃ a l j m, x = .ref a ∧ H2 a = some (.list l) ∧ y = .int j ∧ 0 ≤ j ∧ j < 1000000 ∧ l[j.toNat]? = some (.int m) ∧
      TV prog c n k (eval e c.env) loc H2 fun z H3 => ∃ d, z = .int d ∧ setV (.ref a) (.int j) (.int (m + d)) H3 fun H4 => Q .next loc H4) :
    TF prog c n k (exec (.AugAssign (.Subscript o i p) .Add e pos) c.env) loc H Q := fun B dp un s R G => by
  refine wpAny_AugAssign_Subscript_any (h.run K R G fun u x H1 s1 rx F q => q.run K R F.g fun v y H2 s2 ry F2 z0 => ?_) (augStore_eq hi)
  obtain ⟨a, l, j, m, e1, e2, e3, h0, h1, hz, q2⟩ := z0
  subst e1 e3
  obtain rfl := rx.invRef
  obtain ⟨t, rfl⟩ := ry.invInt
  obtain ⟨us, mm, he, hr⟩ := (F2.g.obj _ _ e2).rep
  obtain ⟨w, hw, rw'⟩ := hr.get hz
  refine wpAny_getItem_list ⟨_, he, rfl, mm, rfl⟩ h0 (by (first | lia | omega)) (by simpa using hw) ?_
  obtain ⟨t2, rfl⟩ := rw'.invInt
  refine q2.run K R F2.g fun v z H3 s3 rz F3 z0 => ?_
  obtain ⟨d, e, q3⟩ := z0
  subst e
  obtain ⟨t3, rfl⟩ := rz.invInt
  refine wpAny_iadd_int ?_
  refine wpAny_mono (op_setItem K R (F3.g.same (s' := { s3 with toks := s3.toks + 1 }) rfl rfl rfl) (.ref _) (.int _ _) (.int _ _) q3) (fun _ _ z0 => by obtain ⟨H4, G4, q4⟩ := z0; exact ⟨.next, loc, H4, .next, G4, q4⟩) fun _ _ x => x

-- for: where the items come from
/-- what is so behind the making of an iterator -/
inductive PIt (prog : Program) (c : Cx) (B : Heap) (loc : Loc) (Q : List V → (HM → Prop) → HM → Prop) : Value → Shared → Prop
  | mk {a : Addr} {items : List V} {fix : HM → Prop} {St : Nat → Heap → Prop} {H' : HM} {s2 : Shared} (W : IterOk prog c a items fix St) (g : Good prog c B loc H' s2) (S : Sep c B H' a) (st : St 0 s2.heap) (q : Q items fix H') : PIt prog c B loc Q (.ref a) s2
/-- an iterator made from a tree -/
noncomputable def TIt (prog : Program) (c : Cx) (n k : Nat) (t : Sem Value) (loc : Loc) (H : HM) (Q : List V → (HM → Prop) → HM → Prop) : Prop :=
  ∀ B dp un s, Room n k dp un → Good prog c B loc H s →
    wpAny (model prog c.w) (c.A dp un) t (fun x s1 => wpAny (model prog c.w) (c.A dp un) (pyIter x) (PIt prog c B loc Q) c.X s1) c.X s
theorem tf_for (K : CxOk c) {x : Str} {px pos : Pos} {iter : Expr} {body : List Stmt} {Q : QF} (hk : KindOk c x) (hf : ∀ v, foldedSetIterable iter c.env v = pure v)
    (h : TIt prog c n k (eval iter c.env) loc H fun items fix H1 => ∃ J : Nat → Loc → HM → Prop, J 0 loc H1 ∧ (∀ i loc H, J i loc H → fix H) ∧
      (∀ dp un i y loc H, J i loc H → items[i]? = some y → TF prog (c.withX (loopX prog c dp un)) n k (execs body c.env) (put loc x y) H fun f loc2 H2 => match f with
        | .next | .cont => J (i + 1) loc2 H2
        | .brk => Q .next loc2 H2
        | .ret v => Q (.ret v) loc2 H2) ∧
      (∀ loc H, J items.length loc H → Q .next loc H)) :
    TF prog c n k (exec (.For (.Name x px) iter body [] pos) c.env) loc H Q := fun B dp un s R G => by
  refine wpAny_For (wpAny_mono (h B dp un s R G) (fun v s1 h1 => wpAny_mono h1 (fun it s2 z0 => ?_) fun _ _ x => x) fun _ _ x => x) hf
  induction z0 with
  | mk W G2 S hSt q =>
    cases q with
    | intro J q => exact tf_loop K W hk J q.2.1 q.2.2.1 q.2.2.2 R G2 S q.1 hSt
inductive SeqSrc : V → HM → (List V → (HM → Prop) → Prop) → Prop
  | tup {l : List V} {H : HM} {P : List V → (HM → Prop) → Prop} (q : P l fun _ => True) : SeqSrc (.tup l) H P
  | list {a : Addr} {l : List V} {H : HM} {P : List V → (HM → Prop) → Prop} (e : H a = some (.list l)) (q : P l fun H' => H' a = some (.list l)) : SeqSrc (.ref a) H P
theorem iterList (K : CxOk c) {a it : Addr} {l : List V} : IterOk prog c it l (fun H' => H' a = some (.list l)) fun i h => h.IsListIter it a i where
  frame i h h' st k kt := by obtain ⟨o, ho, r⟩ := st; exact ⟨o, k o ho, r⟩
  there i h st := by obtain ⟨o, ho, _, r⟩ := st; exact ⟨o, _, ho, r⟩
  self i s A Q E st h := wpAny_pyIter_listiter st h
  item env L X i x B loc H dp un s P E G hfix st hx hP := by
    obtain ⟨us, m, he, hr⟩ := (G.obj _ _ hfix).rep
    obtain ⟨v, hv, rv⟩ := hr.get hx
    refine wpAny_pyNext_list_item st ⟨_, he, rfl, m, rfl⟩ (by simpa using hv) fun h' st' hs => ?_
    have kt : Kt s.heap h' := Kt.of_but hs.extBut fun vs z0 => by
      obtain ⟨o, ho, hc, _⟩ := z0
      obtain ⟨o', ho', hc', _⟩ := st
      rw [ho] at ho'; cases ho'; rw [hc] at hc'; simp at hc'
    exact hP v h' _ (Rep.mono kt rv) st' hs.extBut
  stop env L X i B loc H dp un s P E G hfix st hx hP := by
    obtain ⟨us, m, he, hr⟩ := (G.obj _ _ hfix).rep
    refine wpAny_pyNext_list_end rfl st ⟨_, he, rfl, m, rfl⟩ ?_ fun h' hs => hP h' _ hs
    have : us.toList[i]? = none := by
      rw [List.getElem?_eq_none]; rw [hr.length]; exact List.getElem?_eq_none_iff.mp hx
    simpa using this
theorem iterTup (K : CxOk c) {a it : Addr} {l : List V} : IterOk prog c it l (fun _ => True) fun i h => h.IsTupleIter it a i ∧ ∃ vs : List Value, IsTup h a vs.toArray ∧ RepL h vs l where
  frame i h h' st k kt := by
    obtain ⟨⟨o, ho, r⟩, vs, t, rl⟩ := st
    exact ⟨⟨o, k o ho, r⟩, vs, kt _ _ t, RepL.mono kt rl⟩
  there i h st := by obtain ⟨⟨o, ho, _, r⟩, _⟩ := st; exact ⟨o, _, ho, r⟩
  self i s A Q E st h := wpAny_pyIter_tupleiter st.1 h
  item env L X i x B loc H dp un s P E G hfix st hx hP := by
    obtain ⟨st, vs, t, rl⟩ := st
    obtain ⟨v, hv, rv⟩ := rl.get hx
    refine wpAny_pyNext_tuple_item st t (by simpa using hv) fun h' st' hs => ?_
    have kt : Kt s.heap h' := Kt.of_but hs.extBut fun vs z0 => by
      obtain ⟨o, ho, hc, _⟩ := z0
      obtain ⟨o', ho', hc', _⟩ := st
      rw [ho] at ho'; cases ho'; rw [hc] at hc'; simp at hc'
    exact hP v h' _ (Rep.mono kt rv) ⟨st', vs, kt _ _ t, RepL.mono kt rl⟩ hs.extBut
  stop env L X i B loc H dp un s P E G hfix st hx hP := by
    obtain ⟨st, vs, t, rl⟩ := st
    refine wpAny_pyNext_tuple_end rfl st t ?_ fun h' hs => hP h' _ hs
    have : vs[i]? = none := by
      rw [List.getElem?_eq_none]; rw [rl.length]; exact List.getElem?_eq_none_iff.mp hx
    simpa using this
theorem op_iter (K : CxOk c) {u : Value} {x : V} {A : Around} {E : Value → Shared → Prop} {PP : List V → (HM → Prop) → Prop} {QQ : List V → (HM → Prop) → HM → Prop} (G : Good prog c B loc H s) (ru : Rep s.heap u x) (h : SeqSrc x H PP) (hQ : ∀ l fix, PP l fix → QQ l fix H) :
    wpAny (model prog c.w) A (pyIter u) (PIt prog c B loc QQ) E s := by
  induction h with
  | @tup l H PP h =>
    obtain ⟨a, vs, rfl, t, rl⟩ := ru.invTup
    exact wpAny_pyIter_tuple t (.mk (iterTup (a := a) K) (G.push _) G.sepNew ⟨⟨_, Heap.get?_push_size _ rfl, rfl, rfl⟩, vs, t.push _, RepL.mono (Kt.of_keeps fun _ _ e => Heap.get?_push_of_some _ e) rl⟩ (hQ _ _ h))
  | @list a l H PP e h =>
    obtain rfl := ru.invRef
    obtain ⟨us, m, he, hr⟩ := (G.obj _ _ e).rep
    exact wpAny_pyIter_list ⟨_, he, rfl, m, rfl⟩ (.mk (iterList K) (G.push _) G.sepNew ⟨_, Heap.get?_push_size _ rfl, rfl, rfl⟩ (hQ _ _ h))
theorem ti_seq (K : CxOk c) {t : Sem Value} {QQ : List V → (HM → Prop) → HM → Prop} (h : TV prog c n k t loc H fun x H1 => SeqSrc x H1 fun l fix => QQ l fix H1) : TIt prog c n k t loc H QQ := fun B dp un s R G =>
  h.run K R G fun u x H1 s1 rx F q => op_iter K F.g rx q fun _ _ z => z
end
end Mine

namespace Mine
open PySem PySem.Calls PySem.Spec PyProof.Rows PySem.W

/-- what a range hands out -/
noncomputable def ranged (a n st : Int) : List V := (List.range n.toNat).map fun (i : Nat) => V.int (a + (i : Int) * st)
section
variable {prog : Program} {c : Cx} {B : Heap} {loc loc' : Loc} {H H' : HM} {s s' : Shared} {n k dp un : Nat} {Q : QV}
theorem iterRange {it : Addr} {a m st : Int} (hm : 0 ≤ m) : IterOk prog c it (ranged a m st) (fun _ => True) fun i h => IsRangeIter h it (a + i * st) (m - i) st where
  frame i h h' s k kt := k _ s
  there i h s := ⟨_, _, s, rfl⟩
  self i s A Q E st h := wpAny_pyIter_rangeiter st h
  item env L X i x B loc H dp un s P E G hfix hs hx hP := by
    have hi : i < m.toNat := by
      rcases Nat.lt_or_ge i m.toNat with q | q
      · exact q
      · rw [List.getElem?_eq_none (by simpa [ranged] using q)] at hx; cases hx
    have ex : x = .int (a + i * st) := by
      unfold ranged at hx
      rw [List.getElem?_map, List.getElem?_range hi] at hx
      simpa using hx.symm
    subst ex
    refine wpAny_pyNext_range_item hs (by (first | lia | omega)) fun h' st' hb => hP _ h' _ (.int _ _) ?_ hb.extBut
    have e1 : a + ((i + 1 : Nat) : Int) * st = a + i * st + st := by push_cast; rw [Int.add_mul]; (first | lia | omega)
    have e2 : m - ((i + 1 : Nat) : Int) = m - i - 1 := by push_cast; (first | lia | omega)
    show IsRangeIter h' it _ _ st
    rw [e1, e2]; exact st'
  stop env L X i B loc H dp un s P E G hfix hs hx hP := by
    have hi : m.toNat ≤ i := by simpa [ranged] using List.getElem?_eq_none_iff.mp hx
    exact wpAny_pyNext_range_end rfl hs (by (first | lia | omega)) fun h' hb => hP h' _ hb
noncomputable def rangeArgs (xs : List V) (P : List V → Prop) : Prop :=
  (∃ m, xs = [.int m] ∧ 0 ≤ m ∧ m ≤ 1000000 ∧ P (ranged 0 m 1)) ∨
  (∃ a, xs = [.int a, .int (-1), .int (-1)] ∧ -1 ≤ a ∧ a ≤ 1000000 ∧ P (ranged a (a + 1) (-1)))
theorem op_rangeIter {r : Addr} {a b st : Int} {t u v : Tok} {m : Int} {A : Around} {E : Value → Shared → Prop} {Q : List V → (HM → Prop) → HM → Prop} (G : Good prog c B loc H s) (hr : IsRange s.heap r a b st t u v) (hsm : Builtin.Range.small a b st = true) (hm : Builtin.Range.rangeSize a b st = m) (h0 : 0 ≤ m) (hP : Q (ranged a m st) (fun _ => True) H) :
    wpAny (model prog c.w) A (pyIter (.ref r)) (PIt prog c B loc Q) E s := by
  subst hm
  refine wpAny_pyIter_range hr hsm (.mk (iterRange h0) (G.push _) G.sepNew ?_ hP)
  have := Heap.get?_push_size s.heap (o := { cls := .type "range_iterator", data := .fields #[rawInt a, rawInt (Builtin.Range.rangeSize a b st), rawInt st] }) rfl
  simpa [IsRangeIter] using this
theorem ti_range (K : CxOk c) {x : Str} {np pos : Pos} {args : List Expr} {QQ : List V → (HM → Prop) → HM → Prop} (hx : c.T.glob x = some (.prim (.type "range"))) (hk : c.env.kindOf x = some .globalImplicit) (hd : (x == ("__debug__" : Str)) = false)
    (hp : args.all plainE = true) (hne : args ≠ [])
    (h : TL prog c n k (spliced (backTo pos (starEach args c.env))) loc H fun xs H1 => rangeArgs xs fun items => QQ items (fun _ => True) H1) :
    TIt prog c n k (eval (.Call (.Name x np) args [] pos) c.env) loc H QQ := fun B dp un s R G => by
  refine wpAny_Call_NameR ((tv_glob (Q := fun r H1 => r = .prim (.type "range") ∧ H1 = H) K np hx hk hd ⟨rfl, rfl⟩).run K R G fun w r H1 s1 rw' F q => ?_)
  obtain ⟨rfl, rfl⟩ := q
  obtain rfl := rw'.invPrim
  cases args with
  | nil => exact absurd rfl hne
  | cons e es =>
    simp only [List.all_cons, Bool.and_eq_true] at hp
    refine callWith_type1 (h.run K R F.g fun vs xs H2 s2 rs F2 q => ?_) (starEach_plain hp.1) (starEach_all hp.2)
    rcases q with ⟨m, rfl, h0, h1, q⟩ | ⟨a, rfl, h0, h1, q⟩
    · obtain ⟨v, rfl, r1⟩ := rs.inv1
      obtain ⟨t, rfl⟩ := r1.invInt
      refine call_range_1 ?_
      refine op_rangeIter (m := m) (F2.g.push _ |>.same (s' := { s2 with heap := _, toks := _ }) rfl rfl rfl) (IsRange.new ..) (small_one (by decide) (by decide) (by (first | lia | omega)) (by (first | lia | omega))) ?_ h0 q
      rw [rangeSize_one]; split <;> (first | lia | omega)
    · obtain ⟨v, u, t, rfl, r1, r2, r3⟩ := rs.inv3
      obtain ⟨t1, rfl⟩ := r1.invInt
      obtain ⟨t2, rfl⟩ := r2.invInt
      obtain ⟨t3, rfl⟩ := r3.invInt
      have hsz : Builtin.Range.rangeSize a (-1) (-1) = a + 1 := by
        unfold Builtin.Range.rangeSize
        rw [if_neg (by decide)]
        split
        · have : a - -1 - 1 = a := by (first | lia | omega)
          rw [this]
          have : (a / -(-1 : Int)) = a := by simp
          rw [this]
        · (first | lia | omega)
      refine call_range_3 (by decide) ?_ (.inl (PyProof.noPylong_small (by decide)))
      refine op_rangeIter (m := a + 1) (F2.g.push _ |>.same (s' := { s2 with heap := _ }) rfl rfl rfl) (IsRange.new ..) ?_ hsz (by (first | lia | omega)) q
      unfold Builtin.Range.small
      rw [hsz]
      simp only [Builtin.Range.rangeFitsLong, Bool.and_eq_true, Bool.or_eq_true, decide_eq_true_eq, beq_iff_eq]
      refine ⟨⟨⟨⟨?_, ?_⟩, ?_⟩, ?_⟩, .inr ?_⟩
      all_goals first | (first | lia | omega) | (simp; (first | lia | omega)) | decide
end
end Mine

namespace Mine
open PySem PySem.Calls PySem.Spec PyProof.Rows PySem.W

/-- the cells that a comprehension takes along -/
noncomputable def clOf (scope : Scope) (env : Env) : List (Str × Addr) := (scope.names.filter fun p => p.2 == .free).reverse.map fun p => (p.1, (env.cells.lookup p.1).getD 0)
noncomputable def Cx.inner (c : Cx) (scope : Scope) (C : Addr) (X : Value → Shared → Prop) : Cx := { c with env := compEnvC scope (clOf scope c.env) C c.env, L := C, X := X }
structure ScopeOk (env : Env) (scope : Scope) (x : Str) : Prop where
  kind : scope.kind = .function
  names : ∀ y ∈ scope.names, y.2 = .local → scope.names.lookup y.1 = some .local
  cell : ∀ y ∈ scope.names, y.2 ≠ .cell
  x : scope.names.lookup x = some .local
  free : ∀ y ∈ scope.names, y.2 = .free → env.kindOf y.1 = some .cell ∧ (env.cells.lookup y.1).isSome = true
  first : ∀ y ∈ scope.names, y.2 = .free → scope.names.lookup y.1 = some .free
noncomputable def innerLoc (scope : Scope) (loc : Loc) : Loc := fun z => if scope.names.lookup z = some .free then loc z else none

theorem closure_go {env : Env} : ∀ (names : List (Str × NameKind)) (acc : List (Str × Addr)), (∀ y ∈ names, y.2 = .free → (env.cells.lookup y.1).isSome = true) →
    (forIn names acc fun (x : Str × NameKind) (r : List (Str × Addr)) => (if (x.2 == .free) = true then do let y ← cellOf env x.1; pure (ForInStep.yield ((x.1, y) :: r)) else pure (ForInStep.yield r) : Sem (ForInStep (List (Str × Addr))))) =
      pure (((names.filter fun p => p.2 == .free).reverse.map fun p => (p.1, (env.cells.lookup p.1).getD 0)) ++ acc)
  | [], acc, _ => rfl
  | (z, kd) :: rest, acc, h => by
    have ih := closure_go (env := env) rest
    rw [List.forIn_cons]
    by_cases hk : (kd == NameKind.free) = true
    · obtain ⟨a, ha⟩ := Option.isSome_iff_exists.mp (h (z, kd) (.head _) (by simpa using hk))
      have hc : cellOf env z = pure a := by unfold cellOf; simp only at ha; rw [ha]
      simp only [hk, if_true, hc, pure_bind]
      rw [ih _ fun y hy => h y (.tail _ hy)]
      simp only at ha
      simp [List.filter_cons, hk, ha]
    · have hk' : (kd == NameKind.free) = false := by simpa using hk
      simp only [hk', Bool.false_eq_true, if_false, pure_bind]
      rw [ih _ fun y hy => h y (.tail _ hy)]
      simp [List.filter_cons, hk]
theorem closure_eq {env : Env} {scope : Scope} (h : ∀ y ∈ scope.names, y.2 = .free → (env.cells.lookup y.1).isSome = true) : closureFor scope env = pure (clOf scope env) := by
  unfold closureFor clOf
  have := closure_go (env := env) scope.names [] h
  simp only [List.append_nil] at this
  rw [← this]
  simp only [bind_pure]
theorem lookup_relabel_free {env : Env} (hf : env.scope.kind = .function) : ∀ {names : List (Str × NameKind)} {x : Str}, names.lookup x = some .free → env.kindOf x = some .cell →
    (names.map fun (n, k) => if (k == NameKind.free && env.scope.kind == .function && env.kindOf n == some .cell) then (n, NameKind.cell) else (n, k)).lookup x = some .cell
  | [], _, h, _ => by simp at h
  | (m, k) :: r, x, h, hc => by
    have ih := @lookup_relabel_free env hf r x
    show List.lookup x ((if (k == NameKind.free && env.scope.kind == .function && env.kindOf m == some .cell) = true then (m, NameKind.cell) else (m, k)) :: _) = _
    by_cases e : x = m
    · subst e
      simp only [List.lookup_cons, beq_self_eq_true] at h
      cases h
      rw [hf, hc]
      simp
    · have hb : (x == m) = false := beq_eq_false_iff_ne.mpr e
      rw [List.lookup_cons, hb] at h
      have := ih h hc
      split <;> (rw [List.lookup_cons, hb]; exact this)
theorem cl_lookup {scope : Scope} {env : Env} {z : Str} {a : Addr} (h : (clOf scope env).lookup z = some a) (hs : ∀ y ∈ scope.names, y.2 = .free → env.kindOf y.1 = some .cell ∧ (env.cells.lookup y.1).isSome = true) : env.cells.lookup z = some a := by
  have hm := lookup_mem h
  unfold clOf at hm
  rw [List.mem_map] at hm
  obtain ⟨p, hp, e⟩ := hm
  rw [List.mem_reverse, List.mem_filter] at hp
  obtain ⟨b, hb⟩ := Option.isSome_iff_exists.mp (hs p hp.1 (by simpa using hp.2)).2
  cases e
  rw [hb]; rfl
theorem lookup_free {names : List (Str × NameKind)} {z : Str} {kd : NameKind} (h : names.lookup z = some kd) : (z, kd) ∈ names := lookup_mem h
theorem cl_some {scope : Scope} {env : Env} {z : Str} {a : Addr} (h : scope.names.lookup z = some .free) (ha : env.cells.lookup z = some a) (hs : ∀ y ∈ scope.names, y.2 = .free → env.kindOf y.1 = some .cell ∧ (env.cells.lookup y.1).isSome = true) : (clOf scope env).lookup z = some a := by
  cases q : (clOf scope env).lookup z with
  | some b => rw [cl_lookup q hs] at ha; exact ha
  | none =>
    exfalso
    have : ∀ {l : List (Str × Addr)}, l.lookup z = none → ∀ p ∈ l, p.1 ≠ z := by
      intro l hl p hp
      induction l with
      | nil => cases hp
      | cons a l ih =>
        rw [List.lookup_cons] at hl
        split at hl
        · cases hl
        · rename_i hne
          cases hp with
          | head => intro e; subst e; simp at hne
          | tail _ hp => exact ih hl hp
    refine this q (z, (env.cells.lookup z).getD 0) ?_ rfl
    unfold clOf
    exact List.mem_map.mpr ⟨(z, .free), List.mem_reverse.mpr (List.mem_filter.mpr ⟨lookup_free h, rfl⟩), rfl⟩
theorem cl_sub {scope : Scope} {env : Env} {a : Addr} (h : a ∈ (clOf scope env).map (·.2)) (hs : ∀ y ∈ scope.names, y.2 = .free → env.kindOf y.1 = some .cell ∧ (env.cells.lookup y.1).isSome = true) : ∃ z, scope.names.lookup z ≠ none ∧ (z, NameKind.free) ∈ scope.names ∧ env.cells.lookup z = some a := by
  rw [List.mem_map] at h
  obtain ⟨p, hp, e⟩ := h
  unfold clOf at hp
  rw [List.mem_map] at hp
  obtain ⟨q, hq, e2⟩ := hp
  rw [List.mem_reverse, List.mem_filter] at hq
  obtain ⟨b, hb⟩ := Option.isSome_iff_exists.mp (hs q hq.1 (by simpa using hq.2)).2
  have hq2 : q.2 = .free := by simpa using hq.2
  refine ⟨q.1, ?_, by rw [← hq2]; exact hq.1, ?_⟩
  · intro hn
    have : ∀ {l : List (Str × NameKind)}, l.lookup q.1 = none → q ∉ l := by
      intro l hl hm
      induction l with
      | nil => cases hm
      | cons a l ih =>
        rw [List.lookup_cons] at hl
        split at hl
        · cases hl
        · rename_i hne
          cases hm with
          | head => simp at hne
          | tail _ hm => exact ih hl hm
    exact this hn hq.1
  · subst e2
    simp only at e
    rw [hb] at e ⊢
    simpa using e

section
variable {prog : Program} {c : Cx} {B : Heap} {loc loc' : Loc} {H H' : HM} {s s' : Shared} {n k dp un : Nat} {Q : QV}
theorem Good.lLt (G : Good prog c B loc H s) : c.L < s.heap.objs.size := by
  obtain ⟨_, ⟨o, _, _, e, _⟩, _⟩ := G.loc.ns
  exact Heap.lt_size e
theorem Good.cLt (G : Good prog c B loc H s) {a : Addr} (h : a ∈ c.cells) : a < s.heap.objs.size := by
  obtain ⟨v, o, e, _⟩ := G.loc.cl a h
  exact Heap.lt_size e
theorem inner_cells {scope : Scope} {C : Addr} {X : Value → Shared → Prop} {x : Str} (S : ScopeOk c.env scope x) {a : Addr} (h : a ∈ (c.inner scope C X).cells) : a ∈ c.cells := by
  obtain ⟨z, _, _, e⟩ := cl_sub h S.free
  exact cell_mem e
theorem CxOk.inner (K : CxOk c) {scope : Scope} {C : Addr} {X : Value → Shared → Prop} {x : Str} (S : ScopeOk c.env scope x) (G : Good prog c B loc H s) (hC : s.heap.objs.size ≤ C) : CxOk (c.inner scope C X) where
  kind := S.kind
  glob := K.glob
  blt := K.blt
  locals := rfl
  apart := K.apart
  Lc h := Nat.lt_irrefl _ (Nat.lt_of_lt_of_le (G.cLt (inner_cells S h)) hC)
  inj y z a h1 h2 := K.inj y z a (cl_lookup h1 S.free) (cl_lookup h2 S.free)
  newL := by
    cases q : c.B0.get? C with
    | none => exact q
    | some o => exact absurd (Heap.lt_size (G.stat K C o q)) (Nat.not_lt.mpr hC)
  newC b h := K.newC b (inner_cells S h)
  nl := K.nl
  kin := K.kin
  sysm := K.sysm
  tab := K.tab
  above := Nat.le_trans K.above (Nat.le_of_lt (Nat.lt_of_lt_of_le G.lLt hC))
  each := K.each
/-- the block's base: the iterator is out of it too -/
noncomputable def baseI (c : Cx) (H : HM) (h : Heap) (it : Addr) : Heap := hideAll (baseOf c H h) [it]
theorem baseI_get {c : Cx} {H : HM} {h : Heap} {it b : Addr} {o : Obj} (e : h.get? b = some o) (hH : H b = none) (hL : b ≠ c.L) (hC : b ∉ c.cells) (hi : b ≠ it) : (baseI c H h it).get? b = some o :=
  hideAll_get _ (baseOf_get e hH hL hC) (by simpa using hi)
theorem baseI_of {c : Cx} {H : HM} {h : Heap} {it b : Addr} {o : Obj} (e : (baseI c H h it).get? b = some o) : h.get? b = some o ∧ H b = none ∧ b ≠ c.L ∧ b ∉ c.cells ∧ b ≠ it := by
  obtain ⟨h1, h2, h3, h4⟩ := baseOf_of (of_hideAll _ e)
  refine ⟨h1, h2, h3, h4, ?_⟩
  rintro rfl
  have z := hideAll_none (h := baseOf c H h) [b] (List.mem_singleton.mpr rfl)
  unfold baseI at e
  first | exact (no z e).elim | exact (no e z).elim | obtain rfl := so z e | (rw [z] at e; cases e)
/-- into the comprehension's block -/
theorem Good.intoInner (K : CxOk c) {scope : Scope} {C : Addr} {X : Value → Shared → Prop} {x : Str} (S : ScopeOk c.env scope x) (G : Good prog c B loc H s) (hC : C = s.heap.objs.size) {h' : Heap} {tk : Nat} {it : Addr} (hit : B.get? it = none) (hk : ∀ b o, s.heap.get? b = some o → h'.get? b = some o)
    (hn : h'.Ns C fun _ => none) : Good prog c B loc H { s with heap := h', toks := tk } ∧ Good prog (c.inner scope C X) (baseI (c.inner scope C X) H h' it) (innerLoc scope loc) H { s with heap := h', toks := tk } := by
  have G4 : Good prog c B loc H { s with heap := h', toks := tk } := G.more hk rfl rfl
  refine ⟨G4, ?_⟩
  have old : ∀ {b : Addr} {o : Obj}, s.heap.get? b = some o → b ≠ C := fun e q => by
    have := Heap.lt_size e
    rw [q, hC] at this; exact Nat.lt_irrefl _ this
  exact {
    sub := fun b o e => by
      have e4 := G.stat K b o e
      refine baseI_get (hk b o e4) ?_ (old e4) (fun q => ?_) (by rintro rfl; have := G.sub b o e; first | exact (no hit this).elim | exact (no this hit).elim | obtain rfl := so hit this | (rw [hit] at this; cases this))
      · cases q : H b with
        | none => rfl
        | some m => have := (G.obj b m q).nb; first | exact (no (G.sub b o e) this).elim | exact (no this (G.sub b o e)).elim | obtain rfl := so (G.sub b o e) this | (rw [G.sub b o e] at this; cases this)
      · have := K.newC b (inner_cells S q)
        first | exact (no (show c.B0.get? b = some o from e) this).elim | exact (no this (show c.B0.get? b = some o from e)).elim | obtain rfl := so (show c.B0.get? b = some o from e) this | (rw [show c.B0.get? b = some o from e] at this; cases this)
    kp := fun b o e _ => (baseI_of e).1
    ks := fun b o e _ => ⟨o.slots, (baseI_of e).1⟩
    apart := fun b hb => by
      cases q : (baseI (c.inner scope C X) H h' it).get? b with
      | none => rfl
      | some o =>
        obtain ⟨_, _, h1, h2, _⟩ := baseI_of q
        exact (hb.elim h1 h2).elim
    obj := fun a m e => by
      obtain ⟨h1, h2, h3, h4, h5⟩ := G4.obj a m e
      refine ⟨?_, h2, ?_, fun q => h4 (inner_cells S q), h5⟩
      · cases q : (baseI (c.inner scope C X) H h' it).get? a with
        | none => rfl
        | some o => have := (baseI_of q).2.1; first | exact (no e this).elim | exact (no this e).elim | obtain rfl := so e this | (rw [e] at this; cases this)
      · have := G.lt e
        show a ≠ C
        rw [hC]; exact Nat.ne_of_lt this
    loc := {
      ns := ⟨_, hn, fun z v e => by
        unfold innerLoc at e
        split at e
        · rename_i hz
          obtain ⟨m, hm, hl⟩ := G4.loc.ns
          have hfree := S.free (z, .free) (lookup_free hz) rfl
          rcases hl z v e with ⟨hk', _⟩ | ⟨hk', a, u, hc, hi, hr⟩
          · rw [hfree.1] at hk'; cases hk'
          · exact .inr ⟨lookup_relabel_free K.kind hz hfree.1, a, u, cl_some hz hc S.free, hi, hr⟩
        · cases e⟩
      cl := fun a ha => G4.loc.cl a (inner_cells S ha) }
    gens := G4.gens
    os := G4.os
    fr := G4.fr
    lo := fun b o e => by
      obtain ⟨l1, l2⟩ := G4.lo b o e
      have nH : ∀ o', B.get? b = some o' → H b = none := fun o' e' => by
        cases q : H b with
        | none => rfl
        | some m => have := (G.obj b m q).nb; first | exact (no e' this).elim | exact (no this e').elim | obtain rfl := so e' this | (rw [e'] at this; cases this)
      have nC : ∀ o', B.get? b = some o' → b ∉ (c.inner scope C X).cells := fun o' e' q => by have := G.apart b (.inr (inner_cells S q)); first | exact (no e' this).elim | exact (no this e').elim | obtain rfl := so e' this | (rw [e'] at this; cases this)
      have nI : ∀ o', B.get? b = some o' → b ≠ it := fun o' e' q => by rw [q, hit] at e'; cases e'
      have nCC : ∀ o', B.get? b = some o' → b ≠ C := fun o' e' q => by
        have := (G.newApart).1
        rw [← hC, ← q, e'] at this; cases this
      refine ⟨fun hb => baseI_get (G4.kp b o (l1 hb) hb) (nH _ (l1 hb)) (nCC _ (l1 hb)) (nC _ (l1 hb)) (nI _ (l1 hb)), fun hn => ?_⟩
      obtain ⟨sl, z⟩ := l2 hn
      obtain ⟨sl', z'⟩ := G4.ks b _ z hn
      exact ⟨sl', baseI_get z' (nH _ z) (nCC _ z) (nC _ z) (nI _ z)⟩ }
/-- and back -/
theorem Good.outInner (K : CxOk c) {scope : Scope} {C : Addr} {X : Value → Shared → Prop} {x : Str} (S : ScopeOk c.env scope x) {s4 : Shared} (G : Good prog c B loc H s4) {H' : HM} {locI : Loc} (hlt : ∀ b o, B.get? b = some o → b ≠ C) (hLC : c.L ≠ C) (hcC : C ∉ c.cells) (hCn : ∀ vs, ¬ IsTup s4.heap C vs) {it : Addr} (hit : B.get? it = none) (hitL : c.L ≠ it) (hitC : it ∉ c.cells) (hitn : ∀ vs, ¬ IsTup s4.heap it vs)
    (hI : ∀ z, scope.names.lookup z = some .free → locI z = loc z)
    (G' : Good prog (c.inner scope C X) (baseI (c.inner scope C X) H s4.heap it) locI H' s') : Good prog c B loc H' s' := by
  have told : ∀ {b : Addr} {o : Obj}, B.get? b = some o → H b = none := fun {b o} e => by
    cases q : H b with
    | none => rfl
    | some m => have := (G.obj b m q).nb; first | exact (no e this).elim | exact (no this e).elim | obtain rfl := so e this | (rw [e] at this; cases this)
  have base : ∀ {b : Addr} {o : Obj}, s4.heap.get? b = some o → H b = none → b ≠ C → b ∉ (c.inner scope C X).cells → b ≠ it → (baseI (c.inner scope C X) H s4.heap it).get? b = some o := fun e h1 h2 h3 h4 => baseI_get e h1 h2 h3 h4
  have nB : ∀ {b : Addr} {o : Obj}, B.get? b = some o → b ∉ (c.inner scope C X).cells := fun {b o} e q => by
    have := G.apart b (.inr (inner_cells S q)); first | exact (no e this).elim | exact (no this e).elim | obtain rfl := so e this | (rw [e] at this; cases this)
  have nI : ∀ {b : Addr} {o : Obj}, B.get? b = some o → b ≠ it := fun {b o} e q => by rw [q, hit] at e; cases e
  have hHL : H c.L = none := by
    cases q : H c.L with
    | none => rfl
    | some m => exact absurd rfl (G.obj _ m q).nL
  have hHC : ∀ a ∈ c.cells, H a = none := fun a ha => by
    cases q : H a with
    | none => rfl
    | some m => exact absurd ha (G.obj _ m q).nC
  obtain ⟨mL, hnL, hl⟩ := G.loc.ns
  obtain ⟨oL, esL, epL, eL, dL, rL⟩ := id hnL
  have bL : (baseI (c.inner scope C X) H s4.heap it).get? c.L = some oL := base eL hHL hLC (fun q => K.Lc (inner_cells S q)) hitL
  exact {
    sub := G.sub
    lo := G.lo
    kp := fun b o e hb => G'.kp b o (base (G.kp b o e hb) (told e) (hlt b o e) (nB e) (nI e)) hb
    ks := fun b o e hn => by
      obtain ⟨sl, z⟩ := G.ks b o e hn
      obtain ⟨sl', z'⟩ := G'.ks b _ (base z (told e) (hlt b o e) (nB e) (nI e)) hn
      exact ⟨sl', z'⟩
    apart := G.apart
    obj := fun a m e => by
      obtain ⟨h1, h2, h3, h4, h5⟩ := G'.obj a m e
      refine ⟨?_, h2, ?_, fun q => ?_, h5⟩
      · cases q : B.get? a with
        | none => rfl
        | some o =>
          exfalso
          have := base (G.kp a o q h2) (told q) (hlt a o q) (nB q) (nI q)
          first | exact (no h1 this).elim | exact (no this h1).elim | obtain rfl := so h1 this | (rw [h1] at this; cases this)
      · rintro rfl; first | exact (no h1 bL).elim | exact (no bL h1).elim | obtain rfl := so h1 bL | (rw [h1] at bL; cases bL)
      · obtain ⟨v, o, ho, _⟩ := G.loc.cl a q
        have := base ho (hHC a q) (by rintro rfl; exact hcC q) h4 (by rintro rfl; exact hitC q)
        first | exact (no h1 this).elim | exact (no this h1).elim | obtain rfl := so h1 this | (rw [h1] at this; cases this)
    loc := {
      ns := by
        obtain ⟨sl, z⟩ := G'.ks c.L oL bL fun vs q => by first | exact (no dL q).elim | exact (no q dL).elim | obtain rfl := so dL q | (rw [dL] at q; cases q)
        refine ⟨mL, ⟨_, esL, epL, z, dL, rL⟩, fun y v e => ?_⟩
        have kt : ∀ {v : Value} {x : V}, Rep s4.heap v x → Rep s'.heap v x := fun {v x} r => by
          refine Rep.mono (fun a vs t => ?_) r
          obtain ⟨h1, h2, h3⟩ := G.tupApart t
          obtain ⟨o, ho, hc, m, hd⟩ := t
          by_cases hia : a = it
          · subst hia; exact absurd ⟨o, ho, hc, m, hd⟩ (hitn vs)
          by_cases hCa : a = C
          · subst hCa
            exfalso
            exact hCn vs ⟨o, ho, hc, m, hd⟩
          · obtain ⟨sl, hs⟩ := G'.ks a o (base ho h1 hCa (fun q => h3 (inner_cells S q)) hia) fun ws q => by first | exact (no q hd).elim | exact (no hd q).elim | obtain rfl := so q hd | (rw [q] at hd; cases hd)
            exact ⟨_, hs, hc, m, hd⟩
        rcases hl y v e with ⟨hk', u, hu, hr⟩ | ⟨hk', a, u, hc, hi, hr⟩
        · exact .inl ⟨hk', u, hu, kt hr⟩
        · by_cases hy : scope.names.lookup y = some .free
          · obtain ⟨m', hns', hl'⟩ := G'.loc.ns
            rcases hl' y v ((hI y hy).trans e) with ⟨hk2, _⟩ | ⟨hk2, a2, u2, hc2, hi2, hr2⟩
            · have := lookup_relabel_free K.kind hy hk'
              exact absurd (hk2.symm.trans this) (by simp)
            · have : a2 = a := by
                have := cl_lookup hc2 S.free
                (first | exact (no hc this).elim | exact (no this hc).elim | obtain rfl := so hc this | (rw [hc] at this; cases this)); rfl
              subst this
              exact .inr ⟨hk', a2, u2, hc, hi2, hr2⟩
          · have ha : a ∉ (c.inner scope C X).cells := fun q => by
              obtain ⟨z, _, hz, ez⟩ := cl_sub q S.free
              have := K.inj y z a hc ez
              subst this
              exact hy (S.first _ hz rfl)
            obtain ⟨o, ho, hd⟩ := id hi
            obtain ⟨sl, hs⟩ := G'.ks a o (base ho (hHC a (cell_mem hc)) (by rintro rfl; exact hcC (cell_mem hc)) ha (by rintro rfl; exact hitC (cell_mem hc))) fun ws q => by first | exact (no q hd).elim | exact (no hd q).elim | obtain rfl := so q hd | (rw [q] at hd; cases hd)
            exact .inr ⟨hk', a, u, hc, ⟨_, hs, hd⟩, kt hr⟩
      cl := fun a ha => by
        by_cases hin : a ∈ (c.inner scope C X).cells
        · exact G'.loc.cl a hin
        · obtain ⟨v, o, ho, hd⟩ := G.loc.cl a ha
          obtain ⟨sl, hs⟩ := G'.ks a o (base ho (hHC a ha) (by rintro rfl; exact hcC ha) hin (by rintro rfl; exact hitC ha)) fun ws q => by first | exact (no q hd).elim | exact (no hd q).elim | obtain rfl := so q hd | (rw [q] at hd; cases hd)
          exact ⟨v, _, hs, hd⟩ }
    gens := G'.gens
    os := G'.os
    fr := G'.fr }
end
end Mine

namespace Mine
open PySem PySem.Calls PySem.Spec PyProof.Rows PySem.W

/-- the tests of a comprehension: none or one -/
noncomputable def TTs (prog : Program) (c : Cx) (n k : Nat) (ifs : List Expr) (loc : Loc) (H : HM) (Q : Bool → HM → Prop) : Prop := match ifs with
  | [] => Q true H
  | [t] => TB prog c n k (isTrue t c.env (eval t c.env)) loc H Q
  | _ => False
section
variable {prog : Program} {c : Cx} {B : Heap} {loc loc' : Loc} {H H' : HM} {s s' : Shared} {n k dp un : Nat} {Q : QV}
theorem op_tests (K : CxOk c) (R : Room n k dp un) (G : Good prog c B loc H s) {ifs : List Expr} {QQ : Bool → HM → Prop} {P : Bool → Shared → Prop} (h : TTs prog c n k ifs loc H QQ) (hP : ∀ b H' s', Aft prog c B H s loc H' s' → QQ b H' → P b s') :
    wpAny (model prog c.w) (c.A dp un) (forIn ifs true fun t (r : Bool) => if r = true then do let ok ← isTrue t c.env (eval t c.env); pure (ForInStep.yield ok) else pure (ForInStep.yield r)) P c.X s := by
  match ifs, h with
  | [], h =>
    simp only [List.forIn_nil]
    exact wpAny_pure (hP true H s (G.aft (G.wide K)) h)
  | [t], h =>
    simp only [List.forIn_cons, List.forIn_nil, if_true, bind_assoc, pure_bind]
    refine wpAny_bind (TB.run (show TB prog c n k _ loc H QQ from h) K R G fun b H1 s1 F q => ?_)
    exact wpAny_pure (hP b H1 s1 F q)
theorem put_put (loc : Loc) (x : Str) (a b : V) : put (put loc x a) x b = put loc x b := by
  funext y; unfold put; split <;> rfl
inductive CompJ (prog : Program) (c : Cx) (n k : Nat) (scope : Scope) (x : Str) (ifs : List Expr) (elt : Expr) (loc : Loc) (items : List V) (fix : HM → Prop) (H : HM) (QQ : Addr → HM → Prop) (D : Addr) : Prop
  | mk (J : Nat → List V → HM → Prop) (h0 : J 0 [] (upd H D (.list []))) (hJ : ∀ i ys H', J i ys H' → fix H' ∧ H' D = some (.list ys) ∧ ys.length ≤ 1000)
    (turn : ∀ C X, CxOk (c.inner scope C X) → ∀ i ys y H', J i ys H' → items[i]? = some y →
      TTs prog (c.inner scope C X) n k ifs (put (innerLoc scope loc) x y) H' fun b H2 => if b = true then
        TV prog (c.inner scope C X) n k (eval elt (c.inner scope C X).env) (put (innerLoc scope loc) x y) H2 fun r H3 => H3 D = some (.list ys) ∧ J (i + 1) (ys ++ [r]) (upd H3 D (.list (ys ++ [r])))
      else J (i + 1) ys H2)
    (out : ∀ ys H', J items.length ys H' → QQ D H')
/-- the state between two turns -/
inductive CJ (prog : Program) (c : Cx) (B2 : Heap) (it : Addr) (items : List V) (J : Nat → List V → HM → Prop) (St : Nat → Heap → Prop) (sc : Scope) (x : Str) (loc : Loc) (m : Nat) (s : Shared) : Prop
  | mk (i : Nat) (ys : List V) (H' : HM) (locI : Loc) (hi : i ≤ items.length) (hm : m = items.length - i) (G : Good prog c B2 locI H' s) (S : Sep c B2 H' it) (hJ : J i ys H') (st : St i s.heap) (hf : ∀ z, sc.names.lookup z = some .free → locI z = loc z) (hp : ∀ y, put locI x y = put (innerLoc sc loc) x y)
/-- what is asked of a comprehension's turns -/
noncomputable def CompI (prog : Program) (c : Cx) (n k : Nat) (scope : Scope) (x : Str) (ifs : List Expr) (elt : Expr) (loc : Loc) (items : List V) (fix : HM → Prop) (H : HM) (QQ : Addr → HM → Prop) : Prop :=
  ∀ D, H D = none → CompJ prog c n k scope x ifs elt loc items fix H QQ D
theorem comp_core (K : CxOk c) (R : Room n k dp un) {elt iter : Expr} {x : Str} {px : Pos} {ifs : List Expr} {scope : Scope} {pos : Pos} (S : ScopeOk c.env scope x) {it : Addr} {items : List V} {fix : HM → Prop} {St : Nat → Heap → Prop}
    (W : IterOk prog c it items fix St) (G : Good prog c B loc H s) (Sp : Sep c B H it) (hSt : St 0 s.heap) {RR : Value → Addr → Result → Shared → Prop} {E : Value → Shared → Prop} {QQ : Addr → HM → Prop}
    (h : CompI prog c n k scope x ifs elt loc items fix H QQ)
    (hRR : ∀ D C s' H', Good prog c B loc H' s' → Sep c B H' C → (∃ m, s'.heap.Ns C m) → QQ D H' → RR (.ref D) C (.ok .next) s') :
    wpAny (model prog c.w) (c.A dp un) (newList []) (fun acc s₃ => wpAny (model prog c.w) (c.A dp un) (newFunctionEnv scope c.env.globals (clOf scope c.env) [] c.env.qual none .none (some c.env)) (fun cenv s₄ =>
      codeAny (model prog c.w) (c.A dp un) (.compStart (.ListComp elt [⟨.Name x px, iter, ifs, 0⟩] scope pos) 0 (.ref it) acc { cenv with scope := relabel scope c.env }) (RR acc cenv.locals) s₄) E s₃) E s := by
  refine wpAny_newObj_type (wpAny_newFunctionEnv S.cell (by intro y hy; simp at hy) (fun h₁ hns₁ hsb₁ => ?_) S.kind)
  have hD : H s.heap.objs.size = none := G.newNone
  obtain ⟨J, hJ0, hJ, turn, out⟩ := h _ hD
  generalize hDd : s.heap.objs.size = D at *
  have G3 : Good prog c B loc (upd H D (.list [])) { s with heap := s.heap.push { cls := .type "list", data := .seq ([] : List Value).toArray } } := by
    have := G.new (m := .list []) (repM_newList (prog := prog) c.w (h := s.heap) (vs := []) (xs := []) .nil)
    rw [hDd] at this; exact this
  obtain ⟨oI, vI, hoI, hdI⟩ := W.there 0 _ hSt
  have ItD : it ≠ D := by rintro rfl; exact absurd (Heap.lt_size hoI) (by rw [hDd]; exact Nat.lt_irrefl _)
  generalize hs3 : ({ s with heap := s.heap.push { cls := .type "list", data := .seq ([] : List Value).toArray } } : Shared) = s3 at *
  have hs3h : s3.heap = s.heap.push { cls := .type "list", data := .seq ([] : List Value).toArray } := by rw [← hs3]
  have hk3 : ∀ b o, s.heap.get? b = some o → s3.heap.get? b = some o := fun b o e => by rw [hs3h]; exact Heap.get?_push_of_some _ e
  generalize hC : s3.heap.objs.size = C at *
  have hk : ∀ b o, s3.heap.get? b = some o → h₁.get? b = some o := fun b o e => by
    have hb : b ≠ C := fun q => by have := Heap.lt_size e; rw [hC, q] at this; exact Nat.lt_irrefl _ this
    exact hsb₁.extBut b o hb (Heap.get?_push_of_some _ e)
  have hn : h₁.Ns C fun _ => none := by
    have e0 : (fun x => List.lookup x (([] : List (Str × Value)).reverse)) = fun _ => none := by funext x; rfl
    rw [e0] at hns₁; exact hns₁
  let X : Value → Shared → Prop := notedBy (model prog c.w) (c.A dp un) (compEnvC scope (clOf scope c.env) C c.env) fun e s' => RR (.ref D) C (.error e) s'
  obtain ⟨nC1, nC2, nC3, nC4⟩ := G3.newApart
  rw [hC] at nC1 nC2 nC3 nC4
  have KI : CxOk (c.inner scope C X) := K.inner S G3 (by rw [hC]; exact Nat.le_refl _)
  obtain ⟨G4, GI⟩ := G3.intoInner (X := X) K S hC.symm (tk := s3.toks + ([] : List (Str × Value)).length) (it := it) Sp.b hk hn
  have it4 : h₁.get? it = some oI := hk _ _ (hk3 _ _ hoI)
  have ItC : it ≠ C := fun q => by have := Heap.lt_size (hk3 _ _ hoI); rw [hC, q] at this; exact Nat.lt_irrefl _ this
  have SpI : Sep (c.inner scope C X) (baseI (c.inner scope C X) (upd H D (.list [])) h₁ it) (upd H D (.list [])) it := {
    b := hideAll_none _ (List.mem_singleton.mpr rfl)
    h := by unfold upd; rw [if_neg ItD]; exact Sp.h
    l := ItC
    cl := fun q => Sp.cl (inner_cells S q)
    fr := Sp.fr }
  have St4 : St 0 h₁ := W.frame _ _ _ hSt (fun o e => hk _ _ (hk3 _ _ e)) (Kt.of_keeps fun b o e => hk b o (hk3 b o e))
  have CnT : ∀ vs, ¬ IsTup h₁ C vs := fun vs z0 => by
    obtain ⟨o, ho, hc, m, hd⟩ := z0
    obtain ⟨o', es, ep, e, d, _⟩ := hn
    (first | exact (no ho e).elim | exact (no e ho).elim | obtain rfl := so ho e | (rw [ho] at e; cases e)); first | exact (no hd d).elim | exact (no d hd).elim | obtain rfl := so hd d | (rw [hd] at d; cases d)
  generalize hs4 : ({ s3 with heap := h₁, toks := s3.toks + ([] : List (Str × Value)).length } : Shared) = s4 at *
  have hs4h : s4.heap = h₁ := by rw [← hs4]
  subst hs4h
  generalize hB2 : baseI (c.inner scope C X) (upd H D (.list [])) s4.heap it = B2 at *
  have loop : ∀ it', it' = Value.ref it → codeAny (model prog c.w) (c.A dp un) (.compLoop (.ListComp elt [⟨.Name x px, iter, ifs, 0⟩] scope pos) 0 it' (.ref D) (compEnvC scope (clOf scope c.env) C c.env)) (RR (.ref D) C) s4 := by
    rintro _ rfl
    refine codeAny_compLoop_tests (CJ prog (c.inner scope C X) B2 it items J St scope x loc)
      (fun m s5 z0 => ?_) items.length ⟨0, [], _, innerLoc scope loc, Nat.zero_le _, by simp, GI, SpI, hJ0, St4, fun z hz => by unfold innerLoc; rw [if_pos hz], fun y => rfl⟩ (fun v => rfl)
    obtain ⟨i, ys, H', locI, hi, hm, G5, S5, hJi, hSti, hfree, hput⟩ := z0
    obtain ⟨hfix, hDl, hlen⟩ := hJ _ _ _ hJi
    by_cases hlt : i < items.length
    · have hx : items[i]? = some items[i] := List.getElem?_eq_getElem hlt
      refine W.item (c.inner scope C X).env C X i _ B2 locI H' dp un s5 _ _ G5 hfix hSti hx fun v h' tk rv hSt' hs => ?_
      obtain ⟨G6, kt⟩ := G5.other (tk := tk) S5 hs (noTup_fields (W.there i _ hSti))
      refine wpAny_assign_Name (Good.store (c := c.inner scope C X) (G6.wide KI) KI rv (.inl (lookup_relabel_local S.x)) fun s6 G7 => ?_)
      have F := G6.aft G7
      rw [hput] at F
      obtain ⟨o, vs, ho, hd⟩ := W.there (i + 1) h' hSt'
      have e1 : s6.heap.get? it = some o := F.keep.kp it o ho S5.h S5.l S5.cl S5.fr
      have St1 : St (i + 1) s6.heap := W.frame _ _ _ hSt' (fun o' e => by (first | exact (no ho e).elim | exact (no e ho).elim | obtain rfl := so ho e | (rw [ho] at e; cases e)); exact e1) F.kt
      have S6 : Sep (c.inner scope C X) B2 H' it := F.sep S5 ho
      have hfree' : ∀ z, scope.names.lookup z = some .free → put (innerLoc scope loc) x items[i] z = loc z := fun z hz => by
        unfold put innerLoc
        rw [if_neg (by rintro rfl; rw [S.x] at hz; cases hz), if_pos hz]
      refine op_tests (c := c.inner scope C X) KI R F.g (turn C X KI i ys _ H' hJi hx) fun b H2 s7 F2 q => ?_
      have e2 : s7.heap.get? it = some o := F2.keep.kp it o e1 S6.h S6.l S6.cl S6.fr
      have St2 : St (i + 1) s7.heap := W.frame _ _ _ St1 (fun o' e => by (first | exact (no e1 e).elim | exact (no e e1).elim | obtain rfl := so e1 e | (rw [e1] at e; cases e)); exact e2) F2.kt
      have S7 : Sep (c.inner scope C X) B2 H2 it := F2.sep S6 e1
      cases b with
      | false => exact ⟨items.length - (i + 1), by (first | lia | omega), i + 1, ys, H2, _, hlt, rfl, F2.g, S7, q, St2, hfree', fun y => put_put _ _ _ _⟩
      | true =>
        simp only [if_true] at q ⊢
        refine TV.run (c := c.inner scope C X) q KI R F2.g fun u r H3 s8 ru F3 z0 => ?_
        obtain ⟨q1, q2⟩ := z0
        have e3 : s8.heap.get? it = some o := F3.keep.kp it o e2 S7.h S7.l S7.cl S7.fr
        have St3 : St (i + 1) s8.heap := W.frame _ _ _ St2 (fun o' e => by (first | exact (no e2 e).elim | exact (no e e2).elim | obtain rfl := so e2 e | (rw [e2] at e; cases e)); exact e3) F3.kt
        have S8 : Sep (c.inner scope C X) B2 H3 it := F3.sep S7 e2
        refine wpAny_mono (cw_append (Q := fun r' H4 => H4 = upd H3 D (.list (ys ++ [r]))) (T := c.T) (n := n) (prog := prog) q1 (by (first | lia | omega)) rfl (c.inner scope C X) KI rfl k _ _ dp un s8 _ R (F3.g.wide KI) (.cons (.ref D) (.cons ru .nil))) (fun _ s9 z0 => ?_) fun _ _ x => x
        obtain ⟨_, H4, _, G9, e9⟩ := z0
        subst e9
        have F4 := F3.g.aft G9
        have e5 : s9.heap.get? it = some o := F4.keep.kp it o e3 S8.h S8.l S8.cl S8.fr
        have St4 : St (i + 1) s9.heap := W.frame _ _ _ St3 (fun o' e => by (first | exact (no e3 e).elim | exact (no e e3).elim | obtain rfl := so e3 e | (rw [e3] at e; cases e)); exact e5) F4.kt
        exact ⟨items.length - (i + 1), by (first | lia | omega), i + 1, _, _, _, hlt, rfl, F4.g, F4.sep S8 e3, q2, St4, hfree', fun y => put_put _ _ _ _⟩
    · have hx : items[i]? = none := List.getElem?_eq_none (by (first | lia | omega))
      have hi' : i = items.length := by (first | lia | omega)
      subst hi'
      refine W.stop (c.inner scope C X).env C X _ B2 locI H' dp un s5 _ _ G5 hfix hSti hx fun h' tk hs => ?_
      obtain ⟨G6, kt⟩ := G5.other (tk := tk) S5 hs (noTup_fields (W.there _ _ hSti))
      subst hB2
      have Go := Good.outInner (X := X) K S G4 (fun b o e => by rintro rfl; first | exact (no nC1 e).elim | exact (no e nC1).elim | obtain rfl := so nC1 e | (rw [nC1] at e; cases e)) (Ne.symm nC3) nC4 CnT Sp.b (Ne.symm Sp.l) Sp.cl (noTup_fields ⟨_, _, it4, hdI⟩) hfree G6
      refine hRR D C _ H' Go ⟨nC1, ?_, nC3, nC4, nC2⟩ ?_ (out ys H' hJi)
      · cases q : H' C with
        | none => rfl
        | some m => exact absurd rfl (G6.obj C m q).nL
      · obtain ⟨m, hm, _⟩ := G6.loc.ns
        exact ⟨m, hm⟩
  show codeAny _ _ (.compStart (.ListComp elt [⟨.Name x px, iter, ifs, 0⟩] scope pos) 0 (.ref it) (.ref D) (compEnvC scope (clOf scope c.env) C c.env)) (RR (.ref D) C) s4
  exact codeAny_compStart_list (loop _ rfl) (W.self 0 _ _ _ _ St4 (loop _ rfl))
/-- the value of a comprehension -/
theorem tv_comp (K : CxOk c) {elt iter : Expr} {x : Str} {px : Pos} {ifs : List Expr} {scope : Scope} {pos : Pos} (S : ScopeOk c.env scope x) (hf : ∀ v, foldedSetIterable iter c.env v = pure v)
    (h : TIt prog c n k (eval iter c.env) loc H fun items fix H1 => CompI prog c n k scope x ifs elt loc items fix H1 fun D H2 => Q (.ref D) H2) :
    TV prog c n k (eval (.ListComp elt [⟨.Name x px, iter, ifs, 0⟩] scope pos) c.env) loc H Q := fun B dp un s R G => by
  rw [eval_ListComp]
  refine wpAny_comprehension_free (use := none) rfl hf (closure_eq fun y hy q => (S.free y hy q).2) S.kind S.names (wpAny_mono (h B dp un s R G) (fun v s1 h1 => wpAny_mono h1 (fun it s2 z0 => ?_) fun _ _ x => x) fun _ _ x => x)
  induction z0 with | mk W G2 Sp hSt q =>
  refine comp_core K R S W G2 Sp hSt (RR := fun acc C => compPost (model prog c.w) (c.A dp un) c.X none _ acc C) q fun D C s' H2 G3 SC z0 q2 => ?_
  obtain ⟨m, hm⟩ := z0
  refine ⟨m, hm, fun h' hs => ?_⟩
  obtain ⟨o, es, ep, e, d, _⟩ := hm
  exact ⟨.ref D, H2, .ref D, (G3.other (tk := s'.toks) SC hs.extBut fun vs z0 => by obtain ⟨o', e', _, m', d'⟩ := z0; rw [e] at e'; cases e'; rw [d] at d'; cases d').1, q2⟩
/-- a comprehension that is stored at once -/
theorem tf_comp (K : CxOk c) {elt iter : Expr} {x y : Str} {px p : Pos} {ifs : List Expr} {scope : Scope} {pos spos : Pos} {Q : QF} (S : ScopeOk c.env scope x) (hf : ∀ v, foldedSetIterable iter c.env v = pure v) (hy : KindOk c y)
    (hs : swapsWith (.ListComp elt [⟨.Name x px, iter, ifs, 0⟩] scope pos) (some (.Name y p)) spos.line c.env = pure true)
    (h : TIt prog c n k (eval iter c.env) loc H fun items fix H1 => CompI prog c n k scope x ifs elt loc items fix H1 fun D H2 => Q .next (put loc y (.ref D)) H2) :
    TF prog c n k (exec (.Assign [.Name y p] (.ListComp elt [⟨.Name x px, iter, ifs, 0⟩] scope pos) spos) c.env) loc H Q := fun B dp un s R G => by
  rw [exec_Assign_Name_used _ _ _ _ hs]
  refine wpAny_bind (wpAny_standAt (wpAny_bind ?_))
  show wpAny _ (c.A dp un) (do let _ ← comprehension (.ListComp elt [⟨.Name x px, iter, ifs, 0⟩] scope pos) scope c.env _ (newList []) false (eval iter c.env) (some (assign (.Name y p) c.env))) _ _ s
  refine wpAny_bind (wpAny_mono (wpAny_comprehension_free (use := some (assign (.Name y p) c.env)) (Q := fun _ => PF prog c B Q .next) rfl hf (closure_eq fun y hy q => (S.free y hy q).2) S.kind S.names
    (wpAny_mono (h B dp un s R G) (fun v s1 h1 => wpAny_mono h1 (fun it s2 z0 => ?_) fun _ _ x => x) fun _ _ x => x)) (fun _ s' hq => wpAny_pure (wpAny_pure hq)) fun _ _ e => e)
  induction z0 with | mk W G2 Sp hSt q =>
  refine comp_core K R S W G2 Sp hSt (RR := fun acc C => compPost (model prog c.w) (c.A dp un) c.X (some (assign (.Name y p) c.env)) _ acc C) q fun D C s' H2 G3 SC z0 q2 => ?_
  obtain ⟨m, hm⟩ := z0
  obtain ⟨o, es, ep, e, d, r⟩ := hm
  refine wpAny_assign_Name (Good.store (G3.wide K) K (.ref D) hy fun s6 G6 => ?_)
  have F := G3.aft G6
  have e6 : s6.heap.get? C = some o := F.keep.kp C o e SC.h SC.l SC.cl SC.fr
  have S6 := F.sep SC e
  refine ⟨m, ⟨o, es, ep, e6, d, r⟩, fun h' hs => ⟨.next, _, H2, .next, (F.g.other (tk := s6.toks) S6 hs.extBut fun vs z0 => by obtain ⟨o', e', _, m', d'⟩ := z0; rw [e6] at e'; cases e'; rw [d] at d'; cases d').1, q2⟩⟩
end
end Mine

namespace Mine
open PySem PySem.Calls PySem.Spec PyProof.Rows PySem.W

noncomputable def TPs (prog : Program) (c : Cx) (n k : Nat) (loc : Loc) : List (Option Expr) → List Expr → HM → (List (Int × V) → HM → Prop) → Prop
  | [], [], H, Q => Q [] H
  | some ke :: ks, ve :: vs, H, Q => TV prog c n k (eval ke c.env) loc H fun x H1 => TV prog c n k (eval ve c.env) loc H1 fun y H2 => TPs prog c n k loc ks vs H2 fun l H3 => ∃ i, x = .int i ∧ Q ((i, y) :: l) H3
  | _, _, _, _ => False
noncomputable def mergeK (l : List (Int × V)) : List (Int × V) := l.foldl (fun acc kv => kst acc kv.1 kv.2) []
theorem repKV_merged {h : Heap} {kvs : List (Int × Value)} {l : List (Int × V)} (r : RepKV h kvs l) : ∀ {ws : List (Int × Value)} {m : List (Int × V)}, RepKV h ws m → RepKV h (merged ws kvs) (l.foldl (fun acc kv => kst acc kv.1 kv.2) m) := by
  induction r with
  | nil => exact fun q => q
  | cons a _ ih => exact fun q => ih (repKV_stored a q)
section
variable {prog : Program} {c : Cx} {B : Heap} {loc loc' : Loc} {H H' : HM} {s s' : Shared} {n k dp un : Nat} {Q : QV}
theorem op_pairs (K : CxOk c) (R : Room n k dp un) {pos : Pos} : ∀ {keys : List (Option Expr)} {values : List Expr} {H : HM} {s : Shared} {QQ : List (Int × V) → HM → Prop} {P : List (Value × Value) → Shared → Prop}, Good prog c B loc H s → TPs prog c n k loc keys values H QQ →
    (∀ vs kvs l H' s', Carries (intKind prog c.w) vs kvs → RepKV s'.heap kvs l → Good prog c B loc H' s' → Kt s.heap s'.heap → QQ l H' → P vs s') → wpAny (model prog c.w) (c.A dp un) (evalPairs (pairTrees keys values c.env pos)) P c.X s
  | [], [], H, s, QQ, P, G, h, hP => wpAny_pure (hP [] [] [] H s trivial .nil G (Kt.refl _) h)
  | some ke :: ks, ve :: vs, H, s, QQ, P, G, h, hP => by
    refine evalPairs_cons (TV.run (show TV prog c n k _ loc H _ from h) K R G fun u x H1 s1 rx F q => wpAny_bind (q.run K R F.g fun v y H2 s2 ry F2 q2 => wpAny_bind (wpAny_standAt (wpAny_pure ?_))))
    refine op_pairs K R F2.g q2 fun vs' kvs l H3 s3 hc hr G3 kt z0 => ?_
    obtain ⟨i, ex, q3⟩ := z0
    subst ex
    obtain ⟨t, rfl⟩ := rx.invInt
    exact hP _ ((i, v) :: kvs) ((i, y) :: l) H3 s3 ⟨by simp [intKind, Value.isInt], rfl, hc⟩ (.cons (Rep.mono kt ry) hr) G3 (Kt.trans F.kt (Kt.trans F2.kt kt)) q3
  | [], _ :: _, _, _, _, _, _, h, _ => h.elim
  | some _ :: _, [], _, _, _, _, _, h, _ => h.elim
  | none :: _, [], _, _, _, _, _, h, _ => h.elim
  | none :: _, _ :: _, _, _, _, _, _, h, _ => h.elim
theorem tv_dict (K : CxOk c) {keys : List (Option Expr)} {values : List Expr} {pos : Pos} (h1 : (keys.all fun x => x.isSome) = true) (h2 : keys.length = values.length) (h3 : keys ≠ []) (h4 : keys.length ≤ 15)
    (h : ∀ d, H d = none → TPs prog c n k loc keys values (upd H d (.dictI [])) fun l H' => H' d = some (.dictI []) ∧ Q (.ref d) (upd H' d (.dictI (mergeK l)))) :
    TV prog c n k (eval (.Dict keys values pos) c.env) loc H Q := fun B dp un s R G => by
  have G1 : Good prog c B loc (upd H s.heap.objs.size (.dictI [])) { s with heap := s.heap.push { cls := .type "dict", data := .dict #[] } } := G.new (m := .dictI []) ⟨[], Heap.DictOf.new _, .nil⟩
  refine wpAny_Dict_walk (knd := intKind prog c.w) h1 h2 h3 h4 (op_pairs K R G1 (h _ G.newNone) fun vs kvs l H' s' hc hr G' _ ⟨q1, q2⟩ => ⟨kvs, hc, ?_, fun h' hd hs => ?_⟩)
  · obtain ⟨ks, hd, hr'⟩ := (G'.obj _ _ q1).rep
    cases hr'; exact hd
  · exact ⟨.ref _, _, .ref _, G'.set (s' := { s' with heap := h', toks := s'.toks + vs.length }) (m' := .dictI (mergeK l)) q1 hs (fun kt => ⟨_, hd, repKV_merged (RepKV.mono kt hr) .nil⟩) rfl rfl, q2⟩
end
end Mine

namespace Mine
open PySem PySem.Calls PySem.Spec PyProof.Rows PySem.W

theorem dropped_eq (xs : List Value) (p : Nat → Bool) (a : Nat) (off : Nat) (hp : ∀ j, off ≤ j → j < off + xs.length → p j = decide (a ≤ j)) :
    ((xs.zipIdx off).filterMap fun (x : Value × Nat) => if p x.2 = true then none else some x.1) = xs.take (a - off) := by
  induction xs generalizing off with
  | nil => simp
  | cons x xs ih =>
    simp only [List.zipIdx_cons, List.filterMap_cons]
    have h0 := hp off (Nat.le_refl _) (by simp)
    have ih' := ih (off + 1) fun j h1 h2 => hp j (by (first | lia | omega)) (by simp only [List.length_cons]; (first | lia | omega))
    rw [h0]
    by_cases hle : a ≤ off
    · simp only [hle, decide_true, if_true]
      rw [ih', show a - (off + 1) = 0 by (first | lia | omega), show a - off = 0 by (first | lia | omega)]
      simp
    · simp only [hle, decide_false, Bool.false_eq_true, if_false]
      rw [ih', show a - off = (a - (off + 1)) + 1 by (first | lia | omega)]
      simp
section
variable {prog : Program} {w : World} {A : Around} {E : Value → Shared → Prop} {s : Shared}
theorem delSlice_exact {l sl : Addr} {items : Array Value} {m a : Nat} {t : Tok} {Q : Unit → Shared → Prop} (he : s.heap.get? l = some { cls := .type "list", data := .seq items m }) (hs : s.heap.IsSliceOf sl (.int a t) .none .none) (ha : a ≤ items.size) (hsz : items.size ≤ 1000000)
    (hQ : ∀ h', (∃ m', h'.get? l = some { cls := .type "list", data := .seq (items.toList.take a).toArray m' }) → Heap.SameBut l s.heap h' → Q () { s with heap := h' }) :
    wpAny (model prog w) A (delItem (.ref l) (.ref sl)) Q E s := by
  have hl : s.heap.IsList l items := ⟨_, he, rfl, m, rfl⟩
  obtain ⟨os, hos, hcs, hds⟩ := id hs
  have hTs : s.TypeIs (.ref sl) "slice" := ⟨os, hos, hcs⟩
  have hf : (fun xs : Array Value => ((xs.toList.zipIdx).filterMap fun (x : Value × Nat) => if Builtin.Bytes.selects a items.size 1 x.2 = true then none else some x.1).toArray) items = (items.toList.take a).toArray := by
    show (List.filterMap _ _).toArray = _
    rw [dropped_eq items.toList (fun j => Builtin.Bytes.selects a items.size 1 j) a 0]
    · rfl
    · intro j _ hj
      have hj' : j < items.size := by simpa using hj
      unfold Builtin.Bytes.selects
      have hm : ((j : Int) - a) % 1 = 0 := Int.emod_one _
      simp [hm]
      (first | lia | omega)
  have fin : ∃ m', (s.heap.update l (Obj.mapSeq fun xs => ((xs.toList.zipIdx).filterMap fun (x : Value × Nat) => if Builtin.Bytes.selects a items.size 1 x.2 = true then none else some x.1).toArray)).get? l = some { cls := .type "list", data := .seq (items.toList.take a).toArray m' } := by
    rw [← hf]; exact ⟨_, Heap.get?_update_self _ he rfl⟩
  refine wpAny_delItem_slot hl.typeIs (by decide) F.slot_list_delitem (wpAny_call_entry F.slot_list_delitem hl.typeIs F.entry_list_delitem ?_ (F.args_list_delitem_2 _ _))
  show wpAny _ _ (Builtin.List.listSubscript? (.ref sl) >>= _) _ _ s
  refine wpAny_bind ?_
  unfold Builtin.List.listSubscript?
  refine wpAny_bind (wpAny_specialOf hTs slice_no_index ?_)
  simp only [Option.isNone_none, if_true]
  refine wpAny_pure ?_
  show wpAny _ _ (typeOf (.ref sl) >>= _) _ _ s
  refine wpAny_bind (wpAny_typeOf hTs ?_)
  rw [if_neg (by decide)]
  rw [listSliceParts_eq]
  refine wpAny_bind (wpAny_bind (wpAny_field hos hds (x := .none) rfl (wpAny_bind (wpAny_listPart .none ?_))))
  rw [if_neg (by decide)]
  refine wpAny_bind (wpAny_field hos hds (x := .int a t) rfl (wpAny_bind (wpAny_listPart (.int _ _) ?_)))
  refine wpAny_bind (wpAny_field hos hds (x := .none) rfl (wpAny_bind (wpAny_listPart .none (wpAny_pure ?_))))
  refine wpAny_bind (m := Builtin.List.listItems (.ref l)) ?_
  unfold Builtin.List.listItems
  refine wpAny_bind (wpAny_seqItems he rfl (wpAny_pure ?_))
  refine wpAny_bind (wpAny_of_eq (sliceIndices_raw (some a) none none items.size (by simp)) ?_)
  have hb : sliceBounds (some (a : Int)) none none items.size = ((a : Int), (items.size : Int), 1) := by
    simp only [sliceBounds, Option.getD_none]
    have h1 : ¬ ((a : Int) < 0) := by (first | lia | omega)
    simp only [show (1 : Int) > 0 by decide, if_true, h1, if_false]
    have : max (0 : Int) (min (a : Int) items.size) = a := by (first | lia | omega)
    rw [this]
  rw [hb]
  refine wpAny_bind (m := updateSeq l fun xs => ((xs.toList.zipIdx).filterMap fun (x : Value × Nat) => if Builtin.Bytes.selects a items.size 1 x.2 = true then none else some x.1).toArray) (wpAny_updateSeq he rfl ?_ (by unfold sizeLine; (first | lia | omega)) ?_)
  · refine wpAny_bind (m := letGo _ _) (wpAny_letGo (wpAny_pure ⟨_, rfl, ?_⟩))
    exact hQ _ fin (Heap.SameBut.update ..)
  · exact Nat.le_trans (Nat.le_of_eq (congrArg Array.size hf)) (by simp; unfold sizeLine; (first | lia | omega))
end
section
variable {prog : Program} {c : Cx} {B : Heap} {loc loc' : Loc} {H H' : HM} {s s' : Shared} {n k dp un : Nat} {Q : QV}
/-- del x[i:] -/
theorem tf_delFrom (K : CxOk c) {e eu : Expr} {p p2 pos : Pos} {Q : QF}
    (h : TV prog c n k (eval e c.env) loc H fun x H1 => TV prog c n k (eval eu c.env) loc H1 fun y H2 => ∃ l xs b, x = .ref l ∧ H2 l = some (.list xs) ∧ xs.length ≤ 1000000 ∧ y = .int b ∧ 0 ≤ b ∧ b ≤ xs.length ∧ Q .next loc (upd H2 l (.list (xs.take b.toNat)))) :
    TF prog c n k (exec (.Delete [.Subscript e (.Slice (some eu) none none p2) p] pos) c.env) loc H Q := fun B dp un s R G => by
  refine wpAny_Delete (wpAny_deleteEach_cons (wpAny_delete_Subscript (h.run K R G fun u x H1 s1 rx F q => wpAny_Slice ?_)))
  rw [evalPart_none, evalPart_some]
  refine q.run K R F.g fun v y H2 s2 ry F2 z0 => wpAny_pure (wpAny_pure ?_)
  obtain ⟨l, xs, b, e1, e2, e3, e4, e5, e6, q2⟩ := z0
  subst e1 e4
  obtain rfl := rx.invRef
  obtain ⟨t, rfl⟩ := ry.invInt
  obtain ⟨b, rfl⟩ := Int.eq_ofNat_of_zero_le e5
  have G3 := F2.g.push { cls := .type "slice", data := .fields #[.int b t, .none, .none] }
  obtain ⟨us, m, he, hr⟩ := (G3.obj _ _ e2).rep
  have hlen : us.size = xs.length := by simpa using hr.length
  refine delSlice_exact he (Heap.IsSliceOf.new ..) (by (first | lia | omega)) (by (first | lia | omega)) fun h' hn hs => ?_
  obtain ⟨m', hn⟩ := hn
  have G4 := G3.set (s' := { s2 with heap := h' }) (m' := .list (xs.take b)) e2 hs (fun kt => ⟨_, m', hn, by simpa using (RepL.mono kt hr).take b⟩) rfl rfl
  exact wpAny_deleteEach_nil ⟨.next, loc, _, .next, G4, by simpa using q2⟩
end
end Mine

namespace Mine
open PySem PySem.Calls PySem.Spec PyProof.Rows PySem.W

/-- what is known of a function of the text -/
structure FnOk (K : Frag) (f : Addr) (fd : FuncData) (body : List Stmt) (ps : List Str) : Prop where
  at' : ∃ o, K.lookup f = some o ∧ o.data = .func fd
  co : fd.scope.isCoroutine = false
  gen : fd.scope.isGenerator = false
  kind : fd.scope.kind = .function
  body : fd.body = .stmts body
  clos : fd.closure = []
  glob : fd.globals = mainGlobals
  blt : fd.builtins = builtinsNs
  code : ∃ c o vs t, fd.code = .ref c ∧ K.lookup c = some o ∧ o.data = .fields vs ∧ vs[1]? = some (.str fd.qualname t)
  nd : ((cellsFrom 0 fd.scope.names []).map (·.1)).Nodup
  kinds : ∀ p ∈ ps, fd.scope.names.lookup p = some .local ∨ fd.scope.names.lookup p = some .cell
/-- m arguments are bound, the rest by defaults -/
noncomputable def BindsD (K : Frag) (fd : FuncData) (ps : List Str) (ds : List Value) (m : Nat) : Prop := ∀ (s : Shared) (vs : List Value), K.In s.heap → vs.length = m → BindsTo s fd ⟨vs, []⟩ (ps.zip (vs ++ ds))
/-- the locals at a def's start -/
noncomputable def binds : List (Str × V) → Loc → Loc
  | [], l => l
  | (x, v) :: r, l => binds r (put l x v)
noncomputable def Cx.callee (c : Cx) (fd : FuncData) (L f : Addr) (X : Value → Shared → Prop) (lo : Heap) : Cx := { c with lo := lo, env := callEnvC fd L f, L := L, fr := callEnvC fd L f :: c.fr, X := X }
theorem cellsFrom_isSome {x : Str} (names : List (Str × NameKind)) (n : Nat) (h : names.lookup x = some .cell) : ((cellsFrom n names []).lookup x).isSome = true := cellsFrom_some names n [] (.inl h)
theorem pair_inj {l : List (Str × Addr)} (h : l.Pairwise fun x y => x.2 ≠ y.2) {x y : Str} {a : Addr} (h1 : l.lookup x = some a) (h2 : l.lookup y = some a) : x = y := by
  have m1 := lookup_mem h1
  have m2 := lookup_mem h2
  induction l with
  | nil => cases m1
  | cons p l ih =>
    rw [List.pairwise_cons] at h
    cases m1 with
    | head => cases m2 with
      | head => rfl
      | tail _ m2 => exact (h.1 (y, a) m2 rfl).elim
    | tail _ m1 => cases m2 with
      | head => exact (h.1 (x, a) m1 rfl).elim
      | tail _ m2 =>
        rw [List.lookup_cons] at h1 h2
        split at h1
        · cases h1; exact (h.1 (x, p.2) m1 rfl).elim
        · split at h2
          · cases h2; exact (h.1 (y, p.2) m2 rfl).elim
          · exact ih h.2 h1 h2 m1 m2
theorem binds_ok {h : Heap} {kindOf : Str → Option NameKind} : ∀ {ps : List Str} {vs : List Value} {xs : List V} {m cm : Str → Option Value} {l : Loc}, RepL h vs xs → (∀ p ∈ ps, kindOf p = some .local ∨ kindOf p = some .cell) →
    (∀ x v, l x = some v → (kindOf x = some .local ∧ ∃ u, m x = some u ∧ Rep h u v) ∨ (kindOf x = some .cell ∧ ∃ u, cm x = some u ∧ Rep h u v)) →
    ∀ x v, binds (ps.zip xs) l x = some v → (kindOf x = some .local ∧ ∃ u, bindL kindOf (ps.zip vs) m x = some u ∧ Rep h u v) ∨ (kindOf x = some .cell ∧ ∃ u, bindC kindOf (ps.zip vs) cm x = some u ∧ Rep h u v)
  | [], vs, xs, m, cm, l, r, hk, H, x, v, e => by simpa [binds, bindL, bindC] using H x v (by simpa [binds] using e)
  | p :: ps, _, _, m, cm, l, .nil, hk, H, x, v, e => by simpa [binds, bindL, bindC] using H x v (by simpa [binds] using e)
  | p :: ps, _, _, m, cm, l, .cons (v := u) (x := y) r rs, hk, H, x, v, e => by
    simp only [List.zip_cons_cons, binds, bindL, bindC] at e ⊢
    refine binds_ok rs (fun q hq => hk q (.tail _ hq)) (fun z w ez => ?_) x v e
    unfold put at ez
    by_cases hz : z = p
    · subst hz
      first | exact (no (if_pos rfl) ez).elim | exact (no ez (if_pos rfl)).elim | obtain rfl := so (if_pos rfl) ez | (rw [if_pos rfl] at ez; cases ez)
      rcases hk z (.head _) with q | q
      · exact .inl ⟨q, u, by rw [if_pos q, if_pos rfl], r⟩
      · exact .inr ⟨q, u, by rw [if_neg (by rw [q]; simp), if_pos rfl], r⟩
    · rw [if_neg hz] at ez
      rcases H z w ez with ⟨a, u', b, d⟩ | ⟨a, u', b, d⟩
      · refine .inl ⟨a, u', ?_, d⟩
        split
        · simpa [hz] using b
        · exact b
      · refine .inr ⟨a, u', ?_, d⟩
        split
        · exact b
        · simpa [hz] using b
section
variable {prog : Program} {c : Cx} {B : Heap} {loc loc' : Loc} {H H' : HM} {s s' : Shared} {n k dp un : Nat} {Q : QV}
theorem callee_frs (fd : FuncData) (L f : Addr) (X : Value → Shared → Prop) (lo : Heap) : (c.callee fd L f X lo).frs = L :: c.frs := rfl
theorem CxOk.callee (K : CxOk c) {fd : FuncData} {body : List Stmt} {ps : List Str} {f : Addr} {X : Value → Shared → Prop} {lo : Heap} (Fo : FnOk c.K f fd body ps) (G : Good prog c B loc H s) {m cm : Str → Option Value} {s1 : Shared}
    (x : InCallC s s.heap.objs.size m (callEnvC fd s.heap.objs.size f).cells cm s1) : CxOk (c.callee fd s.heap.objs.size f X lo) where
  kind := Fo.kind
  glob := Fo.glob
  blt := Fo.blt
  locals := rfl
  apart b hb := by
    rw [callee_frs] at hb
    cases hb with
    | head =>
      cases q : c.B0.get? s.heap.objs.size with
      | none => exact q
      | some o => exact absurd (Heap.lt_size (G.stat K _ o q)) (Nat.lt_irrefl _)
    | tail _ hb => exact K.apart b hb
  Lc h := by
    obtain ⟨p, hp, e⟩ := List.mem_map.mp h
    have := x.above p.1 p.2 hp
    rw [e] at this; exact Nat.lt_irrefl _ this
  inj y z a h1 h2 := pair_inj x.apart h1 h2
  newL := by
    cases q : c.B0.get? s.heap.objs.size with
    | none => exact q
    | some o => exact absurd (Heap.lt_size (G.stat K _ o q)) (Nat.lt_irrefl _)
  newC b h := by
    obtain ⟨p, hp, e⟩ := List.mem_map.mp h
    have := x.above p.1 p.2 hp
    rw [e] at this
    cases q : c.B0.get? b with
    | none => exact q
    | some o => exact absurd (Nat.lt_trans (Heap.lt_size (G.stat K _ o q)) this) (Nat.lt_irrefl _)
  nl := K.nl
  kin := K.kin
  sysm := K.sysm
  tab := K.tab
  above := by
    have := G.lLt
    exact Nat.le_trans K.above (Nat.le_of_lt this)
  each e he := by
    rcases List.mem_cons.mp (show e ∈ callEnvC fd s.heap.objs.size f :: c.fr from he) with rfl | he
    · exact ⟨by show fd.scope.kind ≠ _; rw [Fo.kind]; simp, s.heap.objs.size, rfl⟩
    · exact K.each e he
/-- what the callee may not touch -/
noncomputable def baseC (H : HM) (h : Heap) : Heap := hideAll h (domOf H h)
theorem baseC_get {H : HM} {h : Heap} {b : Addr} {o : Obj} (e : h.get? b = some o) (hH : H b = none) : (baseC H h).get? b = some o :=
  hideAll_get _ e fun q => (mem_dom e).mp q hH
theorem baseC_of {H : HM} {h : Heap} {b : Addr} {o : Obj} (e : (baseC H h).get? b = some o) : h.get? b = some o ∧ H b = none := by
  have h1 := of_hideAll _ e
  refine ⟨h1, ?_⟩
  cases q : H b with
  | none => rfl
  | some m =>
    have z := hideAll_none (h := h) (domOf H h) ((mem_dom h1).mpr (by rw [q]; simp))
    unfold baseC at e
    first | exact (no z e).elim | exact (no e z).elim | obtain rfl := so z e | (rw [z] at e; cases e)
theorem Good.intoCall (K : CxOk c) {fd : FuncData} {body : List Stmt} {ps : List Str} {f : Addr} {X : Value → Shared → Prop} (Fo : FnOk c.K f fd body ps) (G : Good prog c B loc H s) {vs : List Value} {xs : List V} (rs : RepL s.heap vs xs) {s1 : Shared}
    (x : InCallC s s.heap.objs.size (bindL (callEnvC fd s.heap.objs.size f).kindOf (ps.zip vs) fun _ => none) (callEnvC fd s.heap.objs.size f).cells (bindC (callEnvC fd s.heap.objs.size f).kindOf (ps.zip vs) fun _ => none) s1) :
    Good prog (c.callee fd s.heap.objs.size f X (baseC H s.heap)) (baseC H s.heap) (binds (ps.zip xs) fun _ => none) H s1 := by
  obtain ⟨h1, tk, e1, hk⟩ := x.done
  have hk1 : ∀ b o, s.heap.get? b = some o → s1.heap.get? b = some o := fun b o e => by rw [e1]; exact hk b o e
  have told : ∀ {b : Addr} {o : Obj}, B.get? b = some o → H b = none := fun {b o} e => by
    cases q : H b with
    | none => rfl
    | some m => have := (G.obj b m q).nb; first | exact (no e this).elim | exact (no this e).elim | obtain rfl := so e this | (rw [e] at this; cases this)
  exact {
    sub := fun b o e => baseC_get (G.stat K b o e) (told (G.sub b o e))
    lo := fun b o e => ⟨fun _ => e, fun _ => ⟨o.slots, e⟩⟩
    kp := fun b o e _ => hk1 b o (baseC_of e).1
    ks := fun b o e _ => ⟨o.slots, hk1 b o (baseC_of e).1⟩
    apart := fun b hb => by
      cases q : (baseC H s.heap).get? b with
      | none => rfl
      | some o =>
        have hlt := Heap.lt_size (baseC_of q).1
        rcases hb with hb | hb
        · rw [hb] at hlt; exact absurd hlt (Nat.lt_irrefl _)
        · obtain ⟨p, hp, e⟩ := List.mem_map.mp hb
          have := x.above p.1 p.2 hp
          rw [e] at this
          exact absurd (Nat.lt_trans hlt this) (Nat.lt_irrefl _)
    obj := fun a m e => by
      obtain ⟨_, h2, _, _, h5⟩ := G.obj a m e
      have hlt := G.lt e
      refine ⟨?_, ?_, Nat.ne_of_lt hlt, fun q => ?_, h5.mono (Kt.of_keeps hk1) fun o => hk1 a o⟩
      · cases q : (baseC H s.heap).get? a with
        | none => rfl
        | some o => have := (baseC_of q).2; first | exact (no e this).elim | exact (no this e).elim | obtain rfl := so e this | (rw [e] at this; cases this)
      · rw [callee_frs]
        intro q
        cases q with
        | head => exact Nat.lt_irrefl _ hlt
        | tail _ q => exact h2 q
      · obtain ⟨p, hp, e⟩ := List.mem_map.mp q
        have := x.above p.1 p.2 hp
        rw [e] at this
        exact absurd (Nat.lt_trans hlt this) (Nat.lt_irrefl _)
    loc := {
      ns := ⟨_, x.toInCall.ns, fun y v e => by
        have hkd : ∀ p ∈ ps, (callEnvC fd s.heap.objs.size f).kindOf p = some .local ∨ (callEnvC fd s.heap.objs.size f).kindOf p = some .cell := Fo.kinds
        rcases binds_ok (RepL.mono (Kt.of_keeps hk1) rs) hkd (m := fun _ => none) (cm := fun _ => none) (fun _ _ q => by cases q) y v e with ⟨a, u, b, d⟩ | ⟨a, u, b, d⟩
        · exact .inl ⟨a, u, b, d⟩
        · obtain ⟨ad, had⟩ := Option.isSome_iff_exists.mp (cellsFrom_isSome fd.scope.names (s.heap.objs.size + 1) a)
          exact .inr ⟨a, ad, u, had, b ▸ x.cell y ad had, d⟩⟩
      cl := fun a ha => by
        obtain ⟨p, hp, e⟩ := List.mem_map.mp ha
        have hl := lookup_of_mem_nodup (n := p.1) (c := p.2) (cellsFrom_names fd.scope.names 0 (s.heap.objs.size + 1) [] [] rfl ▸ Fo.nd) hp
        exact ⟨_, e ▸ x.cell p.1 p.2 hl⟩ }
    gens := by rw [e1]; exact G.gens
    os := by rw [e1]; exact G.os
    fr := fun b hb => by
      rw [callee_frs] at hb
      cases hb with
      | head =>
        obtain ⟨o, es, ep, e, d, _⟩ := x.toInCall.ns
        exact ⟨o, es, ep, e, d⟩
      | tail _ hb =>
        obtain ⟨o, es, ep, e, d⟩ := G.fr b hb
        exact ⟨o, es, ep, hk1 _ _ e, d⟩ }
theorem Good.outCall {fd : FuncData} {f : Addr} {X : Value → Shared → Prop} {locC : Loc} (G : Good prog c B loc H s) (G' : Good prog (c.callee fd s.heap.objs.size f X (baseC H s.heap)) (baseC H s.heap) locC H' s') : Good prog c B loc H' s' := by
  have told : ∀ {b : Addr} {o : Obj}, B.get? b = some o → H b = none := fun {b o} e => by
    cases q : H b with
    | none => rfl
    | some m => have := (G.obj b m q).nb; first | exact (no e this).elim | exact (no this e).elim | obtain rfl := so e this | (rw [e] at this; cases this)
  have hHL : H c.L = none := by
    cases q : H c.L with
    | none => rfl
    | some m => exact absurd rfl (G.obj _ m q).nL
  have hHC : ∀ a ∈ c.cells, H a = none := fun a ha => by
    cases q : H a with
    | none => rfl
    | some m => exact absurd ha (G.obj _ m q).nC
  obtain ⟨mL, hnL, hl⟩ := G.loc.ns
  obtain ⟨oL, esL, epL, eL, dL, rL⟩ := id hnL
  have kt : Kt s.heap s'.heap := fun a vs t => by
    obtain ⟨h1, h2, h3⟩ := G.tupApart t
    obtain ⟨o, ho, hc, m, hd⟩ := t
    obtain ⟨sl, hs⟩ := G'.ks a o (baseC_get ho h1) fun ws q => by first | exact (no q hd).elim | exact (no hd q).elim | obtain rfl := so q hd | (rw [q] at hd; cases hd)
    exact ⟨_, hs, hc, m, hd⟩
  have cellK : ∀ {a : Addr} {v : Option Value}, a ∈ c.cells → s.heap.IsCell a v → s'.heap.IsCell a v := fun {a v} ha z0 => by
    obtain ⟨o, ho, hd⟩ := z0
    obtain ⟨sl, hs⟩ := G'.ks a o (baseC_get ho (hHC a ha)) fun ws q => by first | exact (no q hd).elim | exact (no hd q).elim | obtain rfl := so q hd | (rw [q] at hd; cases hd)
    exact ⟨_, hs, hd⟩
  exact {
    sub := G.sub
    lo := G.lo
    kp := fun b o e hb => by
      have e1 := G.kp b o e hb
      refine G'.kp b o (baseC_get e1 (told e)) ?_
      rw [callee_frs]
      intro q
      cases q with
      | head => exact Nat.lt_irrefl _ (Heap.lt_size e1)
      | tail _ q => exact hb q
    ks := fun b o e hn => by
      obtain ⟨sl, z⟩ := G.ks b o e hn
      obtain ⟨sl', z'⟩ := G'.ks b _ (baseC_get z (told e)) hn
      exact ⟨sl', z'⟩
    apart := G.apart
    obj := fun a m e => by
      obtain ⟨h1, h2, h3, h4, h5⟩ := G'.obj a m e
      rw [callee_frs] at h2
      refine ⟨?_, fun q => h2 (.tail _ q), ?_, fun q => ?_, h5⟩
      · cases q : B.get? a with
        | none => rfl
        | some o =>
          exfalso
          have := baseC_get (G.kp a o q fun q => h2 (.tail _ q)) (told q)
          first | exact (no h1 this).elim | exact (no this h1).elim | obtain rfl := so h1 this | (rw [h1] at this; cases this)
      · rintro rfl
        have := baseC_get eL hHL
        first | exact (no h1 this).elim | exact (no this h1).elim | obtain rfl := so h1 this | (rw [h1] at this; cases this)
      · obtain ⟨v, o, ho, _⟩ := G.loc.cl a q
        have := baseC_get ho (hHC a q)
        first | exact (no h1 this).elim | exact (no this h1).elim | obtain rfl := so h1 this | (rw [h1] at this; cases this)
    loc := {
      ns := by
        obtain ⟨sl, z⟩ := G'.ks c.L oL (baseC_get eL hHL) fun vs q => by first | exact (no dL q).elim | exact (no q dL).elim | obtain rfl := so dL q | (rw [dL] at q; cases q)
        refine ⟨mL, ⟨_, esL, epL, z, dL, rL⟩, fun y v e => ?_⟩
        rcases hl y v e with ⟨hk', u, hu, hr⟩ | ⟨hk', a, u, hc, hi, hr⟩
        · exact .inl ⟨hk', u, hu, Rep.mono kt hr⟩
        · exact .inr ⟨hk', a, u, hc, cellK (cell_mem hc) hi, Rep.mono kt hr⟩
      cl := fun a ha => by
        obtain ⟨v, hv⟩ := G.loc.cl a ha
        exact ⟨v, cellK ha hv⟩ }
    gens := G'.gens
    os := G'.os
    fr := fun b hb => G'.fr b (by rw [callee_frs]; exact .tail _ hb) }
/-- a contract, for the code itself -/
noncomputable def CC (prog : Program) (T : Tab) (n : Nat) (f : Value) (args : List V) (H : HM) (Q : QV) : Prop :=
  ∀ c : Cx, CxOk c → c.T = T → ∀ k B loc dp un s vs (RR : Result → Shared → Prop), Room n k dp un → Good prog c B loc H s → RepL s.heap vs args →
    (∀ v s' r H', Rep s'.heap v r → Good prog c B loc H' s' → Q r H' → RR (.ok (.ret v)) s') → (∀ e s', c.X e s' → RR (.error e) s') →
    codeAny (model prog c.w) (c.A dp un) (.call f ⟨vs, []⟩) RR s
theorem CC.cw {T : Tab} {f : Value} {args : List V} (h : CC prog T n f args H Q) : CW prog T n f args H Q := fun c K hT k B loc dp un s vs R G rs =>
  wpAny_call (h c K hT k B loc dp un s vs _ R G rs (fun v s' r H' a b q => ⟨r, H', a, b, q⟩) fun _ _ x => x)
/-- a def's contract from its body -/
theorem cc_of {T : Tab} {f : Addr} {fd : FuncData} {body : List Stmt} {ps : List Str} (Fo : FnOk T.frag f fd body ps) {args dargs : List V} {ds : List Value} (hds : ∀ h, RepL h ds dargs) (hb : BindsD T.frag fd ps ds args.length)
    (h : ∀ c, CxOk c → c.T = T → c.env.scope = fd.scope → c.env.cells.map (·.1) = (cellsFrom 0 fd.scope.names []).map (·.1) → TF prog c n 0 (execs body c.env) (binds (ps.zip (args ++ dargs)) fun _ => none) H fun r _ H' => match r with | .ret v => Q v H' | _ => Q .none H') :
    CC prog T (n + 1) (.ref f) args H Q := fun c K hT k B loc dp un s vs RR R G rs hR hX => by
  subst hT
  rw [K.tab.frag] at Fo hb
  obtain ⟨o, ho, hd⟩ := Fo.at'
  have hin : c.K.In s.heap := K.kin.keeps (G.stat K)
  have hcode : s.heap.CodeRec fd.code fd.qualname := by
    obtain ⟨a, oc, fs, t, e1, e2, e3, e4⟩ := Fo.code
    exact ⟨a, oc, fs, t, e1, hin a oc e2, e3, e4⟩
  have rs' : RepL s.heap (vs ++ ds) (args ++ dargs) := rs.append (hds _)
  refine codeAny_call_function (R.depth) (hin f o ho) hd Fo.co Fo.gen Fo.body hcode (hb s vs hin rs.length _ _ _ _ ?_)
  rw [Fo.clos, Fo.glob, Fo.blt]
  have hkd : ∀ y ∈ ps.zip (vs ++ ds), fd.scope.names.lookup y.1 = some .local ∨ (fd.scope.names.lookup y.1 = some .cell ∧ ((cellsFrom (s.heap.objs.size + 1) fd.scope.names []).lookup y.1).isSome = true) := fun y hy => by
    obtain ⟨a, b⟩ := y
    rcases Fo.kinds a (List.of_mem_zip hy).1 with q | q
    · exact .inl q
    · exact .inr ⟨q, cellsFrom_isSome _ _ q⟩
  refine wpAny_newFunctionEnv_cells Fo.kind hkd fun env he s1 x => ?_
  have he' : env = callEnvC fd s.heap.objs.size f := by
    rw [he]; unfold callEnvC; rw [Fo.glob, Fo.blt]
  subst he'
  have G1 := fun X => Good.intoCall (X := X) K Fo G rs' x
  have K1 := fun X => K.callee (X := X) (lo := baseC H s.heap) Fo G x
  refine ⟨K.nl.keeps ((G1 fun _ _ => True).stat (K1 fun _ _ => True)), codeAny_func ?_⟩
  have R1 : Room n 0 (dp + 1) (un + 3) := by obtain ⟨r1, r2, r3⟩ := R; exact ⟨by (first | lia | omega), by (first | lia | omega), by (first | lia | omega)⟩
  let X : Value → Shared → Prop := fun e s' => wpAny (model prog c.w) ((c.A dp un).deeper (callEnvC fd s.heap.objs.size f)) (leaving (callEnvC fd s.heap.objs.size f) e) (fun _ s'' => RR (.error e) s'') (fun e' s'' => RR (.error e') s'') s'
  refine TF.run (c := c.callee fd s.heap.objs.size f X (baseC H s.heap)) (h _ (K1 X) rfl rfl (cellsFrom_names fd.scope.names _ 0 [] [] rfl)) (K1 X) R1 (G1 X) fun fl r loc2 H2 s2 rf F q => ?_
  have G2 := Good.outCall G F.g
  induction rf with
  | ret rv => exact hR _ _ _ H2 rv G2 q
  | next => exact hR _ _ _ H2 .none G2 q
  | brk => exact hR _ _ _ H2 .none G2 q
  | cont => exact hR _ _ _ H2 .none G2 q
theorem under_call (A : Around) (C : Addr) (l : List Value) : A.under (.builtin "type.__call__" ⟨.ref C :: l, []⟩) = { A with depth := A.depth + 1, units := A.units + 1 } := by
  have h1 : (Code.builtin "type.__call__" ⟨.ref C :: l, []⟩).weight = 1 := by rfl
  have h2 : pushEnvs (Code.builtin "type.__call__" ⟨.ref C :: l, []⟩).envs A.frames = A.frames := by cases A.frames <;> rfl
  have h3 : pushGuards (Code.builtin "type.__call__" ⟨.ref C :: l, []⟩).guards A.guards = A.guards := by cases A.guards <;> rfl
  have h4 : (Code.builtin "type.__call__" ⟨.ref C :: l, []⟩).cUnits = 1 := by rfl
  unfold Around.under
  rw [h1, h2, h3, h4]
/-- an object is made -/
theorem cc_make {T : Tab} {C fI : Addr} (hC : T.cls C = some fI) {args : List V} (h : ∀ x dx, H x = none → H dx = none → x ≠ dx → CC prog T n (.ref fI) (.ref x :: args) (upd (upd H dx (.attrs [])) x (.inst C dx)) fun r H' => r = .none ∧ Q (.ref x) H') :
    CC prog T (n + 1) (.ref C) args H Q := fun c K hT k B loc dp un s vs RR R G rs hR hX => by
  subst hT
  obtain ⟨h1, h2, h3, h4⟩ := K.tab.cls C fI hC
  have hin : c.K.In s.heap := K.kin.keeps (G.stat K)
  obtain ⟨hh, g, d, t, os⟩ := s
  refine make_core (makes_of hin h1) (looks_findIn hin h2) (fun self => bind_fn hin self (beq_iff_eq.mp h3)) (.inl rfl) ?_
  rw [under_call]
  have G1 : Good prog c B loc (upd H hh.objs.size (.attrs [])) ⟨hh.push emptyDict, g, d, t, os⟩ := G.new (o := emptyDict) (m := .attrs []) ⟨[], 0, Heap.get?_push_size _ rfl, .nil, by simp⟩
  have G2 := G1.new (o := instObj C hh.objs.size) (m := .inst C hh.objs.size) (Heap.get?_push_size _ rfl)
  have e1 : (hh.push emptyDict).objs.size = hh.objs.size + 1 := Heap.size_push _ _
  rw [e1] at G2
  have hx : H (hh.objs.size + 1) = none := by
    have := G1.newNone
    rw [e1] at this
    unfold upd at this
    rwa [if_neg (Nat.succ_ne_self _)] at this
  have R1 : Room n k (dp + 1) (un + 1) := by obtain ⟨r1, r2, r3⟩ := R; exact ⟨by (first | lia | omega), by (first | lia | omega), r3⟩
  refine h (hh.objs.size + 1) hh.objs.size hx G.newNone (Nat.succ_ne_self _) c K rfl k B loc (dp + 1) (un + 1) _ _ _ R1 G2 (.cons (.ref _) (RepL.mono (Kt.of_keeps fun b o e => Heap.get?_push_of_some _ (Heap.get?_push_of_some _ e)) rs)) (fun v s' r H' rv G' ⟨e, q⟩ => ?_) fun e s' x => hX e s' x
  subst e
  have : v = .none := by cases rv; rfl
  subst this
  exact ⟨rfl, hR _ _ _ H' (.ref _) G' q⟩
end
end Mine

namespace Mine
open PySem PySem.Calls PySem.Spec PyProof.Rows PySem.W

-- an exception of an own class whose mother is own too, with an own __init__
section
variable {prog : Program} {w : World} {A : Around} {E : Value → Shared → Prop} {h : Heap} {g : Array GenState} {d : Drawn} {t : Nat} {os : OsState}
variable {nm q : Str} {C N : Addr} {bs bm bmB : List Value} {hdct : Bool} {sn : List Str} {sub : List Value} {ab : Bool} {col : Option Bool} {dd : Option Addr} {k0 k1 k2 k3 k5 : Option Value} {B Bn newId nid initId inN : String} {bmN : List Value}
theorem exc_made (Fn : ExcBaseFacts Bn newId inN bmN) (hBn : bmB.contains (.type Bn) = true) (F : ExcBaseFacts B nid initId bmB) (T : OwnTail h bmB bm) {mN : Str → Option Value} {rest : List Value} {fI : Addr} {oI : Obj} {Q : Value → Shared → Prop}
    (hC : h.get? C = some (excClassObj nm q C N bs bm hdct sn sub ab col dd k0 k1 k2 k3 k5 newId)) (hn : h.Ns N mN) (hi : mN "__init__" = some (.ref fI))
    (hfI : h.get? fI = some oI) (hfc : oI.cls = .type "function") (hrest : rest.length ≤ sizeLine)
    (hq : ∀ h' e, Heap.MadeExcOf h h' e (.ref C) rest →
      wpAny (model prog w) (A.under (.builtin "type.__call__" ⟨.ref C :: rest, []⟩)) (call (.ref fI) (.ref e :: rest)) (fun r s' => r = .none ∧ Q (.ref e) s') E ⟨h', g, d, t, os⟩) :
    wpAny (model prog w) A (call (.ref C) rest) Q E ⟨h, g, d, t, os⟩ := by
  have f1 := tc_lookup
  have f2 := tc_bind (.ref C)
  have hT : (⟨h, g, d, t, os⟩ : Shared).TypeIs (.ref C) "type" := ⟨_, hC, rfl⟩
  refine wpAny_call (codeAny_of_tree ?_)
  show wpAny _ _ (callAny (.ref C) _) _ _ _
  repeat (any_goals (first | assumption | with_reducible refine wpAny_loadPart_at hC ?_ | wp_step))
  refine ⟨rfl, ?_⟩
  refine codeAny_call_builtin_at (Code.quiet_builtin _ (by decide +kernel)) entry_typeCall (wpAny_check_type_call_sub hC ?_)
  repeat (first | with_reducible refine wpAny_loadPart_at hC ?_ | with_reducible refine wpAny_madeBy_exc hC ?_ | wp_step)
  refine codeAny_call_builtin_code (Code.quiet_builtin _ Fn.quiet) (wpAny_check_new_subU Fn hBn T hC ?_)
  refine codeAny_exc_new_subU Fn hBn F T hC ?_ hrest
  show wpAny _ _ _ _ _ _
  have k : ∀ b o, h.get? b = some o → ((h.push { cls := .type "tuple", data := .seq rest.toArray }).push { cls := .ref C, data := .fields #[.ref h.objs.size, .none, .none, .none, .bool false, .none] }).get? b = some o :=
    fun b o e => Heap.get?_push_of_some _ (Heap.get?_push_of_some _ e)
  have hC₁ := k _ _ hC
  have hfI₁ := k _ _ hfI
  have hn₁ := hn.keeps k
  have hget : ((h.push { cls := .type "tuple", data := .seq rest.toArray }).push
      { cls := .ref C, data := .fields #[.ref h.objs.size, .none, .none, .none, .bool false, .none] }).get? (h.objs.size + 1) = some
      { cls := .ref C, data := .fields #[.ref h.objs.size, .none, .none, .none, .bool false, .none] } := by heap_get
  have hcC : (Value.ref C :: bm).contains (.ref C) = true := by simp
  have T₁ := T.keeps k
  unfold isInstance
  repeat (first | with_reducible refine wpAny_loadPart_at hget ?_ | (with_reducible refine wpAny_isSubtype_exc hC₁ ?_; rw [hcC]) | wp_step)
  refine wpAny_isSubtype_exc hC₁ ?_
  rw [hcC]
  repeat (first | with_reducible refine wpAny_loadPart_at hget ?_ | wp_step)
  show wpAny _ _ (typeLookup (.ref C) _) _ _ _
  refine wpAny_typeLookup_tail hC₁ hn₁ T₁ F.mroIs F.init.lookup ?_
  rw [hi]
  refine wpAny_holding (wpAny_bind ?_)
  unfold bindSpecial
  refine wpAny_bind (wpAny_typeOf (T := "function") ⟨_, hfI₁, hfc⟩ ?_)
  rw [if_pos (by decide)]
  refine wpAny_pure (wpAny_bind (wpAny_mono (hq _ (h.objs.size + 1) ⟨k, Heap.get?_none_of_le (Nat.le_succ _), h.objs.size, hget, Heap.get?_none_of_le (Nat.le_refl _), ?_⟩) (fun r s' hr => ?_) fun _ _ x => x))
  · exact Heap.get?_push_of_some _ (Heap.get?_push_at rfl rfl)
  · obtain ⟨rfl, hQ⟩ := hr
    wp_walk
    exact hQ
end
end Mine

namespace Mine
open PySem PySem.Calls PySem.Spec PyProof.Rows PySem.W

/-- the frames stand as a def's frames do: the block's own is the first -/
structure FF (c : Cx) : Prop where
  frame : c.env.frame = some c.L
  head : ∃ outer, c.fr = c.env :: outer
  each : ∀ e ∈ c.fr, e.scope.kind ≠ .module ∧ ∃ L, e.frame = some L
/-- an exception is told, with its traceback -/
noncomputable def ExcIn (H : HM) (a C : Addr) (d tb : Option Addr) : Prop := H a = some (.exc C d tb) ∧ ∀ T, tb = some T → T ≠ a ∧ ∃ fl, H T = some (.tb fl)
/-- only the exception and tracebacks have changed -/
noncomputable def ExcStep (a : Addr) (H H' : HM) : Prop := ∀ b m, b ≠ a → (∀ fl, m ≠ .tb fl) → H b = some m → H' b = some m
theorem ExcStep.refl (a : Addr) (H : HM) : ExcStep a H H := fun _ _ _ _ e => e
theorem ExcStep.trans {a : Addr} {H₁ H₂ H₃ : HM} (x : ExcStep a H₁ H₂) (y : ExcStep a H₂ H₃) : ExcStep a H₁ H₃ := fun b m h1 h2 e => y b m h1 h2 (x b m h1 h2 e)
section
variable {prog : Program} {c : Cx} {B : Heap} {loc : Loc} {H : HM} {s s' : Shared} {n k dp un : Nat}
theorem Good.slots (G : Good prog c B loc H s) {h' : Heap} (hs : Heap.SlotsOnly c.frs s.heap h') : Good prog c B loc H { s with heap := h' } := by
  obtain ⟨_, h2, h3⟩ := hs
  have kt : Kt s.heap h' := fun b vs z0 => by
    obtain ⟨o, ho, hc, m, hd⟩ := z0
    obtain ⟨sl, e⟩ := h3 b o ho
    exact ⟨_, e, hc, m, hd⟩
  have cell : ∀ {a : Addr} {v : Option Value}, s.heap.IsCell a v → h'.IsCell a v := fun {a v} z0 => by
    obtain ⟨o, ho, hd⟩ := z0
    obtain ⟨sl, e⟩ := h3 a o ho
    exact ⟨_, e, hd⟩
  exact {
    sub := G.sub
    lo := G.lo
    kp := fun b o e hb => (h2 b hb).trans (G.kp b o e hb)
    ks := fun b o e hn => by
      obtain ⟨sl, z⟩ := G.ks b o e hn
      obtain ⟨sl', z'⟩ := h3 b _ z
      exact ⟨sl', z'⟩
    apart := G.apart
    obj := fun a m e => by
      obtain ⟨a1, a2, a3, a4, a5⟩ := G.obj a m e
      exact ⟨a1, a2, a3, a4, a5.mono kt fun o z => (h2 a a2).trans z⟩
    loc := {
      ns := by
        obtain ⟨m, ⟨o, es, ep, e, d, r⟩, hm⟩ := G.loc.ns
        obtain ⟨sl, z⟩ := h3 _ o e
        refine ⟨m, ⟨_, es, ep, z, d, r⟩, fun x v e => ?_⟩
        rcases hm x v e with ⟨b, u, f, q⟩ | ⟨b, a, u, f, g, q⟩
        · exact .inl ⟨b, u, f, Rep.mono kt q⟩
        · exact .inr ⟨b, a, u, f, cell g, Rep.mono kt q⟩
      cl := fun a ha => let ⟨v, z⟩ := G.loc.cl a ha; ⟨v, cell z⟩ }
    gens := G.gens
    os := G.os
    fr := fun b hb => by
      obtain ⟨o, es, m, e, d⟩ := G.fr b hb
      obtain ⟨sl, z⟩ := h3 b o e
      exact ⟨_, es, m, z, d⟩ }
theorem Good.funFrames (G : Good prog c B loc H s) (K : CxOk c) (f : FF c) : s.heap.FunFrames c.B0 c.fr := by
  have key : ∀ {l : List Env}, (∀ e ∈ l, e.scope.kind ≠ .module ∧ ∃ L, e.frame = some L) → (∀ e ∈ l, ∀ L, e.frame = some L → L ∈ c.frs) → s.heap.FunFrames c.B0 l := by
    intro l
    induction l with
    | nil => intro _ _; trivial
    | cons e l ih =>
      intro h1 h2
      obtain ⟨hk, L, hL⟩ := h1 e (.head _)
      have hm := h2 e (.head _) L hL
      obtain ⟨o, es, m, he, hd⟩ := G.fr L hm
      exact ⟨hk, ⟨L, o, hL, K.apart L hm, he, fun vs q => by first | exact (no hd q).elim | exact (no q hd).elim | obtain rfl := so hd q | (rw [hd] at q; cases q)⟩, ih (fun x hx => h1 x (.tail _ hx)) fun x hx => h2 x (.tail _ hx)⟩
  exact key f.each fun e he L hL => List.mem_filterMap.mpr ⟨e, he, hL⟩
/-- a field of a told record is set -/
theorem Good.setTb (G : Good prog c B loc H s) {T : Addr} {fl fl' : Value} (e : H T = some (.tb fl)) : Good prog c B loc (upd H T (.tb fl')) { s with heap := s.heap.update T (Obj.mapFields (·.setIfInBounds 3 fl')) } := by
  obtain ⟨o, ts, he, hc, hd, h3⟩ := (G.obj _ _ e).rep
  have hsz : 3 < ts.size := (Array.getElem?_eq_some_iff.mp h3).1
  have hd' := Obj.data_mapFields hd (·.setIfInBounds 3 fl')
  exact G.set (m' := .tb fl') e (Heap.SameBut.update ..) (fun kt => ⟨_, _, Heap.get?_update_self _ he (Obj.isFreed_of_fields hd'), (Obj.cls_mapFields ..).trans hc, hd', by simp [hsz]⟩) rfl rfl
theorem op_newEntry (K : CxOk c) (f : FF c) (G : Good prog c B loc H s) {a C : Addr} {d tb : Option Addr} (ha : H a = some (.exc C d tb)) {head : Value} {hadNext : Bool} {E : Value → Shared → Prop} {P : Unit → Shared → Prop}
    (hP : ∀ s' T, H T = none → T ≠ a → Good prog c B loc (upd (upd H T (.tb (rawInt c.L))) a (.exc C d (some T))) s' → P () s') :
    wpAny (model prog c.w) (c.A dp un) (do let x ← frameOf c.env; let pl ← entryPlaceOf c.L hadNext; let b ← EntryCells.newEntry head x .none (rawInt c.L) .none pl; setField (.ref a) 1 b) P E s := by
  obtain ⟨outer, ho⟩ := f.head
  refine wpAny_bind (wpAny_frameOf_fun (base := c.B0) (outer := outer) (by show some c.fr = _; rw [ho]) (by rw [← ho]; exact G.funFrames K f) f.frame fun h₁ hs₁ => ?_)
  rw [← ho] at hs₁
  have G1 := G.slots hs₁
  refine wpAny_bind (wpAny_entryPlaceOf fun pl hpl => ?_)
  unfold EntryCells.newEntry newFields
  refine wpAny_bind (wpAny_newObj_type ?_ (hpl.sizeOk5 _ _ _ _ _))
  have hT : H h₁.objs.size = none := G1.newNone
  have hTa : h₁.objs.size ≠ a := fun q => by rw [q, ha] at hT; cases hT
  have G2 := G1.new (o := { cls := .type "traceback", dict := none, data := .fields ([head, .ref c.L, .none, rawInt c.L, .none] ++ (if pl.isEmpty then List.replicate 6 Value.none else pl)).toArray }) (m := .tb (rawInt c.L))
    ⟨_, _, Heap.get?_push_size _ rfl, rfl, rfl, by simp⟩
  have e2 : (upd H h₁.objs.size (.tb (rawInt c.L))) a = some (.exc C d tb) := by unfold upd; rw [if_neg (Ne.symm hTa)]; exact ha
  obtain ⟨oe, vs, he, hc, hdi, hd, hsz, h1⟩ := (G2.obj _ _ e2).rep
  have hd' := Obj.data_mapFields hd (·.setIfInBounds 1 (Value.ref h₁.objs.size))
  refine wpAny_setField he hd (by (first | lia | omega)) (hP _ h₁.objs.size hT hTa ?_)
  refine G2.set (m' := .exc C d (some h₁.objs.size)) e2 (Heap.SameBut.update ..) (fun kt => ⟨_, _, Heap.get?_update_self _ he (Obj.isFreed_of_fields hd'), (Obj.cls_mapFields ..).trans hc, ?_, hd', by simp [hsz], by simp [hsz]⟩) rfl rfl
  rw [← hdi]
  obtain ⟨oc, odi, od, os⟩ := oe
  simp only at hd
  subst hd
  rfl
theorem op_noteFrame (K : CxOk c) (f : FF c) (G : Good prog c B loc H s) {a C : Addr} {d tb : Option Addr} (ha : ExcIn H a C d tb) {E : Value → Shared → Prop} {P : Unit → Shared → Prop}
    (hP : ∀ s' H' T, Good prog c B loc H' s' → ExcStep a H H' → ExcIn H' a C d (some T) → H' T = some (.tb (rawInt c.L)) → P () s') :
    wpAny (model prog c.w) (c.A dp un) (noteFrame (.ref a) c.env) P E s := by
  obtain ⟨h0, htb⟩ := ha
  obtain ⟨oe, vs, he, hc, hdi, hd, hsz, h1⟩ := (G.obj _ _ h0).rep
  have fin : ∀ {H₁ : HM} {s₁ : Shared} {T : Addr} {tb' : Option Addr}, ExcStep a H H₁ → H₁ T = none → T ≠ a → Good prog c B loc (upd (upd H₁ T (.tb (rawInt c.L))) a (.exc C d (some T))) s₁ → P () s₁ := fun {H₁ s₁ T tb'} st hT hTa G' => by
    refine hP s₁ _ T G' (fun b m hb hm e => ?_) ⟨by unfold upd; rw [if_pos rfl], fun T' e => ?_⟩ (by unfold upd; rw [if_neg hTa, if_pos rfl])
    · have := st b m hb hm e
      unfold upd
      rw [if_neg hb]
      by_cases q : b = T
      · subst q; first | exact (no hT this).elim | exact (no this hT).elim | obtain rfl := so hT this | (rw [hT] at this; cases this)
      · rw [if_neg q]; exact this
    · cases e
      exact ⟨hTa, rawInt c.L, by unfold upd; rw [if_neg hTa, if_pos rfl]⟩
  unfold noteFrame
  simp only [f.frame]
  refine wpAny_bind (wpAny_field he hd h1 ?_)
  cases tb with
  | none =>
    rw [if_neg (by decide)]
    exact op_newEntry K f G h0 fun s' T hT hTa G' => fin (tb' := none) (ExcStep.refl _ _) hT hTa G'
  | some T₀ =>
    obtain ⟨hT₀, fl, hfl⟩ := htb T₀ rfl
    obtain ⟨oT, ts, heT, hcT, hdT, h3⟩ := (G.obj _ _ hfl).rep
    show wpAny _ _ (if (Value.ref T₀ != Value.none) = true then _ else _) _ _ _
    rw [if_pos (show (Value.ref T₀ != Value.none) = true from by simp)]
    refine wpAny_bind (wpAny_field heT hdT h3 ?_)
    by_cases q : (fl == rawInt c.L) = true
    · rw [if_pos q]
      have q' : fl = rawInt c.L := by simpa using q
      subst q'
      exact wpAny_pure (hP s H T₀ G (ExcStep.refl _ _) ⟨h0, fun T e => by cases e; exact ⟨hT₀, _, hfl⟩⟩ hfl)
    · rw [if_neg q]
      refine wpAny_bind (wpAny_setField heT hdT (Array.getElem?_eq_some_iff.mp h3).1 ?_)
      have G1 := G.setTb (fl' := .none) hfl
      have h0' : (upd H T₀ (.tb .none)) a = some (.exc C d (some T₀)) := by unfold upd; rw [if_neg (Ne.symm hT₀)]; exact h0
      refine op_newEntry K f G1 h0' fun s' T hT hTa G' => fin (tb' := none) (fun b m hb hm e => ?_) hT hTa G'
      unfold upd
      by_cases z : b = T₀
      · subst z; (first | exact (no hfl e).elim | exact (no e hfl).elim | obtain rfl := so hfl e | (rw [hfl] at e; cases e)); exact absurd rfl (hm _)
      · rw [if_neg z]; exact e
theorem op_setFlight (G : Good prog c B loc H s) {a C : Addr} {d tb : Option Addr} (ha : ExcIn H a C d tb) {fr : Option Addr} {A : Around} {E : Value → Shared → Prop} {P : Unit → Shared → Prop}
    (hP : ∀ s' H', Good prog c B loc H' s' → ExcStep a H H' → ExcIn H' a C d tb → P () s') :
    wpAny (model prog c.w) A (setFlight (.ref a) fr) P E s := by
  obtain ⟨h0, htb⟩ := ha
  obtain ⟨oe, vs, he, hc, hdi, hd, hsz, h1⟩ := (G.obj _ _ h0).rep
  unfold setFlight
  refine wpAny_bind (wpAny_field he hd h1 ?_)
  cases tb with
  | none =>
    rw [if_neg (by decide)]
    exact wpAny_pure (hP s H G (ExcStep.refl _ _) ⟨h0, htb⟩)
  | some T₀ =>
    obtain ⟨hT₀, fl, hfl⟩ := htb T₀ rfl
    obtain ⟨oT, ts, heT, hcT, hdT, h3⟩ := (G.obj _ _ hfl).rep
    show wpAny _ _ (if (Value.ref T₀ != Value.none) = true then _ else _) _ _ _
    rw [if_pos (show (Value.ref T₀ != Value.none) = true from by simp)]
    refine wpAny_setField heT hdT (Array.getElem?_eq_some_iff.mp h3).1 (hP _ _ (G.setTb hfl) (fun b m hb hm e => ?_) ⟨?_, fun T e => ?_⟩)
    · unfold upd
      by_cases z : b = T₀
      · subst z; (first | exact (no hfl e).elim | exact (no e hfl).elim | obtain rfl := so hfl e | (rw [hfl] at e; cases e)); exact absurd rfl (hm _)
      · rw [if_neg z]; exact e
    · unfold upd; rw [if_neg (Ne.symm hT₀)]; exact h0
    · cases e
      exact ⟨hT₀, _, by unfold upd; rw [if_pos rfl]⟩
end
end Mine

namespace Mine
open PySem PySem.Calls PySem.Spec PyProof.Rows PySem.W

theorem refuse_exc (self : Value) : refuseLoop self "__setattr__" [.type "Exception", .type "BaseException", .type "object"] = pure () := by kernel_rfl
section
variable {prog : Program} {c : Cx} {B : Heap} {loc : Loc} {H : HM} {s s' : Shared} {n k dp un : Nat}
/-- the first attribute of an exception object -/
theorem op_setExc (K : CxOk c) (G : Good prog c B loc H s) {a C : Addr} {tb : Option Addr} {nm : Str} {w : Value} {y : V} (X : ExcCls c.K C) (hn : findIn c.K (.ref C) nm = some none) (ha : H a = some (.exc C none tb)) (ry : Rep s.heap w y) {A : Around} {E : Value → Shared → Prop} {P : Unit → Shared → Prop}
    (hP : ∀ s' d, H d = none → d ≠ a → Good prog c B loc (upd (upd H d (.attrs [(nm, y)])) a (.exc C (some d) tb)) s' → P () s') :
    wpAny (model prog c.w) A (setAttr (.ref a) nm w) P E s := by
  obtain ⟨oe, vs, he, hc, hdi, hd, hsz, h1⟩ := (G.obj _ _ ha).rep
  obtain ⟨⟨cd, Bs, hcd, hmro, hdict⟩, hset⟩ := X
  have hin : c.K.In s.heap := K.kin.keeps (G.stat K)
  have I : W.InstAt s.heap a oe C none := ⟨he, hc, by unfold notCls; rw [hd], by rw [hdi]; trivial⟩
  have SF := PySem.F.store_object
  refine set_plain hin I hset ?_
  have hin1 : c.K.In ({ s with toks := s.toks + 1 } : Shared).heap := hin
  have I1 : W.InstAt ({ s with toks := s.toks + 1 } : Shared).heap a oe C none := I
  have sub : Looks (model prog c.w) s.heap (isInstance (.ref a) (.type "object")) true := I.type.andThen (looks_mroIn hin (by unfold mroIn; rw [hcd, Option.bind_some, hmro]; simp))
  refine codeAny_call_builtin SF.slot.plain SF.entry (@check_slot (model prog c.w) _ _ { s with toks := s.toks + 1 } "object.__setattr__" "object" "__setattr__" (.ref a) [.str nm s.toks, w] [] _ SF.kind SF.split sub (SF.args (.ref a) (.str nm s.toks) w) ?_)
  have hm : Looks (model prog c.w) s.heap (mroOf (.ref C)) cd.mro := (looks_clsIn hin hcd).andThen .now
  rw [osa_eq, refuse_eq]
  refine wpAny_bind (wpAny_bind (I1.type.here (wpAny_bind (hm.here (s := { s with toks := s.toks + 1 }) ?_))))
  rw [hmro, refuseLoop_ref, refuseLoop_ref, refuse_exc]
  refine wpAny_pure (wpAny_bind (I1.type.here (wpAny_bind ((looks_findIn hin1 hn).here (wpAny_bind (wpAny_pure (a := none) ?_))))))
  -- the store
  have G0 : Good prog c B loc H { s with toks := s.toks + 1 } := G.same rfl rfl rfl
  have G1 : Good prog c B loc (upd H s.heap.objs.size (.attrs [])) { s with toks := s.toks + 1, heap := s.heap.push emptyDict } := G0.new (o := emptyDict) (m := .attrs []) ⟨[], 0, Heap.get?_push_size _ rfl, .nil, by simp⟩
  have hda : H s.heap.objs.size = none := G.newNone
  have hne : s.heap.objs.size ≠ a := fun q => by rw [q, ha] at hda; cases hda
  show wpAny _ _ (do
      match ← instanceDict a true with
      | some d => Builtin.ObjectAttr.storeInDict d (.str nm s.toks) nm w
      | none => _) _ _ _
  refine wpAny_bind ?_
  unfold instanceDict
  refine wpAny_bind (wpAny_loadPart (s := { s with toks := s.toks + 1 }) he ?_)
  obtain ⟨oc, odi, oda, osl⟩ := oe
  simp only at hc hdi hd
  subst hc hdi hd
  refine wpAny_bind ((looks_clsIn hin hcd).here (s := { s with toks := s.toks + 1 }) ?_)
  rw [hdict]
  show wpAny _ _ (do
    let d ← alloc { cls := .type "dict", data := .dict #[] }
    update a fun o => { o with dict := some d }
    dictMade (.ref C) a d) _ _ _
  refine wpAny_bind (wpAny_alloc ?_)
  have he1 : (s.heap.push emptyDict).get? a = some { cls := .ref C, dict := none, data := .fields vs, slots := osl } := Heap.get?_push_of_some _ he
  refine wpAny_bind (wpAny_update he1 ?_)
  refine wpAny_pure ?_
  have e1 : (upd H s.heap.objs.size (.attrs [])) a = some (.exc C none tb) := by unfold upd; rw [if_neg (Ne.symm hne)]; exact ha
  have G2 := G1.set (s' := { s with toks := s.toks + 1, heap := (s.heap.push emptyDict).update a fun o => { o with dict := some s.heap.objs.size } }) (m' := .exc C (some s.heap.objs.size) tb) e1 (Heap.SameBut.update ..)
    (fun kt => ⟨_, vs, Heap.get?_update_self _ he1 rfl, rfl, rfl, rfl, hsz, h1⟩) rfl rfl
  have D : ((s.heap.push emptyDict).update a fun o => { o with dict := some s.heap.objs.size }).get? s.heap.objs.size = some emptyDict := (Heap.get?_update_other _ _ (Ne.symm hne)).trans (Heap.get?_push_size _ rfl)
  show wpAny _ _ (Builtin.ObjectAttr.storeInDict s.heap.objs.size (.str nm s.toks) nm w) _ _ _
  unfold Builtin.ObjectAttr.storeInDict
  refine wpAny_bind (wpAny_pure (wpAny_bind ?_))
  unfold nsSet
  refine wpAny_bind (wpAny_bind (wpAny_askSetting (wpAny_pure (wpAny_bind (wpAny_mkText (wpAny_bind (wpAny_loadPart D ?_)))))))
  have hr : ((!(#[] : Array DictEntry).any (·.key.isStr nm)) && (#[] : Array DictEntry).any (·.refKey)) = false := by simp
  dsimp only [emptyDict]
  rw [aRefKeyMayBeTheName_at, hr]
  refine wpAny_updatePart D ?_
  have hput : ∀ hs tk, Obj.putName nm hs (.str nm tk) w emptyDict = dictOf [⟨hs, .str nm tk, w⟩] (putN nm [] 0) := fun hs tk => by
    have := putName_dict nm hs (.str nm tk) w [] 0
    simpa [putL] using this
  have e3 : (upd (upd H s.heap.objs.size (.attrs [])) a (.exc C (some s.heap.objs.size) tb)) s.heap.objs.size = some (.attrs []) := by
    unfold upd; rw [if_neg hne, if_pos rfl]
  have D' := fun hs tk => Heap.get?_update_self (f := Obj.putName nm hs (.str nm tk) w) D (by rw [hput]; rfl)
  refine wpAny_bind (wpAny_lookBehind (D' _ _) (by rw [hput]; exact pastItsLine_dict (by simp [sizeLine_eq])) ?_)
  refine wpAny_pure (hP _ s.heap.objs.size hda hne ?_)
  have eH : upd (upd (upd H s.heap.objs.size (.attrs [])) a (.exc C (some s.heap.objs.size) tb)) s.heap.objs.size (.attrs [(nm, y)]) = upd (upd H s.heap.objs.size (.attrs [(nm, y)])) a (.exc C (some s.heap.objs.size) tb) := by
    funext b
    unfold upd
    by_cases q : b = s.heap.objs.size
    · subst q; rw [if_pos rfl, if_neg hne, if_pos rfl]
    · rw [if_neg q]
      by_cases z : b = a
      · rw [if_pos z, if_pos z]
      · rw [if_neg z, if_neg z, if_neg q, if_neg q]
  rw [← eH]
  have k1 : Kt s.heap (s.heap.push emptyDict) := Kt.of_keeps fun b o e => Heap.get?_push_of_some _ e
  have k2 : Kt (s.heap.push emptyDict) ((s.heap.push emptyDict).update a fun o => { o with dict := some s.heap.objs.size }) := Kt.of_but (Heap.SameBut.update ..).extBut (noTup_fields ⟨_, vs, he1, rfl⟩)
  exact G2.set e3 (Heap.SameBut.update ..) (fun kt => ⟨_, putN nm [] 0, (D' _ _).trans (by rw [hput]), .cons (Rep.mono kt (Rep.mono k2 (Rep.mono k1 ry))) .nil, by simp⟩) rfl rfl
end
end Mine

namespace Mine
open PySem PySem.Calls PySem.Spec PyProof.Rows PySem.W

section
variable {prog : Program} {c : Cx} {B : Heap} {loc : Loc} {H : HM} {s s' : Shared} {n k dp un : Nat} {Q : QV}
theorem op_getExc (K : CxOk c) (G : Good prog c B loc H s) {a C d : Addr} {tb : Option Addr} {nm : Str} {l : List (Str × V)} {y : V} {expr : Bool} (X : ExcCls c.K C) (Y : ExcGet c.K C nm) (ha : H a = some (.exc C (some d) tb)) (hdl : H d = some (.attrs l)) (hl : l.lookup nm = some y) (hp : y.noPrim = true)
    {A : Around} {E : Value → Shared → Prop} {P : Value → Shared → Prop} (hP : ∀ v s', Rep s'.heap v y → Good prog c B loc H s' → P v s') : wpAny (model prog c.w) A (getAttr (.ref a) nm expr) P E s := by
  obtain ⟨oe, vs, he, hc, hdi, hd, hsz, h1⟩ := (G.obj _ _ ha).rep
  obtain ⟨es, m, hde, ra, _⟩ := (G.obj _ _ hdl).rep
  obtain ⟨⟨cd, Bs, hcd, hmro, hdict⟩, hset⟩ := X
  have hin : c.K.In s.heap := K.kin.keeps (G.stat K)
  have I : W.InstAt s.heap a oe C (some (dictOf es m)) := ⟨he, hc, by unfold notCls; rw [hd], by rw [hdi]; exact hde⟩
  obtain ⟨v, hv, rv⟩ := (getL_rep ra).1 y hl
  have hasD : hasDictIn c.K C = true := by unfold hasDictIn; rw [hcd]; simpa using hdict
  have hfo := findObj_own (attr := none) hasD Y.none rfl (show lookIn nm (dictOf es m) = some (some v) from hv)
  have fin : P v { s with toks := s.toks + 1 } := hP v _ rv (G.same rfl rfl rfl)
  have hh := handed_of rv hp
  have G0 : Good prog c B loc H { s with toks := s.toks + 1 } := G.same rfl rfl rfl
  clear hP
  obtain ⟨hh', g, dr, t, os⟩ := s
  have L0 := I.type (M := model prog c.w)
  have L1 := looks_findIn (M := model prog c.w) hin Y.ga
  have L2 := looks_findIn (M := model prog c.w) hin Y.hook
  have L3 := looks_find (M := model prog c.w) hin I hfo
  have sub : Looks (model prog c.w) hh' (isInstance (.ref a) (.type "BaseException")) true := I.type.andThen (looks_mroIn hin (by unfold mroIn; rw [hcd, Option.bind_some, hmro]; simp))
  have call : ∀ (A : Around) (R : Result → Shared → Prop), R (.ok (.ret v)) ⟨hh', g, dr, t + 1, os⟩ → codeAny (model prog c.w) A (.call (.builtin "BaseException.__getattribute__") ⟨[.ref a, .str nm t], []⟩) R ⟨hh', g, dr, t + 1, os⟩ := fun A R hR => by
    refine codeAny_call_builtin (by decide +kernel) PySem.F.entry_bexc_ga (@check_slot (model prog c.w) _ _ ⟨hh', g, dr, t + 1, os⟩ "BaseException.__getattribute__" "BaseException" "__getattribute__" (.ref a) [.str nm t] [] _ (by decide +kernel) (by decide +kernel) sub (PySem.F.args_bexc_ga _ _) ?_)
    unfold Builtin.«object.__getattribute__»
    refine wpAny_bind (wpAny_pure (wpAny_bind (wpAny_pure (wpAny_bind (L0.at (wpAny_bind (L3.at ?_)))))))
    exact wpAny_pure hR
  unfold getAttr getAttrBy
  refine wpAny_bind (wpAny_mkText (wpAny_holding (wpAny_bind (L0.at (wpAny_bind (L1.at ?_))))))
  have hx2 : (Value.builtin "BaseException.__getattribute__" == Value.builtin "object.__getattribute__") = false := by decide +kernel
  show wpAny _ _ (if (onTheHeap (Value.ref C) && Value.builtin "BaseException.__getattribute__" == Value.builtin "object.__getattribute__") = true then _ else _) _ _ _
  rw [hx2, Bool.and_false, if_neg (by decide)]
  unfold getAttrByItsOwn hookBefore
  show wpAny _ _ (do
    let before ← typeLookup (Value.ref C) (Str.ofString "__getattr__")
    _) _ _ _
  refine wpAny_bind (L2.at ?_)
  refine wpAny_bind (wpAny_attempt (wpAny_holding ?_))
  have hcg : callGetattribute (.ref a) (.str nm t) (.builtin "BaseException.__getattribute__") expr = boundAndCalled (.builtin "BaseException.__getattribute__") (.ref a) (.str nm t) := by
    unfold callGetattribute; cases expr <;> rfl
  show wpAny _ _ (callGetattribute (.ref a) (.str nm t) (.builtin "BaseException.__getattribute__") expr) _ _ _
  rw [hcg]
  unfold boundAndCalled
  rw [PySem.F.attr_Exception.ga.bind (.ref a)]
  refine wpAny_bind (wpAny_pure (wpAny_call (call _ _ ?_)))
  show wpAny _ _ (handedOut v) _ _ _
  rw [handedOut_of hh]
  exact wpAny_pure fin
end
end Mine

namespace Mine
open PySem PySem.Calls PySem.Spec PyProof.Rows PySem.W

section
variable {prog : Program} {c : Cx} {B : Heap} {loc : Loc} {H : HM} {s s' : Shared} {n k dp un : Nat}
theorem exc_isBase (K : CxOk c) (G : Good prog c B loc H s) {a C : Addr} {d tb : Option Addr} (X : ExcCls c.K C) (ha : H a = some (.exc C d tb)) : Looks (model prog c.w) s.heap (isInstance (.ref a) (.type "BaseException")) true := by
  obtain ⟨oe, vs, he, hc, hdi, hd, hsz, h1⟩ := (G.obj _ _ ha).rep
  obtain ⟨⟨cd, Bs, hcd, hmro, hdict⟩, hset⟩ := X
  have hin : c.K.In s.heap := K.kin.keeps (G.stat K)
  have T : Looks (model prog c.w) s.heap (typeOf (.ref a)) (.ref C) := hc ▸ (Looks.ld he).andThen .now
  exact T.andThen (looks_mroIn hin (by unfold mroIn; rw [hcd, Option.bind_some, hmro]; simp))
/-- an exception object is raised -/
theorem tf_raise (K : CxOk c) {e : Expr} {pos : Pos} {Q : QF} {C : Addr} (X : ExcCls c.K C) (hcls : ∃ o, c.K.lookup C = some o ∧ o.cls = .type "type")
    (h : TV prog c n k (eval e c.env) loc H fun x H1 => ∃ a d, x = .ref a ∧ H1 a = some (.exc C d none) ∧ ∀ B s, Good prog c B loc H1 s → c.X (.ref a) s) : TF prog c n k (exec (.Raise (some e) none pos) c.env) loc H Q := fun B dp un s R G => by
  show wpAny _ _ (do standAt pos; raiseStmt c.env (some (do let v ← eval e c.env; standAt pos; pure v)) none) _ _ s
  refine wpAny_bind (wpAny_standAt ?_)
  unfold raiseStmt
  dsimp only
  refine wpAny_bind (wpAny_bind (h.run K R G fun v x H1 s1 rx F z0 => wpAny_bind (wpAny_standAt (wpAny_pure ?_))))
  obtain ⟨a, d, rfl, ha, hX⟩ := z0
  obtain rfl := rx.invRef
  have G1 := F.g
  have hE := hX B s1 G1
  have base := exc_isBase K G1 X ha
  obtain ⟨oe, vs, he, hc, hdi, hd, hsz, h1⟩ := (G1.obj _ _ ha).rep
  have hin : c.K.In s1.heap := K.kin.keeps (G1.stat K)
  obtain ⟨oc, hoc, hmeta⟩ := hcls
  have hnt : ∀ {Q' : Bool → Shared → Prop}, Q' false s1 → wpAny (model prog c.w) (c.A dp un) (isType (.ref a)) Q' c.X s1 := by
    intro Q' hq
    simp only [isType, loadHead]
    refine wpAny_bind (wpAny_loadPart he ?_)
    rw [hd]; exact wpAny_pure hq
  have T : Looks (model prog c.w) s1.heap (typeOf (.ref a)) (.ref C) := hc ▸ (Looks.ld he).andThen .now
  have T2 : Looks (model prog c.w) s1.heap (typeOf (.ref C)) (.type "type") := hmeta ▸ (Looks.ld (hin C oc hoc)).andThen .now
  refine wpAny_bind (wpAny_pure ?_)
  dsimp only
  refine wpAny_bind (wpAny_holding ?_)
  unfold excFromValue isExcClass
  refine wpAny_bind (wpAny_bind (hnt ?_))
  simp only [Bool.false_eq_true, if_false]
  refine wpAny_pure ?_
  simp only [Bool.false_eq_true, if_false]
  refine wpAny_bind (base.here ?_)
  simp only [if_true]
  refine wpAny_pure ?_
  refine wpAny_bind (hnt ?_)
  simp only [Bool.false_eq_true, if_false]
  unfold raisedInstance
  refine wpAny_bind (wpAny_bind (T.here (wpAny_bind (T2.here ?_))))
  rw [if_pos (by decide)]
  refine wpAny_pure ?_
  unfold setFlight raiseNew
  refine wpAny_bind (wpAny_bind (wpAny_field he hd h1 ?_))
  rw [if_neg (by decide)]
  refine wpAny_pure (wpAny_bind (wpAny_handled ?_))
  rw [show (c.A dp un).handled = none from rfl]
  first
    | exact wpAny_throw hE
    | exact wpAny_bind (wpAny_pure (wpAny_throw hE))

/-- what a raise must meet: the exception and what holds then -/
noncomputable def XOk (prog : Program) (c : Cx) (C : Addr) (X : Addr → HM → Prop) : Prop := ∀ a d tb loc B H s, Good prog c B loc H s → ExcIn H a C d tb → X a H → c.X (.ref a) s
noncomputable def Stable (X : Addr → HM → Prop) : Prop := ∀ a H H' C d tb tb', ExcStep a H H' → H a = some (.exc C d tb) → H' a = some (.exc C d tb') → X a H → X a H'
theorem XOk.loop (K : CxOk c) (f : FF c) {C : Addr} {X : Addr → HM → Prop} (st : Stable X) (h : XOk prog c C X) : XOk prog (c.withX (loopX prog c dp un)) C X := by
  intro a d tb loc B H s G ha hx
  have G0 : Good prog c B loc H s := G.offX
  show notedBy _ _ _ _ _ _
  unfold notedBy
  refine op_noteFrame K f G0 ha fun s1 H1 T G1 s01 ha1 hT => ?_
  unfold cameBackBy
  obtain ⟨oe, vs, he, hc, hdi, hd, hsz, h1⟩ := (G1.obj _ _ ha1.1).rep
  refine wpAny_bind (wpAny_field he hd h1 ?_)
  rw [if_neg (by simp)]
  refine op_setFlight G1 ha1 fun s2 H2 G2 s12 ha2 => ?_
  exact h a d _ loc B H2 s2 G2 ha2 (st a _ _ _ _ _ _ (s01.trans s12) ha.1 ha2.1 hx)
/-- a frame is left by a raise -/
theorem op_leaving (K : CxOk c) (f : FF c) (G : Good prog c B loc H s) {a C : Addr} {d tb : Option Addr} (ha : ExcIn H a C d tb) {E : Value → Shared → Prop} {P : Unit → Shared → Prop}
    (hP : ∀ s' H' T, Good prog c B loc H' s' → ExcStep a H H' → ExcIn H' a C d (some T) → P () s') : wpAny (model prog c.w) (c.A dp un) (leaving c.env (.ref a)) P E s := by
  unfold leaving
  refine wpAny_bind (op_noteFrame K f G ha fun s1 H1 T G1 s01 ha1 hT => ?_)
  exact op_setFlight G1 ha1 fun s2 H2 G2 s12 ha2 => hP s2 H2 T G2 (s01.trans s12) ha2
end
noncomputable def XRun (prog : Program) (c : Cx) (C : Addr) (X : Addr → HM → Prop) : Prop := (∀ a H, ¬ X a H) ∨ (FF c ∧ Stable X ∧ XOk prog c C X)
theorem XRun.loop {prog : Program} {c : Cx} (K : CxOk c) {C : Addr} {X : Addr → HM → Prop} (h : XRun prog c C X) (dp un : Nat) : XRun prog (c.withX (loopX prog c dp un)) C X := by
  rcases h with h | ⟨f, st, h⟩
  · exact .inl h
  · exact .inr ⟨⟨f.frame, f.head, f.each⟩, st, h.loop K f st⟩
/-- a contract whose raises are told -/
noncomputable def CWX (prog : Program) (T : Tab) (n : Nat) (X : Addr → HM → Prop) (f : Value) (args : List V) (H : HM) (Q : QV) : Prop := ∀ c, CxOk c → c.T = T → XRun prog c T.exc X → CWat prog c n f args H Q
theorem CW.x {prog : Program} {T : Tab} {n : Nat} {X : Addr → HM → Prop} {f : Value} {args : List V} {H : HM} {Q : QV} (h : CW prog T n f args H Q) : CWX prog T n X f args H Q := fun c K hT _ => by
  subst hT; exact h.at K
end Mine

namespace Mine
open PySem PySem.Calls PySem.Spec PyProof.Rows PySem.W

/-- names of attributes and methods, by number -/
noncomputable def anm : List Str := List.map Str.ofString ["symbols", "max_heap", "heap", "stack", "trail", "hb", "bb", "texts", "atom_numbers", "functors", "functor_numbers", "code", "occurs", "max_bits", "store", "x", "p", "cp", "e", "b", "b0", "mode", "s", "guard", "roots", "bags", "collect_wanted", "ball",
  "atom", "text", "functor", "func", "name", "arity", "push", "new_var", "reserve", "deref", "is_unbound", "bind", "globalise", "is_compound", "functor_of", "width", "base", "arg", "new_block", "list_cells", "put_term", "whole_size", "take_term", "reset", "take", "append", "pop", "get", "add"]
noncomputable def an (i : Nat) : Str := anm.getD i Str.empty
/-- builtin things that are called -/
inductive BI where
  | len | abs | tuple | list | isinst | set
deriving DecidableEq
noncomputable def BI.val : BI → Value
  | .len => .builtin "len"
  | .abs => .builtin "abs"
  | .tuple => .type "tuple"
  | .list => .type "list"
  | .isinst => .builtin "isinstance"
  | .set => .type "set"
mutual
inductive E where
  | const (v : V)
  | var (i : Nat)
  | tup (es : Es)
  | list (es : Es)
  | attr (e : E) (nm : Nat)
  | call (f : Addr) (args : Es)
  | bcall (b : BI) (args : Es)
  | meth (e : E) (nm : Nat) (args : Es)
  | append (e x : E)
  | pop (e : E)
  | get (e k d : E)
  | add (e x : E)
  | bin (op : Operator) (l r : E)
  | cmp (op : CmpOp) (l r : E)
  | and (l r : E)
  | or (l r : E)
  | not (e : E)
  | ite (t a b : E)
  | neg (e : E)
  | sub (e i : E)
  | sliceTo (e i : E)
  | sliceFrom (e i : E)
  | rev (e i : E)
  | dict0 (t : Nat)
  | dict3 (k0 v0 k1 v1 k2 v2 : E)
  | comp (x : Nat) (fr : List Nat) (it : It) (test : Option' ) (elt : E)
inductive Es where
  | nil
  | cons (e : E) (es : Es)
inductive It where
  | seq (e : E)
  | range (args : Es)
inductive Option' where
  | none
  | some (e : E)
end
mutual
inductive S where
  | asgn (x : Nat) (e : E)
  | asgnA (o : E) (nm : Nat) (e : E)
  | asgnS (o i e : E)
  | unpack (x y : Nat) (e : E)
  | augN (x : Nat) (e : E)
  | augS (o i e : E)
  | asgnC (y x : Nat) (fr : List Nat) (it : It) (test : Option') (elt : E)
  | ret (e : E)
  | ret0
  | expr (e : E)
  | cont
  | ite (t : E) (a b : Ss)
  | whl (t : E) (b : Ss)
  | loop (x : Nat) (it : It) (b : Ss)
  | delF (e i : E)
  | raise (e : E)
inductive Ss where
  | nil
  | cons (s : S) (ss : Ss)
end
noncomputable abbrev Lo := Nat → Option V
noncomputable def upN (lo : Lo) (i : Nat) (v : V) : Lo := fun j => if j = i then some v else lo j
noncomputable def mask (fr : List Nat) (lo : Lo) : Lo := fun j => if fr.contains j = true then lo j else none

-- what is asked at a state
noncomputable def sA (T : Tab) (x : V) (nm : Str) (y : V) (H : HM) (Q : HM → Prop) : Prop :=
  setA T x nm y H Q ∨ ∃ a tb, x = .ref a ∧ H a = some (.exc T.exc none tb) ∧ nm = Str.ofString "ball" ∧ ∀ d, H d = none → d ≠ a → Q (upd (upd H d (.attrs [(nm, y)])) a (.exc T.exc (some d) tb))
inductive bQ : BI → List V → HM → QV → Prop
  | lenT {l : List V} {H : HM} {Q : QV} (h : l.length ≤ 1000000) (q : Q (.int l.length) H) : bQ .len [.tup l] H Q
  | lenL {a : Addr} {l : List V} {m : Nat} {H : HM} {Q : QV} (e : H a = some (.list l)) (hm : l.length = m) (h : m ≤ 1000000) (q : Q (.int m) H) : bQ .len [.ref a] H Q
  | lenD {a : Addr} {l : List (Int × V)} {H : HM} {Q : QV} (e : H a = some (.dictI l)) (h : l.length ≤ 1000000) (q : Q (.int l.length) H) : bQ .len [.ref a] H Q
  | abs {i : Int} {H : HM} {Q : QV} (q : Q (.int (if i < 0 then -i else i)) H) : bQ .abs [.int i] H Q
  | tupL {a : Addr} {l : List V} {H : HM} {Q : QV} (e : H a = some (.list l)) (h : l.length ≤ 1000000) (q : Q (.tup l) H) : bQ .tuple [.ref a] H Q
  | lstL {a : Addr} {l : List V} {H : HM} {Q : QV} (e : H a = some (.list l)) (h : l.length ≤ 1000000) (q : ∀ b, H b = none → Q (.ref b) (upd H b (.list l))) : bQ .list [.ref a] H Q
  | lstD {a : Addr} {l : List (Int × V)} {H : HM} {Q : QV} (e : H a = some (.dictI l)) (h : l.length ≤ 1000000) (q : ∀ b, H b = none → Q (.ref b) (upd H b (.list (l.map fun p => .int p.1)))) : bQ .list [.ref a] H Q
  | isS {x : Str} {H : HM} {Q : QV} (q : Q (.bool true) H) : bQ .isinst [.str x, .prim (.type "str")] H Q
  | isT {x : List V} {H : HM} {Q : QV} (q : Q (.bool false) H) : bQ .isinst [.tup x, .prim (.type "str")] H Q
  | set {H : HM} {Q : QV} (q : ∀ b, H b = none → Q (.ref b) (upd H b (.set (fun _ => false) 0))) : bQ .set [] H Q
theorem bQ_cw {prog : Program} {T : Tab} {n : Nat} {b : BI} {xs : List V} {H : HM} {Q : QV} (h : bQ b xs H Q) : CW prog T n b.val xs H Q := by
  induction h with
  | lenT h q => exact cw_len_tup h q
  | lenL e hm h q => subst hm; exact cw_len_list e h q
  | lenD e h q => exact cw_len_dict e h q
  | abs q => exact cw_abs q
  | tupL e h q => exact cw_tuple_list e h q
  | lstL e h q => exact cw_list_seq e h q
  | lstD e h q => exact cw_list_dict e h q
  | isS q => exact cw_isinst_str q
  | isT q => exact cw_isinst_tup q
  | set q => exact cw_set0 q
noncomputable section
mutual
noncomputable def wpE (prog : Program) (T : Tab) (n : Nat) (X : Addr → HM → Prop) : E → Lo → HM → QV → Prop
  | .const v, _, H, Q => Q v H
  | .var i, lo, H, Q => ∃ v, lo i = some v ∧ Q v H
  | .tup es, lo, H, Q => wpL prog T n X es lo H fun xs H1 => xs.length ≤ 1000 ∧ Q (.tup xs) H1
  | .list es, lo, H, Q => wpL prog T n X es lo H fun xs H1 => xs.length ≤ 1000 ∧ ∀ a, H1 a = none → Q (.ref a) (upd H1 a (.list xs))
  | .attr e nm, lo, H, Q => wpE prog T n X e lo H fun x H1 => getA T x (an nm) H1 Q
  | .call f args, lo, H, Q => wpL prog T n X args lo H fun xs H1 => CWX prog T n X (.ref f) xs H1 Q
  | .bcall b args, lo, H, Q => wpL prog T n X args lo H fun xs H1 => bQ b xs H1 Q
  | .meth e nm args, lo, H, Q => wpE prog T n X e lo H fun x H1 => gmI T (an nm) x H1 fun f fs H2 => wpL prog T n X args lo H2 fun xs H3 => CWX prog T n X f (fs ++ xs) H3 Q
  | .append e x, lo, H, Q => wpE prog T n X e lo H fun a H1 => ∃ d l0, a = .ref d ∧ H1 d = some (.list l0) ∧ wpE prog T n X x lo H1 fun y H2 => ∃ l, H2 d = some (.list l) ∧ l.length ≤ 1000000 ∧ Q .none (upd H2 d (.list (l ++ [y])))
  | .pop e, lo, H, Q => wpE prog T n X e lo H fun a H1 => ∃ d l y, a = .ref d ∧ H1 d = some (.list (l ++ [y])) ∧ l.length ≤ 1000000 ∧ Q y (upd H1 d (.list l))
  | .get e k d, lo, H, Q => wpE prog T n X e lo H fun a H1 => ∃ m, a = .ref m ∧ ((∃ l, H1 m = some (.dictS l) ∧ wpE prog T n X k lo H1 fun kv H2 => wpE prog T n X d lo H2 fun dv H3 => ∃ x, kv = .str x ∧ H3 m = some (.dictS l) ∧ Q ((l.lookup x).getD dv) H3) ∨
      (∃ l, H1 m = some (.dictP l) ∧ wpE prog T n X k lo H1 fun kv H2 => wpE prog T n X d lo H2 fun dv H3 => ∃ i j, kv = .tup [.int i, .int j] ∧ H3 m = some (.dictP l) ∧ Q ((l.lookup (i, j)).getD dv) H3))
  | .add e x, lo, H, Q => wpE prog T n X e lo H fun a H1 => ∃ d S0 m0, a = .ref d ∧ H1 d = some (.set S0 m0) ∧ wpE prog T n X x lo H1 fun y H2 => ∃ S m i, y = .int i ∧ H2 d = some (.set S m) ∧ m ≤ 4000 ∧ Q .none (upd H2 d (.set (fun j => S j || decide (j = i)) (if S i = true then m else m + 1)))
  | .bin op l r, lo, H, Q => wpE prog T n X l lo H fun x H1 => wpE prog T n X r lo H1 fun y H2 => ∃ i j, x = .int i ∧ y = .int j ∧ binV op i j fun m => Q (.int m) H2
  | .cmp op l r, lo, H, Q => wpE prog T n X l lo H fun x H1 => wpE prog T n X r lo H1 fun y H2 => cmpV op x y H2 fun b => Q (.bool b) H2
  | .and l r, lo, H, Q => wpE prog T n X l lo H fun x H1 => ∃ b, x = .bool b ∧ if b = true then wpE prog T n X r lo H1 Q else Q (.bool false) H1
  | .or l r, lo, H, Q => wpE prog T n X l lo H fun x H1 => ∃ b, x = .bool b ∧ if b = true then Q (.bool true) H1 else wpE prog T n X r lo H1 Q
  | .not _, _, _, _ => False
  | .ite t a b, lo, H, Q => wpB prog T n X t lo H fun c H1 => if c = true then wpE prog T n X a lo H1 Q else wpE prog T n X b lo H1 Q
  | .neg e, lo, H, Q => wpE prog T n X e lo H fun x H1 => ∃ i, x = .int i ∧ Q (.int (-i)) H1
  | .sub e i, lo, H, Q => wpE prog T n X e lo H fun x H1 => wpE prog T n X i lo H1 fun y H2 => subV x y H2 fun z => Q z H2
  | .sliceTo e i, lo, H, Q => wpE prog T n X e lo H fun x H1 => wpE prog T n X i lo H1 fun y H2 => ∃ l vs m xs b, x = .ref l ∧ H2 l = some (.fixed vs m) ∧ FxI vs xs ∧ xs.length ≤ 1000000 ∧ y = .int b ∧ 0 ≤ b ∧ ∀ d, H2 d = none → Q (.ref d) (upd H2 d (.list (xs.take b.toNat)))
  | .sliceFrom e i, lo, H, Q => wpE prog T n X e lo H fun x H1 => wpE prog T n X i lo H1 fun y H2 => ∃ l xs b, x = .ref l ∧ H2 l = some (.list xs) ∧ xs.length ≤ 1000000 ∧ y = .int b ∧ 0 ≤ b ∧ ∀ d, H2 d = none → Q (.ref d) (upd H2 d (.list (xs.drop b.toNat)))
  | .rev e i, lo, H, Q => wpE prog T n X e lo H fun x H1 => wpE prog T n X i lo H1 fun y H2 => ∃ l xs, x = .ref l ∧ H2 l = some (.list xs) ∧ xs.length ≤ 1000000 ∧ y = .int (-1) ∧ ∀ d, H2 d = none → Q (.ref d) (upd H2 d (.list xs.reverse))
  | .dict0 t, _, H, Q => match t with
    | 0 => ∀ d, H d = none → Q (.ref d) (upd H d (.dictI []))
    | 1 => ∀ d, H d = none → Q (.ref d) (upd H d (.dictS []))
    | _ => ∀ d, H d = none → Q (.ref d) (upd H d (.dictP []))
  | .dict3 k0 v0 k1 v1 k2 v2, lo, H, Q => ∀ d, H d = none → wpE prog T n X k0 lo (upd H d (.dictI [])) fun a0 H1 => wpE prog T n X v0 lo H1 fun b0 H2 => wpE prog T n X k1 lo H2 fun a1 H3 => wpE prog T n X v1 lo H3 fun b1 H4 => wpE prog T n X k2 lo H4 fun a2 H5 => wpE prog T n X v2 lo H5 fun b2 H6 =>
      ∃ i0 i1 i2, a0 = .int i0 ∧ a1 = .int i1 ∧ a2 = .int i2 ∧ H6 d = some (.dictI []) ∧ Q (.ref d) (upd H6 d (.dictI (mergeK [(i0, b0), (i1, b1), (i2, b2)])))
  | .comp x fr it test elt, lo, H, Q => wpI prog T n X it lo H fun items fix H1 => ∀ D, H1 D = none → ∃ J : Nat → List V → HM → Prop, J 0 [] (upd H1 D (.list [])) ∧ (∀ i ys H', J i ys H' → fix H' ∧ H' D = some (.list ys) ∧ ys.length ≤ 1000) ∧
      (∀ i ys y H', J i ys H' → items[i]? = some y → wpT prog T n (fun _ _ => False) test (upN (mask fr lo) x y) H' fun b H2 => if b = true then wpE prog T n (fun _ _ => False) elt (upN (mask fr lo) x y) H2 fun r H3 => H3 D = some (.list ys) ∧ J (i + 1) (ys ++ [r]) (upd H3 D (.list (ys ++ [r]))) else J (i + 1) ys H2) ∧
      (∀ ys H', J items.length ys H' → Q (.ref D) H')
noncomputable def wpL (prog : Program) (T : Tab) (n : Nat) (X : Addr → HM → Prop) : Es → Lo → HM → (List V → HM → Prop) → Prop
  | .nil, _, H, Q => Q [] H
  | .cons e es, lo, H, Q => wpE prog T n X e lo H fun x H1 => wpL prog T n X es lo H1 fun xs H2 => Q (x :: xs) H2
noncomputable def wpB (prog : Program) (T : Tab) (n : Nat) (X : Addr → HM → Prop) : E → Lo → HM → (Bool → HM → Prop) → Prop
  | .cmp op l r, lo, H, Q => wpE prog T n X l lo H fun x H1 => wpE prog T n X r lo H1 fun y H2 => cmpV op x y H2 fun b => Q b H2
  | .and l r, lo, H, Q => wpB prog T n X l lo H fun b H1 => if b = true then wpB prog T n X r lo H1 Q else Q false H1
  | .or l r, lo, H, Q => wpB prog T n X l lo H fun b H1 => if b = true then Q true H1 else wpB prog T n X r lo H1 Q
  | .not e, lo, H, Q => wpB prog T n X e lo H fun b H1 => Q (!b) H1
  | .const v, _, H, Q => ∃ b, v = .bool b ∧ Q b H
  | .call f args, lo, H, Q => wpL prog T n X args lo H fun xs H1 => CWX prog T n X (.ref f) xs H1 fun r H2 => ∃ b, r = .bool b ∧ Q b H2
  | .bcall b args, lo, H, Q => wpL prog T n X args lo H fun xs H1 => bQ b xs H1 fun r H2 => ∃ b, r = .bool b ∧ Q b H2
  | .meth e nm args, lo, H, Q => wpE prog T n X e lo H fun x H1 => gmI T (an nm) x H1 fun f fs H2 => wpL prog T n X args lo H2 fun xs H3 => CWX prog T n X f (fs ++ xs) H3 fun r H4 => ∃ b, r = .bool b ∧ Q b H4
  | _, _, _, _ => False
noncomputable def wpI (prog : Program) (T : Tab) (n : Nat) (X : Addr → HM → Prop) : It → Lo → HM → (List V → (HM → Prop) → HM → Prop) → Prop
  | .seq e, lo, H, Q => wpE prog T n X e lo H fun x H1 => SeqSrc x H1 fun l fix => Q l fix H1
  | .range args, lo, H, Q => wpL prog T n X args lo H fun xs H1 => rangeArgs xs fun items => Q items (fun _ => True) H1
noncomputable def wpT (prog : Program) (T : Tab) (n : Nat) (X : Addr → HM → Prop) : Option' → Lo → HM → (Bool → HM → Prop) → Prop
  | .none, _, H, Q => Q true H
  | .some e, lo, H, Q => wpB prog T n X e lo H Q
end
noncomputable abbrev QS := Fl → Lo → HM → Prop
mutual
noncomputable def wpS (prog : Program) (T : Tab) (n : Nat) (X : Addr → HM → Prop) : S → Lo → HM → QS → Prop
  | .asgn x e, lo, H, Q => wpE prog T n X e lo H fun v H1 => Q .next (upN lo x v) H1
  | .asgnA o nm e, lo, H, Q => wpE prog T n X e lo H fun v H1 => wpE prog T n X o lo H1 fun x H2 => sA T x (an nm) v H2 fun H3 => Q .next lo H3
  | .asgnS o i e, lo, H, Q => wpE prog T n X e lo H fun v H1 => wpE prog T n X o lo H1 fun x H2 => wpE prog T n X i lo H2 fun y H3 => setV x y v H3 fun H4 => Q .next lo H4
  | .unpack x y e, lo, H, Q => wpE prog T n X e lo H fun v H1 => ∃ a b, v = .tup [a, b] ∧ Q .next (upN (upN lo x a) y b) H1
  | .augN x e, lo, H, Q => ∃ i, lo x = some (.int i) ∧ wpE prog T n X e lo H fun v H1 => ∃ j, v = .int j ∧ Q .next (upN lo x (.int (i + j))) H1
  | .augS o i e, lo, H, Q => wpE prog T n X o lo H fun x H1 => wpE prog T n X i lo H1 fun y H2 => ∃ a l j m, x = .ref a ∧ H2 a = some (.list l) ∧ y = .int j ∧ 0 ≤ j ∧ j < 1000000 ∧ l[j.toNat]? = some (.int m) ∧
      wpE prog T n X e lo H2 fun z H3 => ∃ d, z = .int d ∧ setV (.ref a) (.int j) (.int (m + d)) H3 fun H4 => Q .next lo H4
  | .asgnC y x fr it test elt, lo, H, Q => wpE prog T n X (.comp x fr it test elt) lo H fun v H1 => Q .next (upN lo y v) H1
  | .ret e, lo, H, Q => wpE prog T n X e lo H fun v H1 => Q (.ret v) lo H1
  | .ret0, lo, H, Q => Q (.ret .none) lo H
  | .expr e, lo, H, Q => wpE prog T n X e lo H fun _ H1 => Q .next lo H1
  | .cont, lo, H, Q => Q .cont lo H
  | .ite t a b, lo, H, Q => wpB prog T n X t lo H fun c H1 => if c = true then wpSs prog T n X a lo H1 Q else wpSs prog T n X b lo H1 Q
  | .whl t b, lo, H, Q => ∃ I : Nat → Lo → HM → Prop, (∃ m, I m lo H) ∧ ∀ m lo H, I m lo H → wpB prog T n X t lo H fun c H1 =>
      if c = true then wpSs prog T n X b lo H1 fun f lo2 H2 => match f with
        | .next | .cont => ∃ m', m' < m ∧ I m' lo2 H2
        | .brk => Q .next lo2 H2
        | .ret v => Q (.ret v) lo2 H2
      else Q .next lo H1
  | .loop x it b, lo, H, Q => wpI prog T n X it lo H fun items fix H1 => ∃ J : Nat → Lo → HM → Prop, J 0 lo H1 ∧ (∀ i lo H, J i lo H → fix H) ∧
      (∀ i y lo H, J i lo H → items[i]? = some y → wpSs prog T n X b (upN lo x y) H fun f lo2 H2 => match f with
        | .next | .cont => J (i + 1) lo2 H2
        | .brk => Q .next lo2 H2
        | .ret v => Q (.ret v) lo2 H2) ∧
      (∀ lo H, J items.length lo H → Q .next lo H)
  | .delF e i, lo, H, Q => wpE prog T n X e lo H fun x H1 => wpE prog T n X i lo H1 fun y H2 => ∃ l xs b, x = .ref l ∧ H2 l = some (.list xs) ∧ xs.length ≤ 1000000 ∧ y = .int b ∧ 0 ≤ b ∧ b ≤ xs.length ∧ Q .next lo (upd H2 l (.list (xs.take b.toNat)))
  | .raise e, lo, H, Q => wpE prog T n X e lo H fun x H1 => ∃ a d, x = .ref a ∧ H1 a = some (.exc T.exc d none) ∧ X a H1
noncomputable def wpSs (prog : Program) (T : Tab) (n : Nat) (X : Addr → HM → Prop) : Ss → Lo → HM → QS → Prop
  | .nil, lo, H, Q => Q .next lo H
  | .cons s ss, lo, H, Q => wpS prog T n X s lo H fun f lo1 H1 => match f with
    | .next => wpSs prog T n X ss lo1 H1 Q
    | f => Q f lo1 H1
end
end
end Mine

namespace Mine
open PySem PySem.Calls PySem.Spec PyProof.Rows PySem.W

/-- what is known of a block before it runs -/
structure Inf where
  T : Tab
  ns : List Str
  names : List (Str × NameKind)
noncomputable def eqcs (f : V → V → Bool) : List V → List V → Bool
  | [], l => l.isEmpty
  | a :: r, l => match l with
    | [] => false
    | b :: m => f a b && eqcs f r m
noncomputable def V.eqc : Nat → V → V → Bool
  | 0, _, _ => false
  | n + 1, a, b => match a with
    | .none => (match b with | .none => true | _ => false)
    | .bool x => (match b with | .bool y => x == y | _ => false)
    | .int x => (match b with | .int y => x == y | _ => false)
    | .str x => (match b with | .str y => x == y | _ => false)
    | .ref x => (match b with | .ref y => x == y | _ => false)
    | .prim x => (match b with | .prim y => x == y | _ => false)
    | .tup l => (match b with | .tup m => eqcs (V.eqc n) l m | _ => false)
noncomputable def reName (names : List (Str × NameKind)) (outer : List (Str × NameKind)) : List (Str × NameKind) :=
  names.map fun (n, k) => if (k == .free && outer.lookup n == some .cell) then (n, .cell) else (n, k)
noncomputable def okScope (I : Inf) (scope : Scope) (x : Str) (fr : List Nat) : Bool :=
  scope.kind == .function && scope.names.lookup x == some .local &&
  (scope.names.all fun y => (y.2 != .local || scope.names.lookup y.1 == some .local) && y.2 != .cell && (y.2 != .free || (I.names.lookup y.1 == some .cell && scope.names.lookup y.1 == some .free))) &&
  ((List.range I.ns.length).all fun i => fr.contains i == (match I.ns[i]? with | some z => scope.names.lookup z == some .free | none => false))
noncomputable def isVar (I : Inf) (x : Str) (i : Nat) : Bool := I.ns[i]? == some x && !(x == ("__debug__" : Str))
noncomputable def okKind (I : Inf) (x : Str) : Bool := I.names.lookup x == some .local || I.names.lookup x == some .cell
noncomputable def okGlob (I : Inf) (x : Str) : Bool := I.names.lookup x == some .globalImplicit && !(x == ("__debug__" : Str))
noncomputable def noSet : Expr → Bool
  | .Set .. => false
  | _ => true
-- views of the text's trees
noncomputable def onNil {α : Type} (l : List α) (k : Bool) : Bool := match l with | [] => k | _ :: _ => false
noncomputable def onCons {α : Type} (l : List α) (k : α → List α → Bool) : Bool := match l with | [] => false | a :: r => k a r
noncomputable def onNone {α : Type} (l : Option α) (k : Bool) : Bool := match l with | none => k | some _ => false
noncomputable def onSome {α : Type} (l : Option α) (k : α → Bool) : Bool := match l with | none => false | some a => k a
theorem onNil_el {α : Type} {P : List α → Prop} {l : List α} {k : Bool} (h : onNil l k = true) (f : k = true → P []) : P l := by cases l with | nil => exact f h | cons _ _ => cases h
theorem onCons_el {α : Type} {P : List α → Prop} {l : List α} {k : α → List α → Bool} (h : onCons l k = true) (f : ∀ a r, k a r = true → P (a :: r)) : P l := by cases l with | nil => cases h | cons a r => exact f a r h
theorem onNone_el {α : Type} {P : Option α → Prop} {l : Option α} {k : Bool} (h : onNone l k = true) (f : k = true → P none) : P l := by cases l with | none => exact f h | some _ => cases h
theorem onSome_el {α : Type} {P : Option α → Prop} {l : Option α} {k : α → Bool} (h : onSome l k = true) (f : ∀ a, k a = true → P (some a)) : P l := by cases l with | none => cases h | some a => exact f a h
noncomputable def on1 {α : Type} (l : List α) (k : α → Bool) : Bool := onCons l fun a r => onNil r (k a)
noncomputable def on2 {α : Type} (l : List α) (k : α → α → Bool) : Bool := onCons l fun a r => on1 r (k a)
noncomputable def on3 {α : Type} (l : List α) (k : α → α → α → Bool) : Bool := onCons l fun a r => on2 r (k a)
theorem on1_el {α : Type} {P : List α → Prop} {l : List α} {k : α → Bool} (h : on1 l k = true) (f : ∀ a, k a = true → P [a]) : P l :=
  onCons_el h fun a r h => onNil_el (P := fun r => P (a :: r)) h fun h => f a h
theorem on2_el {α : Type} {P : List α → Prop} {l : List α} {k : α → α → Bool} (h : on2 l k = true) (f : ∀ a b, k a b = true → P [a, b]) : P l :=
  onCons_el h fun a r h => on1_el (P := fun r => P (a :: r)) h fun b h => f a b h
theorem on3_el {α : Type} {P : List α → Prop} {l : List α} {k : α → α → α → Bool} (h : on3 l k = true) (f : ∀ a b c, k a b c = true → P [a, b, c]) : P l :=
  onCons_el h fun a r h => on2_el (P := fun r => P (a :: r)) h fun b c h => f a b c h
theorem bl {a b : Bool} (h : (a && b) = true) : a = true := by cases a with | true => rfl | false => cases h
theorem br {a b : Bool} (h : (a && b) = true) : b = true := by cases a with | true => exact h | false => cases h
theorem bo {a b : Bool} (h : (a || b) = true) : a = true ∨ b = true := by cases a with | true => exact .inl rfl | false => exact .inr h
theorem bn {a : Bool} (h : (!a) = true) : a = false := by cases a with | true => cases h | false => rfl
theorem dec_el {α : Type} [DecidableEq α] {P : α → Prop} {x y : α} (h : decide (x = y) = true) (f : P y) : P x := of_decide_eq_true h ▸ f
theorem beq_el {P : Str → Prop} {x y : Str} (h : (x == y) = true) (f : P y) : P x := eq_of_beq h ▸ f
theorem dif_elim {p : Prop} [d : Decidable p] {f : p → Bool} (h : (if q : p then f q else false) = true) : ∃ q, f q = true := by
  by_cases q : p
  · rw [dif_pos q] at h; exact ⟨q, h⟩
  · first | exact (no (dif_neg q) h).elim | exact (no h (dif_neg q)).elim | obtain rfl := so (dif_neg q) h | (rw [dif_neg q] at h; cases h)
noncomputable def onName (x0 : Expr) (k0 : Str → Pos → Bool) : Bool := if h : x0.ctorIdx = 23 then Expr.Name.elim (motive_1 := fun _ => Bool) x0 h k0 else false
theorem onName_el {P : Expr → Prop} {x0 : Expr} {k0 : Str → Pos → Bool} (h : onName x0 k0 = true) (kf : ∀ x p, k0 x p = true → P (Expr.Name x p)) : P x0 := by
  obtain ⟨q, h⟩ := dif_elim h
  revert h
  exact Expr.Name.elim (motive_1 := fun x0 => ∀ q : x0.ctorIdx = 23, Expr.Name.elim (motive_1 := fun _ => Bool) x0 q k0 = true → P x0) x0 q (fun x p _ h => kf x p h) q
noncomputable def onConst (x0 : Expr) (k0 : Const → Nat → Pos → Bool) : Bool := if h : x0.ctorIdx = 19 then Expr.Constant.elim (motive_1 := fun _ => Bool) x0 h k0 else false
theorem onConst_el {P : Expr → Prop} {x0 : Expr} {k0 : Const → Nat → Pos → Bool} (h : onConst x0 k0 = true) (kf : ∀ c k p, k0 c k p = true → P (Expr.Constant c k p)) : P x0 := by
  obtain ⟨q, h⟩ := dif_elim h
  revert h
  exact Expr.Constant.elim (motive_1 := fun x0 => ∀ q : x0.ctorIdx = 19, Expr.Constant.elim (motive_1 := fun _ => Bool) x0 q k0 = true → P x0) x0 q (fun c k p _ h => kf c k p h) q
noncomputable def onTup (x0 : Expr) (k0 : List Expr → Nat → Pos → Bool) : Bool := if h : x0.ctorIdx = 25 then Expr.Tuple.elim (motive_1 := fun _ => Bool) x0 h k0 else false
theorem onTup_el {P : Expr → Prop} {x0 : Expr} {k0 : List Expr → Nat → Pos → Bool} (h : onTup x0 k0 = true) (kf : ∀ es k p, k0 es k p = true → P (Expr.Tuple es k p)) : P x0 := by
  obtain ⟨q, h⟩ := dif_elim h
  revert h
  exact Expr.Tuple.elim (motive_1 := fun x0 => ∀ q : x0.ctorIdx = 25, Expr.Tuple.elim (motive_1 := fun _ => Bool) x0 q k0 = true → P x0) x0 q (fun es k p _ h => kf es k p h) q
noncomputable def onListE (x0 : Expr) (k0 : List Expr → Pos → Bool) : Bool := if h : x0.ctorIdx = 24 then Expr.List.elim (motive_1 := fun _ => Bool) x0 h k0 else false
theorem onListE_el {P : Expr → Prop} {x0 : Expr} {k0 : List Expr → Pos → Bool} (h : onListE x0 k0 = true) (kf : ∀ es p, k0 es p = true → P (Expr.List es p)) : P x0 := by
  obtain ⟨q, h⟩ := dif_elim h
  revert h
  exact Expr.List.elim (motive_1 := fun x0 => ∀ q : x0.ctorIdx = 24, Expr.List.elim (motive_1 := fun _ => Bool) x0 q k0 = true → P x0) x0 q (fun es p _ h => kf es p h) q
noncomputable def onAttr (x0 : Expr) (k0 : Expr → Str → Pos → Bool) : Bool := if h : x0.ctorIdx = 20 then Expr.Attribute.elim (motive_1 := fun _ => Bool) x0 h k0 else false
theorem onAttr_el {P : Expr → Prop} {x0 : Expr} {k0 : Expr → Str → Pos → Bool} (h : onAttr x0 k0 = true) (kf : ∀ o nm p, k0 o nm p = true → P (Expr.Attribute o nm p)) : P x0 := by
  obtain ⟨q, h⟩ := dif_elim h
  revert h
  exact Expr.Attribute.elim (motive_1 := fun x0 => ∀ q : x0.ctorIdx = 20, Expr.Attribute.elim (motive_1 := fun _ => Bool) x0 q k0 = true → P x0) x0 q (fun o nm p _ h => kf o nm p h) q
noncomputable def onCall (x0 : Expr) (k0 : Expr → List Expr → List Keyword → Pos → Bool) : Bool := if h : x0.ctorIdx = 16 then Expr.Call.elim (motive_1 := fun _ => Bool) x0 h k0 else false
theorem onCall_el {P : Expr → Prop} {x0 : Expr} {k0 : Expr → List Expr → List Keyword → Pos → Bool} (h : onCall x0 k0 = true) (kf : ∀ f args kws p, k0 f args kws p = true → P (Expr.Call f args kws p)) : P x0 := by
  obtain ⟨q, h⟩ := dif_elim h
  revert h
  exact Expr.Call.elim (motive_1 := fun x0 => ∀ q : x0.ctorIdx = 16, Expr.Call.elim (motive_1 := fun _ => Bool) x0 q k0 = true → P x0) x0 q (fun f args kws p _ h => kf f args kws p h) q
noncomputable def onBin (x0 : Expr) (k0 : Expr → Operator → Expr → Pos → Bool) : Bool := if h : x0.ctorIdx = 2 then Expr.BinOp.elim (motive_1 := fun _ => Bool) x0 h k0 else false
theorem onBin_el {P : Expr → Prop} {x0 : Expr} {k0 : Expr → Operator → Expr → Pos → Bool} (h : onBin x0 k0 = true) (kf : ∀ l op r p, k0 l op r p = true → P (Expr.BinOp l op r p)) : P x0 := by
  obtain ⟨q, h⟩ := dif_elim h
  revert h
  exact Expr.BinOp.elim (motive_1 := fun x0 => ∀ q : x0.ctorIdx = 2, Expr.BinOp.elim (motive_1 := fun _ => Bool) x0 q k0 = true → P x0) x0 q (fun l op r p _ h => kf l op r p h) q
noncomputable def onCmp (x0 : Expr) (k0 : Expr → List CmpOp → List Expr → Pos → Bool) : Bool := if h : x0.ctorIdx = 15 then Expr.Compare.elim (motive_1 := fun _ => Bool) x0 h k0 else false
theorem onCmp_el {P : Expr → Prop} {x0 : Expr} {k0 : Expr → List CmpOp → List Expr → Pos → Bool} (h : onCmp x0 k0 = true) (kf : ∀ l ops rs p, k0 l ops rs p = true → P (Expr.Compare l ops rs p)) : P x0 := by
  obtain ⟨q, h⟩ := dif_elim h
  revert h
  exact Expr.Compare.elim (motive_1 := fun x0 => ∀ q : x0.ctorIdx = 15, Expr.Compare.elim (motive_1 := fun _ => Bool) x0 q k0 = true → P x0) x0 q (fun l ops rs p _ h => kf l ops rs p h) q
noncomputable def onBool (x0 : Expr) (k0 : BoolOp → List Expr → Pos → Bool) : Bool := if h : x0.ctorIdx = 0 then Expr.BoolOp.elim (motive_1 := fun _ => Bool) x0 h k0 else false
theorem onBool_el {P : Expr → Prop} {x0 : Expr} {k0 : BoolOp → List Expr → Pos → Bool} (h : onBool x0 k0 = true) (kf : ∀ op es p, k0 op es p = true → P (Expr.BoolOp op es p)) : P x0 := by
  obtain ⟨q, h⟩ := dif_elim h
  revert h
  exact Expr.BoolOp.elim (motive_1 := fun x0 => ∀ q : x0.ctorIdx = 0, Expr.BoolOp.elim (motive_1 := fun _ => Bool) x0 q k0 = true → P x0) x0 q (fun op es p _ h => kf op es p h) q
noncomputable def onUn (x0 : Expr) (k0 : UnaryOp → Expr → Pos → Bool) : Bool := if h : x0.ctorIdx = 3 then Expr.UnaryOp.elim (motive_1 := fun _ => Bool) x0 h k0 else false
theorem onUn_el {P : Expr → Prop} {x0 : Expr} {k0 : UnaryOp → Expr → Pos → Bool} (h : onUn x0 k0 = true) (kf : ∀ op a p, k0 op a p = true → P (Expr.UnaryOp op a p)) : P x0 := by
  obtain ⟨q, h⟩ := dif_elim h
  revert h
  exact Expr.UnaryOp.elim (motive_1 := fun x0 => ∀ q : x0.ctorIdx = 3, Expr.UnaryOp.elim (motive_1 := fun _ => Bool) x0 q k0 = true → P x0) x0 q (fun op a p _ h => kf op a p h) q
noncomputable def onIf (x0 : Expr) (k0 : Expr → Expr → Expr → Pos → Bool) : Bool := if h : x0.ctorIdx = 5 then Expr.IfExp.elim (motive_1 := fun _ => Bool) x0 h k0 else false
theorem onIf_el {P : Expr → Prop} {x0 : Expr} {k0 : Expr → Expr → Expr → Pos → Bool} (h : onIf x0 k0 = true) (kf : ∀ t a b p, k0 t a b p = true → P (Expr.IfExp t a b p)) : P x0 := by
  obtain ⟨q, h⟩ := dif_elim h
  revert h
  exact Expr.IfExp.elim (motive_1 := fun x0 => ∀ q : x0.ctorIdx = 5, Expr.IfExp.elim (motive_1 := fun _ => Bool) x0 q k0 = true → P x0) x0 q (fun t a b p _ h => kf t a b p h) q
noncomputable def onSub (x0 : Expr) (k0 : Expr → Expr → Pos → Bool) : Bool := if h : x0.ctorIdx = 21 then Expr.Subscript.elim (motive_1 := fun _ => Bool) x0 h k0 else false
theorem onSub_el {P : Expr → Prop} {x0 : Expr} {k0 : Expr → Expr → Pos → Bool} (h : onSub x0 k0 = true) (kf : ∀ a i p, k0 a i p = true → P (Expr.Subscript a i p)) : P x0 := by
  obtain ⟨q, h⟩ := dif_elim h
  revert h
  exact Expr.Subscript.elim (motive_1 := fun x0 => ∀ q : x0.ctorIdx = 21, Expr.Subscript.elim (motive_1 := fun _ => Bool) x0 q k0 = true → P x0) x0 q (fun a i p _ h => kf a i p h) q
noncomputable def onSlice (x0 : Expr) (k0 : Option Expr → Option Expr → Option Expr → Pos → Bool) : Bool := if h : x0.ctorIdx = 26 then Expr.Slice.elim (motive_1 := fun _ => Bool) x0 h k0 else false
theorem onSlice_el {P : Expr → Prop} {x0 : Expr} {k0 : Option Expr → Option Expr → Option Expr → Pos → Bool} (h : onSlice x0 k0 = true) (kf : ∀ a b c p, k0 a b c p = true → P (Expr.Slice a b c p)) : P x0 := by
  obtain ⟨q, h⟩ := dif_elim h
  revert h
  exact Expr.Slice.elim (motive_1 := fun x0 => ∀ q : x0.ctorIdx = 26, Expr.Slice.elim (motive_1 := fun _ => Bool) x0 q k0 = true → P x0) x0 q (fun a b c p _ h => kf a b c p h) q
noncomputable def onDict (x0 : Expr) (k0 : List (Option Expr) → List Expr → Pos → Bool) : Bool := if h : x0.ctorIdx = 6 then Expr.Dict.elim (motive_1 := fun _ => Bool) x0 h k0 else false
theorem onDict_el {P : Expr → Prop} {x0 : Expr} {k0 : List (Option Expr) → List Expr → Pos → Bool} (h : onDict x0 k0 = true) (kf : ∀ ks vs p, k0 ks vs p = true → P (Expr.Dict ks vs p)) : P x0 := by
  obtain ⟨q, h⟩ := dif_elim h
  revert h
  exact Expr.Dict.elim (motive_1 := fun x0 => ∀ q : x0.ctorIdx = 6, Expr.Dict.elim (motive_1 := fun _ => Bool) x0 q k0 = true → P x0) x0 q (fun ks vs p _ h => kf ks vs p h) q
noncomputable def onLC (x0 : Expr) (k0 : Expr → List Comprehension → Scope → Pos → Bool) : Bool := if h : x0.ctorIdx = 8 then Expr.ListComp.elim (motive_1 := fun _ => Bool) x0 h k0 else false
theorem onLC_el {P : Expr → Prop} {x0 : Expr} {k0 : Expr → List Comprehension → Scope → Pos → Bool} (h : onLC x0 k0 = true) (kf : ∀ elt gs sc p, k0 elt gs sc p = true → P (Expr.ListComp elt gs sc p)) : P x0 := by
  obtain ⟨q, h⟩ := dif_elim h
  revert h
  exact Expr.ListComp.elim (motive_1 := fun x0 => ∀ q : x0.ctorIdx = 8, Expr.ListComp.elim (motive_1 := fun _ => Bool) x0 q k0 = true → P x0) x0 q (fun elt gs sc p _ h => kf elt gs sc p h) q
noncomputable def onAssign (x0 : Stmt) (k0 : List Expr → Expr → Pos → Bool) : Bool := if h : x0.ctorIdx = 5 then Stmt.Assign.elim (motive_2 := fun _ => Bool) x0 h k0 else false
theorem onAssign_el {P : Stmt → Prop} {x0 : Stmt} {k0 : List Expr → Expr → Pos → Bool} (h : onAssign x0 k0 = true) (kf : ∀ ts e p, k0 ts e p = true → P (Stmt.Assign ts e p)) : P x0 := by
  obtain ⟨q, h⟩ := dif_elim h
  revert h
  exact Stmt.Assign.elim (motive_2 := fun x0 => ∀ q : x0.ctorIdx = 5, Stmt.Assign.elim (motive_2 := fun _ => Bool) x0 q k0 = true → P x0) x0 q (fun ts e p _ h => kf ts e p h) q
noncomputable def onAug (x0 : Stmt) (k0 : Expr → Operator → Expr → Pos → Bool) : Bool := if h : x0.ctorIdx = 7 then Stmt.AugAssign.elim (motive_2 := fun _ => Bool) x0 h k0 else false
theorem onAug_el {P : Stmt → Prop} {x0 : Stmt} {k0 : Expr → Operator → Expr → Pos → Bool} (h : onAug x0 k0 = true) (kf : ∀ t op e p, k0 t op e p = true → P (Stmt.AugAssign t op e p)) : P x0 := by
  obtain ⟨q, h⟩ := dif_elim h
  revert h
  exact Stmt.AugAssign.elim (motive_2 := fun x0 => ∀ q : x0.ctorIdx = 7, Stmt.AugAssign.elim (motive_2 := fun _ => Bool) x0 q k0 = true → P x0) x0 q (fun t op e p _ h => kf t op e p h) q
noncomputable def onRet (x0 : Stmt) (k0 : Option Expr → Pos → Bool) : Bool := if h : x0.ctorIdx = 3 then Stmt.Return.elim (motive_2 := fun _ => Bool) x0 h k0 else false
theorem onRet_el {P : Stmt → Prop} {x0 : Stmt} {k0 : Option Expr → Pos → Bool} (h : onRet x0 k0 = true) (kf : ∀ e p, k0 e p = true → P (Stmt.Return e p)) : P x0 := by
  obtain ⟨q, h⟩ := dif_elim h
  revert h
  exact Stmt.Return.elim (motive_2 := fun x0 => ∀ q : x0.ctorIdx = 3, Stmt.Return.elim (motive_2 := fun _ => Bool) x0 q k0 = true → P x0) x0 q (fun e p _ h => kf e p h) q
noncomputable def onExprS (x0 : Stmt) (k0 : Expr → Pos → Bool) : Bool := if h : x0.ctorIdx = 24 then Stmt.Expr.elim (motive_2 := fun _ => Bool) x0 h k0 else false
theorem onExprS_el {P : Stmt → Prop} {x0 : Stmt} {k0 : Expr → Pos → Bool} (h : onExprS x0 k0 = true) (kf : ∀ e p, k0 e p = true → P (Stmt.Expr e p)) : P x0 := by
  obtain ⟨q, h⟩ := dif_elim h
  revert h
  exact Stmt.Expr.elim (motive_2 := fun x0 => ∀ q : x0.ctorIdx = 24, Stmt.Expr.elim (motive_2 := fun _ => Bool) x0 q k0 = true → P x0) x0 q (fun e p _ h => kf e p h) q
noncomputable def onCont (x0 : Stmt) (k0 : Pos → Bool) : Bool := if h : x0.ctorIdx = 27 then Stmt.Continue.elim (motive_2 := fun _ => Bool) x0 h k0 else false
theorem onCont_el {P : Stmt → Prop} {x0 : Stmt} {k0 : Pos → Bool} (h : onCont x0 k0 = true) (kf : ∀ p, k0 p = true → P (Stmt.Continue p)) : P x0 := by
  obtain ⟨q, h⟩ := dif_elim h
  revert h
  exact Stmt.Continue.elim (motive_2 := fun x0 => ∀ q : x0.ctorIdx = 27, Stmt.Continue.elim (motive_2 := fun _ => Bool) x0 q k0 = true → P x0) x0 q (fun p _ h => kf p h) q
noncomputable def onIfS (x0 : Stmt) (k0 : Expr → List Stmt → List Stmt → Pos → Bool) : Bool := if h : x0.ctorIdx = 12 then Stmt.If.elim (motive_2 := fun _ => Bool) x0 h k0 else false
theorem onIfS_el {P : Stmt → Prop} {x0 : Stmt} {k0 : Expr → List Stmt → List Stmt → Pos → Bool} (h : onIfS x0 k0 = true) (kf : ∀ t a b p, k0 t a b p = true → P (Stmt.If t a b p)) : P x0 := by
  obtain ⟨q, h⟩ := dif_elim h
  revert h
  exact Stmt.If.elim (motive_2 := fun x0 => ∀ q : x0.ctorIdx = 12, Stmt.If.elim (motive_2 := fun _ => Bool) x0 q k0 = true → P x0) x0 q (fun t a b p _ h => kf t a b p h) q
noncomputable def onWhile (x0 : Stmt) (k0 : Expr → List Stmt → List Stmt → Pos → Bool) : Bool := if h : x0.ctorIdx = 11 then Stmt.While.elim (motive_2 := fun _ => Bool) x0 h k0 else false
theorem onWhile_el {P : Stmt → Prop} {x0 : Stmt} {k0 : Expr → List Stmt → List Stmt → Pos → Bool} (h : onWhile x0 k0 = true) (kf : ∀ t a b p, k0 t a b p = true → P (Stmt.While t a b p)) : P x0 := by
  obtain ⟨q, h⟩ := dif_elim h
  revert h
  exact Stmt.While.elim (motive_2 := fun x0 => ∀ q : x0.ctorIdx = 11, Stmt.While.elim (motive_2 := fun _ => Bool) x0 q k0 = true → P x0) x0 q (fun t a b p _ h => kf t a b p h) q
noncomputable def onFor (x0 : Stmt) (k0 : Expr → Expr → List Stmt → List Stmt → Pos → Bool) : Bool := if h : x0.ctorIdx = 9 then Stmt.For.elim (motive_2 := fun _ => Bool) x0 h k0 else false
theorem onFor_el {P : Stmt → Prop} {x0 : Stmt} {k0 : Expr → Expr → List Stmt → List Stmt → Pos → Bool} (h : onFor x0 k0 = true) (kf : ∀ x it a b p, k0 x it a b p = true → P (Stmt.For x it a b p)) : P x0 := by
  obtain ⟨q, h⟩ := dif_elim h
  revert h
  exact Stmt.For.elim (motive_2 := fun x0 => ∀ q : x0.ctorIdx = 9, Stmt.For.elim (motive_2 := fun _ => Bool) x0 q k0 = true → P x0) x0 q (fun x it a b p _ h => kf x it a b p h) q
noncomputable def onDel (x0 : Stmt) (k0 : List Expr → Pos → Bool) : Bool := if h : x0.ctorIdx = 4 then Stmt.Delete.elim (motive_2 := fun _ => Bool) x0 h k0 else false
theorem onDel_el {P : Stmt → Prop} {x0 : Stmt} {k0 : List Expr → Pos → Bool} (h : onDel x0 k0 = true) (kf : ∀ es p, k0 es p = true → P (Stmt.Delete es p)) : P x0 := by
  obtain ⟨q, h⟩ := dif_elim h
  revert h
  exact Stmt.Delete.elim (motive_2 := fun x0 => ∀ q : x0.ctorIdx = 4, Stmt.Delete.elim (motive_2 := fun _ => Bool) x0 q k0 = true → P x0) x0 q (fun es p _ h => kf es p h) q
noncomputable def onRaise (x0 : Stmt) (k0 : Option Expr → Option Expr → Pos → Bool) : Bool := if h : x0.ctorIdx = 16 then Stmt.Raise.elim (motive_2 := fun _ => Bool) x0 h k0 else false
theorem onRaise_el {P : Stmt → Prop} {x0 : Stmt} {k0 : Option Expr → Option Expr → Pos → Bool} (h : onRaise x0 k0 = true) (kf : ∀ a b p, k0 a b p = true → P (Stmt.Raise a b p)) : P x0 := by
  obtain ⟨q, h⟩ := dif_elim h
  revert h
  exact Stmt.Raise.elim (motive_2 := fun x0 => ∀ q : x0.ctorIdx = 16, Stmt.Raise.elim (motive_2 := fun _ => Bool) x0 q k0 = true → P x0) x0 q (fun a b p _ h => kf a b p h) q
noncomputable def onTry (x0 : Stmt) (k0 : List Stmt → List ExceptHandler → List Stmt → List Stmt → Pos → Bool) : Bool := if h : x0.ctorIdx = 17 then Stmt.Try.elim (motive_2 := fun _ => Bool) x0 h k0 else false
theorem onTry_el {P : Stmt → Prop} {x0 : Stmt} {k0 : List Stmt → List ExceptHandler → List Stmt → List Stmt → Pos → Bool} (h : onTry x0 k0 = true) (kf : ∀ a hs b f p, k0 a hs b f p = true → P (Stmt.Try a hs b f p)) : P x0 := by
  obtain ⟨q, h⟩ := dif_elim h
  revert h
  exact Stmt.Try.elim (motive_2 := fun x0 => ∀ q : x0.ctorIdx = 17, Stmt.Try.elim (motive_2 := fun _ => Bool) x0 q k0 = true → P x0) x0 q (fun a hs b f p _ h => kf a hs b f p h) q
noncomputable def constIs (k : Const) (v : V) : Bool := match v with
  | .int j => (match k with | .int i => i == j | _ => false)
  | .str j => (match k with | .str i => i == j | _ => false)
  | .bool j => (match k with | .bool i => i == j | _ => false)
  | .none => (match k with | .none => true | _ => false)
  | _ => false
noncomputable def globIs (I : Inf) (x : Str) (v : V) : Bool := okGlob I x && (match I.T.glob x with | some u => V.eqc 6 u v | none => false)
mutual
noncomputable def chkE : Nat → Inf → Expr → E → Bool
  | 0, _, _, _ => false
  | n + 1, I, t, e => match e with
    | .const v => (onName t fun x _ => globIs I x v) || (onConst t fun k _ _ => constIs k v)
    | .var i => onName t fun x _ => isVar I x i
    | .tup fs => onTup t fun es _ _ => chkL n I es fs
    | .list fs => onListE t fun es _ => chkL n I es fs
    | .attr e i => onAttr t fun o nm _ => okBase o && nm == an i && chkE n I o e
    | .call f es => onCall t fun f' args kws _ => onName f' fun x _ => onNil kws (globIs I x (.ref f) && I.T.fn f && args.all plainE && chkL n I args es)
    | .bcall b es => onCall t fun f' args kws _ => onName f' fun x _ => onNil kws (globIs I x (.prim b.val) && args.all plainE && chkL n I args es)
    | .meth e i es => onCall t fun f' args kws pos => onAttr f' fun o nm apos => onNil kws (okBase o && nm == an i && args.all plainE && decide (args.length < 25) && apos.endLine == pos.line && chkE n I o e && chkL n I args es)
    | .append e x => onCall t fun f' args kws pos => onAttr f' fun o nm apos => onNil kws (on1 args fun a => okBase o && nm == ("append" : Str) && plainE a && apos.endLine == pos.line && chkE n I o e && chkE n I a x)
    | .pop e => onCall t fun f' args kws pos => onAttr f' fun o nm apos => onNil kws (onNil args (okBase o && nm == ("pop" : Str) && apos.endLine == pos.line && chkE n I o e))
    | .get e k d => onCall t fun f' args kws pos => onAttr f' fun o nm apos => onNil kws (on2 args fun a b => okBase o && nm == ("get" : Str) && plainE a && plainE b && apos.endLine == pos.line && chkE n I o e && chkE n I a k && chkE n I b d)
    | .add e x => onCall t fun f' args kws pos => onAttr f' fun o nm apos => onNil kws (on1 args fun a => okBase o && nm == ("add" : Str) && plainE a && apos.endLine == pos.line && chkE n I o e && chkE n I a x)
    | .bin op' l' r' => onBin t fun l op r _ => decide (op = op') && chkE n I l l' && chkE n I r r'
    | .cmp op' l' r' => onCmp t fun l ops rs _ => on1 ops fun op => on1 rs fun r => decide (op = op') && !(behindInMarks op r) && chkE n I l l' && chkE n I r r'
    | .and l' r' => onBool t fun op es _ => decide (op = .And) && on2 es fun l r => chkE n I l l' && chkE n I r r'
    | .or l' r' => onBool t fun op es _ => decide (op = .Or) && on2 es fun l r => chkE n I l l' && chkE n I r r'
    | .not a' => onUn t fun op a _ => decide (op = .Not) && chkE n I a a'
    | .ite t' a' b' => onIf t fun t a b _ => chkE n I t t' && chkE n I a a' && chkE n I b b'
    | .neg a' => onUn t fun op a _ => decide (op = .USub) && chkE n I a a'
    | .sub a' i' => onSub t fun a i _ => chkE n I a a' && chkE n I i i'
    | .sliceTo a' i' => onSub t fun a s _ => onSlice s fun lo up st _ => onNone lo (onSome up fun i => onNone st (chkE n I a a' && chkE n I i i'))
    | .sliceFrom a' i' => onSub t fun a s _ => onSlice s fun lo up st _ => onSome lo fun i => onNone up (onNone st (chkE n I a a' && chkE n I i i'))
    | .rev a' i' => onSub t fun a s _ => onSlice s fun lo up st _ => onNone lo (onNone up (onSome st fun i => chkE n I a a' && chkE n I i i'))
    | .dict0 _ => onDict t fun ks vs _ => onNil ks (onNil vs (true))
    | .dict3 a0 b0 a1 b1 a2 b2 => onDict t fun ks vs _ => on3 ks fun k0 k1 k2 => on3 vs fun v0 v1 v2 => onSome k0 fun k0 => onSome k1 fun k1 => onSome k2 fun k2 => chkE n I k0 a0 && chkE n I v0 b0 && chkE n I k1 a1 && chkE n I v1 b1 && chkE n I k2 a2 && chkE n I v2 b2
    | .comp xi fr it test elt' => onLC t fun elt gs scope _ => on1 gs fun g => decide (g.is_async = 0) && onName g.target fun x _ => (fun iter ifs => isVar I x xi && okScope I scope x fr && noSet iter && chkI n I iter it && chkT n { I with names := reName scope.names I.names } ifs test && chkE n { I with names := reName scope.names I.names } elt elt') g.iter g.ifs
noncomputable def chkL : Nat → Inf → List Expr → Es → Bool
  | 0, _, _, _ => false
  | n + 1, I, ts, es => match ts, es with
    | [], .nil => true
    | t :: ts, .cons e es => plainE t && chkE n I t e && chkL n I ts es
    | _, _ => false
noncomputable def chkI : Nat → Inf → Expr → It → Bool
  | 0, _, _, _ => false
  | n + 1, I, t, it => match it with
    | .seq e => chkE n I t e
    | .range es => onCall t fun f' args kws _ => onName f' fun x _ => onNil kws (globIs I x (.prim (.type "range")) && args.all plainE && !args.isEmpty && chkL n I args es)
noncomputable def chkT : Nat → Inf → List Expr → Option' → Bool
  | 0, _, _, _ => false
  | n + 1, I, ts, o => match ts, o with
    | [], .none => true
    | [t], .some e => chkE n I t e
    | _, _ => false
end
mutual
noncomputable def chkS : Nat → Inf → Stmt → S → Bool
  | 0, _, _, _ => false
  | n + 1, I, t, s => match s with
    | .asgn i e' => onAssign t fun ts e _ => on1 ts fun tg => onName tg fun x _ => isVar I x i && okKind I x && noComp e && chkE n I e e'
    | .asgnA o' i e' => onAssign t fun ts e _ => on1 ts fun tg => onAttr tg fun o nm _ => nm == an i && noComp e && chkE n I e e' && chkE n I o o'
    | .asgnS o' i' e' => onAssign t fun ts e _ => on1 ts fun tg => onSub tg fun o i _ => noComp e && chkE n I e e' && chkE n I o o' && chkE n I i i'
    | .unpack i j e' => onAssign t fun ts e _ => on1 ts fun tg => onTup tg fun es _ _ => on2 es fun x y => onName x fun x _ => onName y fun y _ => isVar I x i && isVar I y j && okKind I x && okKind I y && noComp e && noTup e && chkE n I e e'
    | .augN i e' => onAug t fun tg op e _ => decide (op = .Add) && onName tg fun x _ => isVar I x i && okKind I x && chkE n I e e'
    | .augS o' i' e' => onAug t fun tg op e _ => decide (op = .Add) && onSub tg fun o i _ => noSlice i && chkE n I o o' && chkE n I i i' && chkE n I e e'
    | .asgnC j xi fr it test elt' => onAssign t fun ts e spos => on1 ts fun tg => onName tg fun y p => onLC e fun elt gs scope pos => on1 gs fun g => decide (g.is_async = 0) && onName g.target fun x px => (fun iter ifs => isVar I y j && I.names.lookup y == some .local && p.line == pos.line && !(scope.names.any fun (z, k) => z == y && (k == .local || k == .cell)) && isVar I x xi && okScope I scope x fr && noSet iter && chkI n I iter it && chkT n { I with names := reName scope.names I.names } ifs test && chkE n { I with names := reName scope.names I.names } elt elt') g.iter g.ifs
    | .ret e' => onRet t fun e _ => onSome e fun e => chkE n I e e'
    | .ret0 => onRet t fun e _ => onNone e (true)
    | .expr e' => onExprS t fun e _ => noComp e && chkE n I e e'
    | .cont => onCont t fun _ => true
    | .ite t' a' b' => onIfS t fun t a b _ => chkE n I t t' && chkSs n I a a' && chkSs n I b b'
    | .whl t' b' => onWhile t fun t b el _ => onNil el (chkE n I t t' && chkSs n I b b')
    | .loop i it' b' => onFor t fun tg it b el _ => onName tg fun x _ => onNil el (isVar I x i && okKind I x && noSet it && chkI n I it it' && chkSs n I b b')
    | .delF e' i' => onDel t fun es _ => on1 es fun tg => onSub tg fun e s _ => onSlice s fun lo up st _ => onSome lo fun i => onNone up (onNone st (chkE n I e e' && chkE n I i i'))
    | .raise e' => onRaise t fun e b _ => onSome e fun e => onNone b (chkE n I e e')
noncomputable def chkSs : Nat → Inf → List Stmt → Ss → Bool
  | 0, _, _, _ => false
  | n + 1, I, ts, ss => match ts, ss with
    | [], .nil => true
    | t :: ts, .cons s ss => chkS n I t s && chkSs n I ts ss
    | _, _ => false
end
end Mine

namespace Mine
open PySem PySem.Calls PySem.Spec PyProof.Rows PySem.W

/-- the locals by number -/
noncomputable def locOf : List Str → Lo → Loc
  | [], _, _ => none
  | n :: ns, lo, x => if x = n then lo 0 else locOf ns (fun i => lo (i + 1)) x
theorem locOf_get : ∀ {ns : List Str} {lo : Lo} {i : Nat} {x : Str}, ns.Nodup → ns[i]? = some x → locOf ns lo x = lo i
  | [], _, _, _, _, e => by simp at e
  | m :: ns, lo, 0, x, _, e => by simp at e; subst e; simp [locOf]
  | m :: ns, lo, i + 1, x, nd, e => by
    have hm : x ∈ ns := List.mem_of_getElem? (by simpa using e)
    have hne : x ≠ m := by rintro rfl; exact (List.nodup_cons.mp nd).1 hm
    simp only [locOf, hne, if_false]
    exact locOf_get (List.nodup_cons.mp nd).2 (by simpa using e)
theorem locOf_none : ∀ {ns : List Str} {lo : Lo} {x : Str}, x ∉ ns → locOf ns lo x = none
  | [], _, _, _ => rfl
  | m :: ns, lo, x, h => by
    simp only [List.mem_cons, not_or] at h
    simp only [locOf, h.1, if_false]
    exact locOf_none h.2
theorem locOf_up : ∀ {ns : List Str} {lo : Lo} {i : Nat} {x : Str} {v : V}, ns.Nodup → ns[i]? = some x → locOf ns (upN lo i v) = put (locOf ns lo) x v := by
  intro ns lo i x v nd e
  funext y
  by_cases hy : y ∈ ns
  · obtain ⟨j, hj⟩ := List.mem_iff_getElem?.mp hy
    rw [locOf_get nd hj]
    unfold put
    by_cases hyx : y = x
    · subst hyx
      have : j = i := by
        have h1 : j < ns.length := by
          rcases Nat.lt_or_ge j ns.length with q | q
          · exact q
          · first | exact (no (List.getElem?_eq_none q) hj).elim | exact (no hj (List.getElem?_eq_none q)).elim | obtain rfl := so (List.getElem?_eq_none q) hj | (rw [List.getElem?_eq_none q] at hj; cases hj)
        exact (List.getElem?_inj h1 nd).mp (hj.trans e.symm)
      subst this
      simp [upN]
    · rw [if_neg hyx, locOf_get nd hj]
      have : j ≠ i := by rintro rfl; (first | exact (no hj e).elim | exact (no e hj).elim | obtain rfl := so hj e | (rw [hj] at e; cases e)); exact hyx rfl
      simp [upN, this]
  · have : y ≠ x := by rintro rfl; exact hy (List.mem_of_getElem? e)
    rw [locOf_none hy]
    unfold put
    rw [if_neg this, locOf_none hy]
theorem locOf_mask {ns : List Str} {lo : Lo} {fr : List Nat} {scope : Scope} (nd : ns.Nodup) (h : ∀ i z, ns[i]? = some z → fr.contains i = (scope.names.lookup z == some .free)) : innerLoc scope (locOf ns lo) = locOf ns (mask fr lo) := by
  funext x
  unfold innerLoc
  by_cases hx : x ∈ ns
  · obtain ⟨i, hi⟩ := List.mem_iff_getElem?.mp hx
    rw [locOf_get nd hi, locOf_get nd hi]
    unfold mask
    rw [h i x hi]
    by_cases q : scope.names.lookup x = some .free
    · simp [q]
    · simp [q]
  · rw [locOf_none hx, locOf_none hx]; split <;> rfl
theorem binds_congr : ∀ {z : List (Str × V)} {l l' : Loc} {x : Str}, l x = l' x → binds z l x = binds z l' x
  | [], _, _, _, h => h
  | (n, v) :: z, l, l', x, h => by
    refine binds_congr (z := z) ?_
    unfold put; split
    · rfl
    · exact h
theorem binds_notin : ∀ {ps : List Str} {xs : List V} {l : Loc} {x : Str}, x ∉ ps → binds (ps.zip xs) l x = l x
  | [], _, _, _, _ => rfl
  | _ :: _, [], _, _, _ => rfl
  | p :: ps, a :: as, l, x, h => by
    simp only [List.mem_cons, not_or] at h
    show binds (ps.zip as) (put l p a) x = l x
    rw [binds_notin h.2]
    unfold put; rw [if_neg h.1]
theorem binds_loc : ∀ {ps more : List Str} {xs : List V}, (ps ++ more).Nodup → xs.length = ps.length → binds (ps.zip xs) (fun _ => none) = locOf (ps ++ more) fun i => xs[i]?
  | [], more, [], _, _ => by
    funext x
    show none = locOf more _ x
    by_cases hx : x ∈ more
    · rename_i nd _
      obtain ⟨i, hi⟩ := List.mem_iff_getElem?.mp hx
      rw [locOf_get (by simpa using nd) hi]; simp
    · rw [locOf_none hx]
  | [], _, _ :: _, _, h => by cases h
  | _ :: _, _, [], _, h => by cases h
  | p :: ps, more, a :: as, nd, h => by
    funext x
    have nd' := List.nodup_cons.mp nd
    show binds (ps.zip as) (put (fun _ => none) p a) x = if x = p then some a else locOf (ps ++ more) (fun i => as[i]?) x
    by_cases hx : x = p
    · subst hx
      rw [if_pos rfl, binds_notin fun q => nd'.1 (List.mem_append_left _ q)]
      unfold put; rw [if_pos rfl]
    · rw [if_neg hx, ← binds_loc nd'.2 (by simpa using h)]
      exact binds_congr (by unfold put; rw [if_neg hx])

structure Fits (I : Inf) (c : Cx) : Prop where
  T : c.T = I.T
  names : c.env.scope.names = I.names
  cells : ∀ x, I.names.lookup x = some .cell → (c.env.cells.lookup x).isSome = true
  nd : I.ns.Nodup
theorem Fits.withX {I : Inf} {c : Cx} (F : Fits I c) (X : Value → Shared → Prop) : Fits I (c.withX X) := ⟨F.T, F.names, F.cells, F.nd⟩
theorem eqcs_eq {f : V → V → Bool} (hf : ∀ a b, f a b = true → a = b) : ∀ (l m : List V), eqcs f l m = true → l = m
  | [], m, h => by cases m with | nil => rfl | cons _ _ => cases h
  | a :: l, m, h => by
    cases m with
    | nil => cases h
    | cons b m => rw [hf a b (bl h), eqcs_eq hf l m (br h)]
theorem eqc_eq : ∀ (n : Nat) (a b : V), V.eqc n a b = true → a = b
  | 0, _, _, h => by cases h
  | n + 1, a, b, h => by
    cases a <;> cases b <;> first | exact congrArg _ (eq_of_beq h) | rfl | exact congrArg _ (eqcs_eq (eqc_eq n) _ _ h) | cases h
theorem rename_eq {env : Env} {names : List (Str × NameKind)} (hk : env.scope.kind = .function) (scope : Scope) (hn : env.scope.names = names) : (relabel scope env).names = reName scope.names names := by
  unfold relabel reName Env.kindOf
  rw [hk, hn]
  simp
theorem reName_cell {names outer : List (Str × NameKind)} {x : Str} (hc : ∀ y ∈ names, y.2 ≠ .cell) (h : (reName names outer).lookup x = some .cell) : names.lookup x = some .free := by
  induction names with
  | nil => cases h
  | cons y names ih =>
    obtain ⟨m, k⟩ := y
    have ih' := ih fun y hy => hc y (.tail _ hy)
    have h' : List.lookup x ((if (k == .free && outer.lookup m == some .cell) = true then (m, NameKind.cell) else (m, k)) :: reName names outer) = some .cell := h
    by_cases e : x = m
    · subst e
      by_cases q : (k == .free && outer.lookup x == some .cell) = true
      · simp only [Bool.and_eq_true, beq_iff_eq] at q
        simp [q.1]
      · rw [if_neg q] at h'
        simp only [List.lookup_cons, beq_self_eq_true] at h'
        cases h'
        exact absurd rfl (hc (x, .cell) (.head _))
    · have hb : (x == m) = false := beq_eq_false_iff_ne.mpr e
      rw [List.lookup_cons, hb]
      split at h'
      · rw [List.lookup_cons, hb] at h'; exact ih' h'
      · rw [List.lookup_cons, hb] at h'; exact ih' h'
theorem okScope_ok {I : Inf} {c : Cx} {scope : Scope} {x : Str} {fr : List Nat} (F : Fits I c) (h : okScope I scope x fr = true) : ScopeOk c.env scope x ∧ (∀ i z, I.ns[i]? = some z → fr.contains i = (scope.names.lookup z == some .free)) := by
  unfold okScope at h
  simp only [Bool.and_eq_true, List.all_eq_true, beq_iff_eq, Bool.or_eq_true, bne_iff_ne, ne_eq] at h
  obtain ⟨⟨⟨h1, h2⟩, h3⟩, h4⟩ := h
  refine ⟨⟨h1, fun y hy e => ((h3 y hy).1.1).resolve_left fun q => q e, fun y hy => (h3 y hy).1.2, h2, fun y hy e => ?_, fun y hy e => (((h3 y hy).2).resolve_left fun q => q e).2⟩, fun i z hz => ?_⟩
  · have hc := (((h3 y hy).2).resolve_left fun q => q e).1
    exact ⟨by unfold Env.kindOf; rw [F.names]; exact hc, F.cells _ hc⟩
  · have hi : i < I.ns.length := by
      rcases Nat.lt_or_ge i I.ns.length with q | q
      · exact q
      · first | exact (no (List.getElem?_eq_none q) hz).elim | exact (no hz (List.getElem?_eq_none q)).elim | obtain rfl := so (List.getElem?_eq_none q) hz | (rw [List.getElem?_eq_none q] at hz; cases hz)
    have := h4 i (List.mem_range.mpr hi)
    rw [hz] at this
    exact this
theorem Fits.inner {I : Inf} {c : Cx} (F : Fits I c) (K : CxOk c) {scope : Scope} {x : Str} (S : ScopeOk c.env scope x) (C : Addr) (X : Value → Shared → Prop) : Fits { I with names := reName scope.names I.names } (c.inner scope C X) where
  T := F.T
  names := rename_eq K.kind scope F.names
  cells y h := by
    have hf := reName_cell S.cell h
    obtain ⟨a, ha⟩ := Option.isSome_iff_exists.mp (S.free (y, .free) (lookup_mem hf) rfl).2
    have := cl_some hf ha S.free
    show ((clOf scope c.env).lookup y).isSome = true
    rw [this]; rfl
  nd := F.nd
theorem kindOk_of {I : Inf} {c : Cx} (F : Fits I c) {x : Str} (h : okKind I x = true) : KindOk c x := by
  unfold okKind at h
  simp only [Bool.or_eq_true, beq_iff_eq] at h
  unfold KindOk Env.kindOf
  rw [F.names]
  rcases h with h | h
  · exact .inl h
  · exact .inr ⟨h, F.cells x h⟩
end Mine

namespace Mine
open PySem PySem.Calls PySem.Spec PyProof.Rows PySem.W

section
variable {prog : Program} {c : Cx} {loc : Loc} {H : HM} {n k : Nat}
theorem TL.mono {t : Sem (List Value)} {Q Q' : List V → HM → Prop} (h : TL prog c n k t loc H Q) (hQ : ∀ r H', Q r H' → Q' r H') : TL prog c n k t loc H Q' := fun B dp un s R G =>
  wpAny_mono (h B dp un s R G) (fun _ _ z0 => by obtain ⟨r, H', a, b, q⟩ := z0; exact ⟨r, H', a, b, hQ r H' q⟩) fun _ _ x => x
theorem TB.mono {t : Sem Bool} {Q Q' : Bool → HM → Prop} (h : TB prog c n k t loc H Q) (hQ : ∀ r H', Q r H' → Q' r H') : TB prog c n k t loc H Q' := fun B dp un s R G =>
  wpAny_mono (h B dp un s R G) (fun _ _ z0 => by obtain ⟨H', b, q⟩ := z0; exact ⟨H', b, hQ _ H' q⟩) fun _ _ x => x
theorem TF.mono {t : Sem Flow} {Q Q' : QF} (h : TF prog c n k t loc H Q) (hQ : ∀ r l H', Q r l H' → Q' r l H') : TF prog c n k t loc H Q' := fun B dp un s R G =>
  wpAny_mono (h B dp un s R G) (fun _ _ z0 => by obtain ⟨r, l, H', a, b, q⟩ := z0; exact ⟨r, l, H', a, b, hQ r l H' q⟩) fun _ _ x => x
theorem TIt.mono {t : Sem Value} {Q Q' : List V → (HM → Prop) → HM → Prop} (h : TIt prog c n k t loc H Q) (hQ : ∀ l fix H', Q l fix H' → Q' l fix H') : TIt prog c n k t loc H Q' := fun B dp un s R G =>
  wpAny_mono (h B dp un s R G) (fun _ _ h1 => wpAny_mono h1 (fun _ _ z0 => by induction z0 with | mk W G' S hSt q => exact .mk W G' S hSt (hQ _ _ _ q)) fun _ _ x => x) fun _ _ x => x
theorem TTs.mono {ifs : List Expr} {Q Q' : Bool → HM → Prop} (h : TTs prog c n k ifs loc H Q) (hQ : ∀ r H', Q r H' → Q' r H') : TTs prog c n k ifs loc H Q' := by
  match ifs, h with
  | [], h => exact hQ _ _ h
  | [t], h => exact TB.mono h hQ
theorem tv_dict0P {pos : Pos} {Q : QV} (h : ∀ d, H d = none → Q (.ref d) (upd H d (.dictP []))) : TV prog c n k (eval (.Dict [] [] pos) c.env) loc H Q := fun B dp un s R G =>
  wpAny_Dict_empty ⟨.ref _, _, .ref _, G.new (m := .dictP []) ⟨[], Heap.DictOfH.new _, .nil⟩, h _ G.newNone⟩
theorem op_sA (K : CxOk c) {B : Heap} {s : Shared} (G : Good prog c B loc H s) {u w' : Value} {x y : V} {nm : Str} {A : Around} {E : Value → Shared → Prop} {Q : HM → Prop} (r : Rep s.heap u x) (ry : Rep s.heap w' y) (h : sA c.T x nm y H Q) :
    wpAny (model prog c.w) A (setAttr u nm w') (PU prog c B loc Q) E s := by
  rcases h with h | ⟨a, tb, rfl, e, rfl, h⟩
  · exact op_setA K G r ry h
  · obtain rfl := r.invRef
    exact op_setExc K G K.tab.exc.1 K.tab.exc.2.2.none e ry fun s' d h1 h2 G' => ⟨_, G', h d h1 h2⟩
theorem tf_asgnA (K : CxOk c) {o e : Expr} {nm : Str} {p pos : Pos} {Q : QF} (hs : swapsWith e (some (.Attribute o nm p)) pos.line c.env = pure false)
    (h : TV prog c n k (eval e c.env) loc H fun v H1 => TV prog c n k (eval o c.env) loc H1 fun x H2 => sA c.T x nm v H2 fun H3 => Q .next loc H3) :
    TF prog c n k (exec (.Assign [.Attribute o nm p] e pos) c.env) loc H Q := fun B dp un s R G =>
  plainObj_wpAny_Assign_Attribute (h.run K R G fun v y H1 s1 ry F q => q.run K R F.g fun u x H2 s2 rx F2 q2 =>
    wpAny_mono (op_sA K F2.g rx (Rep.mono F2.kt ry) q2) (fun _ _ z0 => by obtain ⟨H3, G3, q3⟩ := z0; exact ⟨.next, loc, H3, .next, G3, q3⟩) fun _ _ x => x) hs
theorem sA_mono {T : Tab} {x y : V} {nm : Str} {Q Q' : HM → Prop} (h : sA T x nm y H Q) (hQ : ∀ H', Q H' → Q' H') : sA T x nm y H Q' := by
  rcases h with ⟨a, C, d, l, h1, h2, h3, h4, h5, h6⟩ | ⟨a, tb, h1, h2, h3, h⟩
  · exact .inl ⟨a, C, d, l, h1, h2, h3, h4, h5, hQ _ h6⟩
  · exact .inr ⟨a, tb, h1, h2, h3, fun d h4 h5 => hQ _ (h d h4 h5)⟩
theorem tv_bi (K : CxOk c) {o : Expr} {nm : String} {apos pos : Pos} {args : List Expr} (ho : okBase o = true) (hp : args.all plainE = true) (hl : args.length < 25) (hpos : (apos.endLine == pos.line) = true) {Q : QV}
    (h : TV prog c n k (eval o c.env) loc H fun x H1 => gmB nm x H1 fun f fs H2 => TA prog c n k pos args loc H2 fun xs H3 => CWat prog c n f (fs ++ xs) H3 Q) :
    TV prog c n k (eval (.Call (.Attribute o nm apos) args [] pos) c.env) loc H Q :=
  tv_meth K ho hp hl hpos (gmB nm) (fun B dp un s u x H P pl PP G ru hx hP => op_gmB G ru hx hP) h
theorem tv_im (K : CxOk c) {o : Expr} {nm : Str} {apos pos : Pos} {args : List Expr} (ho : okBase o = true) (hp : args.all plainE = true) (hl : args.length < 25) (hpos : (apos.endLine == pos.line) = true) {Q : QV}
    (h : TV prog c n k (eval o c.env) loc H fun x H1 => gmI c.T nm x H1 fun f fs H2 => TA prog c n k pos args loc H2 fun xs H3 => CWat prog c n f (fs ++ xs) H3 Q) :
    TV prog c n k (eval (.Call (.Attribute o nm apos) args [] pos) c.env) loc H Q :=
  tv_meth K ho hp hl hpos (gmI c.T nm) (fun B dp un s u x H P pl PP G ru hx hP => op_gmI K G ru hx hP) h
theorem gmI_mono {T : Tab} {nm : Str} {x : V} {P P' : Value → List V → HM → Prop} (h : gmI T nm x H P) (hP : ∀ f fs, P f fs H → P' f fs H) : gmI T nm x H P' := by
  obtain ⟨a, C, d, f, l, h1, h2, h3, h4, h5, h6⟩ := h
  exact ⟨a, C, d, f, l, h1, h2, h3, h4, h5, hP _ _ h6⟩
theorem ta_of {pos : Pos} {args : List Expr} {Q : List V → HM → Prop} (h0 : args = [] → Q [] H) (h1 : args ≠ [] → TL prog c n k (spliced (backTo pos (starEach args c.env))) loc H Q) : TA prog c n k pos args loc H Q := by
  cases args with
  | nil => exact h0 rfl
  | cons e es => exact h1 fun q => by cases q
end
/-- what a checked expression does -/
structure SoE (prog : Program) (n k : Nat) (X : Addr → HM → Prop) (I : Inf) (c : Cx) (t : Expr) (e : E) : Prop where
  v : ∀ lo H Q, wpE prog I.T n X e lo H Q → TV prog c n k (eval t c.env) (locOf I.ns lo) H Q
  b : ∀ lo H Q, wpB prog I.T n X e lo H Q → TB prog c n k (isTrue t c.env (eval t c.env)) (locOf I.ns lo) H Q
noncomputable def SoL (prog : Program) (n k : Nat) (X : Addr → HM → Prop) (I : Inf) (c : Cx) (ts : List Expr) (es : Es) : Prop := ∀ pos lo H Q, wpL prog I.T n X es lo H Q → TL prog c n k (spliced (backTo pos (starEach ts c.env))) (locOf I.ns lo) H Q
noncomputable def SE (prog : Program) (n k fuel : Nat) : Prop := ∀ X I c, CxOk c → Fits I c → XRun prog c I.T.exc X → ∀ t e, chkE fuel I t e = true → SoE prog n k X I c t e
noncomputable def SL (prog : Program) (n k fuel : Nat) : Prop := ∀ X I c, CxOk c → Fits I c → XRun prog c I.T.exc X → ∀ ts es, chkL fuel I ts es = true → SoL prog n k X I c ts es
noncomputable def SI (prog : Program) (n k fuel : Nat) : Prop := ∀ X I c, CxOk c → Fits I c → XRun prog c I.T.exc X → ∀ t it, chkI fuel I t it = true → ∀ lo H Q, wpI prog I.T n X it lo H Q → TIt prog c n k (eval t c.env) (locOf I.ns lo) H Q
noncomputable def ST (prog : Program) (n k fuel : Nat) : Prop := ∀ X I c, CxOk c → Fits I c → XRun prog c I.T.exc X → ∀ ts o, chkT fuel I ts o = true → ∀ lo H Q, wpT prog I.T n X o lo H Q → TTs prog c n k ts (locOf I.ns lo) H Q
section
variable {prog : Program} {n k : Nat} {X : Addr → HM → Prop} {I : Inf} {c : Cx} {lo : Lo} {H : HM}
theorem SoE.vm {t : Expr} {e : E} (S : SoE prog n k X I c t e) {Q Q' : QV} (w : wpE prog I.T n X e lo H Q) (f : ∀ r H', Q r H' → Q' r H') : TV prog c n k (eval t c.env) (locOf I.ns lo) H Q' := (S.v lo H Q w).mono f
theorem SoE.bm {t : Expr} {e : E} (S : SoE prog n k X I c t e) {Q Q' : Bool → HM → Prop} (w : wpB prog I.T n X e lo H Q) (f : ∀ r H', Q r H' → Q' r H') : TB prog c n k (isTrue t c.env (eval t c.env)) (locOf I.ns lo) H Q' := (S.b lo H Q w).mono f
theorem SoE.only {t : Expr} {e : E} (v : ∀ lo H Q, wpE prog I.T n X e lo H Q → TV prog c n k (eval t c.env) (locOf I.ns lo) H Q) (b : ∀ lo H Q, wpB prog I.T n X e lo H Q → False) : SoE prog n k X I c t e := ⟨v, fun lo H Q w => (b lo H Q w).elim⟩
theorem SoE.val (K : CxOk c) {t : Expr} {e : E} (ht : plainT t = true) (v : ∀ lo H Q, wpE prog I.T n X e lo H Q → TV prog c n k (eval t c.env) (locOf I.ns lo) H Q) (b : ∀ lo H Q, wpB prog I.T n X e lo H Q → wpE prog I.T n X e lo H fun x H1 => ∃ b, x = .bool b ∧ Q b H1) : SoE prog n k X I c t e := ⟨v, fun lo H Q w => tb_val K ht (v lo H _ (b lo H Q w))⟩
theorem chkL_nil {fuel : Nat} {I : Inf} {es : Es} (h : chkL fuel I [] es = true) : es = .nil := by
  cases fuel with
  | zero => cases h
  | succ n => cases es with
    | nil => rfl
    | cons _ _ => cases h
theorem SoL.ta {fuel : Nat} {ts : List Expr} {es : Es} (h : chkL fuel I ts es = true) (S : SoL prog n k X I c ts es) {pos : Pos} {Q Q' : List V → HM → Prop} (w : wpL prog I.T n X es lo H Q) (f : ∀ xs H', Q xs H' → Q' xs H') : TA prog c n k pos ts (locOf I.ns lo) H Q' :=
  ta_of (fun e => by subst e; obtain rfl := chkL_nil h; exact f _ _ w) fun _ => (S pos lo H Q w).mono f
end
section
variable {prog : Program} {n k : Nat}
theorem soundL (fuel : Nat) (hE : SE prog n k fuel) (hL : SL prog n k fuel) : SL prog n k (fuel + 1) := by
  intro X I c K F XR ts es h pos lo H Q w
  cases ts with
  | nil => cases es with
    | nil => exact tl_nil w
    | cons _ _ => cases h
  | cons t ts => cases es with
    | nil => cases h
    | cons e es => exact tl_cons K (starEach_plain (bl (bl h))) ((hE X I c K F XR _ _ (br (bl h))).vm w fun x H1 q => hL X I c K F XR _ _ (br h) pos _ _ _ q)
theorem soundT (fuel : Nat) (hE : SE prog n k fuel) : ST prog n k (fuel + 1) := by
  intro X I c K F XR ts o h lo H Q w
  cases ts with
  | nil => cases o with
    | none => exact w
    | some _ => cases h
  | cons t ts => cases ts with
    | nil => cases o with
      | none => cases h
      | some e => exact (hE X I c K F XR _ _ h).b _ _ _ w
    | cons _ _ => cases h
theorem ne_nil {α : Type} {l : List α} (h : (!l.isEmpty) = true) : l ≠ [] := by cases l with | nil => cases h | cons _ _ => intro q; cases q
theorem okGlob_of {I : Inf} {c : Cx} (F : Fits I c) {x : Str} (h : okGlob I x = true) : c.env.kindOf x = some .globalImplicit ∧ (x == ("__debug__" : Str)) = false :=
  ⟨(congrArg (List.lookup x) F.names).trans (eq_of_beq (bl h)), bn (br h)⟩
theorem globIs_of {I : Inf} {c : Cx} (F : Fits I c) {x : Str} {v : V} (h : globIs I x v = true) : c.T.glob x = some v ∧ c.env.kindOf x = some .globalImplicit ∧ (x == ("__debug__" : Str)) = false := by
  refine ⟨?_, okGlob_of F (bl h)⟩
  rw [F.T]
  have h2 := br h
  cases e : I.T.glob x with
  | none => first | exact (no e h2).elim | exact (no h2 e).elim | obtain rfl := so e h2 | (rw [e] at h2; cases h2)
  | some u => rw [e] at h2; rw [eqc_eq 6 _ _ h2]
theorem soundI (fuel : Nat) (hE : SE prog n k fuel) (hL : SL prog n k fuel) : SI prog n k (fuel + 1) := by
  intro X I c K F XR t it h lo H Q w
  cases it with
  | seq e => exact ti_seq K ((hE X I c K F XR _ _ h).v _ _ _ w)
  | range es =>
    apply onCall_el h; intro f' args kws pos h
    apply onName_el h; intro x np h
    apply onNil_el h; intro h
    obtain ⟨hg, hk, hd⟩ := globIs_of F (bl (bl (bl h)))
    exact ti_range K hg hk hd (br (bl (bl h))) (ne_nil (br (bl h))) (hL X I c K F XR _ _ (br h) pos _ _ _ w)
end
end Mine

namespace Mine
open PySem PySem.Calls PySem.Spec PyProof.Rows PySem.W

theorem isVar_of {I : Inf} {x : Str} {i : Nat} (h : isVar I x i = true) : I.ns[i]? = some x ∧ (x == ("__debug__" : Str)) = false := ⟨eq_of_beq (bl h), bn (br h)⟩
theorem callee_bi (K : Frag) (b : BI) : Callee K b.val [] := by cases b <;> first | exact .builtin _ _ | exact .type _
theorem noSet_of {it : Expr} (h : noSet it = true) (env : Env) (v : Value) : foldedSetIterable it env v = pure v := by
  cases it <;> first | rfl | cases h
theorem all1 {a : Expr} (h : plainE a = true) : [a].all plainE = true := by rw [List.all_cons, h]; rfl
theorem all2 {a b : Expr} (h : plainE a = true) (h' : plainE b = true) : [a, b].all plainE = true := by rw [List.all_cons, h]; exact all1 h'
section
variable {prog : Program} {n k : Nat}
theorem sound_comp (fuel : Nat) (hE : SE prog n k fuel) (hI : SI prog n k fuel) (hT : ST prog n k fuel) {X : Addr → HM → Prop} {I : Inf} {c : Cx} (K : CxOk c) (F : Fits I c) (XR : XRun prog c I.T.exc X) {x : Str} {xi : Nat} {fr : List Nat} {elt iter : Expr} {ifs : List Expr} {scope : Scope} {it : It} {test : Option'} {elt' : E}
    (h1 : isVar I x xi = true) (h2 : okScope I scope x fr = true) (h4 : chkI fuel I iter it = true) (h5 : chkT fuel { I with names := reName scope.names I.names } ifs test = true) (h6 : chkE fuel { I with names := reName scope.names I.names } elt elt' = true)
    {lo : Lo} {H : HM} {Q : QV} (w : wpE prog I.T n X (.comp xi fr it test elt') lo H Q) :
    TIt prog c n k (eval iter c.env) (locOf I.ns lo) H fun items fix H1 => CompI prog c n k scope x ifs elt (locOf I.ns lo) items fix H1 fun D H2 => Q (.ref D) H2 := by
  refine (hI X I c K F XR _ _ h4 lo H _ w).mono fun items fix H1 q => ?_
  intro D hD
  obtain ⟨J, hJ0, hJ, turn, out⟩ := q D hD
  refine ⟨J, hJ0, hJ, fun C X' KI i ys y H' hJi hy => ?_, out⟩
  have FI := F.inner K (okScope_ok F h2).1 C X'
  have el : put (innerLoc scope (locOf I.ns lo)) x y = locOf I.ns (upN (mask fr lo) xi y) :=
    (congrArg (fun l => put l x y) (locOf_mask F.nd (okScope_ok F h2).2)).trans (locOf_up F.nd (isVar_of h1).1).symm
  rw [el]
  refine (hT (fun _ _ => False) { I with names := reName scope.names I.names } _ KI FI (.inl fun _ _ q => q) _ _ h5 _ _ _ (turn i ys y H' hJi hy)).mono fun b H2 q => ?_
  cases b with
  | false => exact q
  | true => exact (hE (fun _ _ => False) { I with names := reName scope.names I.names } _ KI FI (.inl fun _ _ q => q) _ _ h6).v _ _ _ q
theorem const_val {c : Cx} {k' : Const} {kk : Nat} {p : Pos} {v : V} (h : constIs k' v = true) (loc : Loc) (H : HM) (Q : QV) (w : Q v H) : TV prog c n k (eval (.Constant k' kk p) c.env) loc H Q := by
  cases v with
  | int j => cases k' <;> first | exact eq_of_beq h ▸ tv_int _ kk p w | exact (Bool.false_ne_true h).elim
  | str j => cases k' <;> first | exact eq_of_beq h ▸ tv_str _ kk p w | exact (Bool.false_ne_true h).elim
  | bool j => cases k' <;> first | exact eq_of_beq h ▸ tv_bool _ kk p w | exact (Bool.false_ne_true h).elim
  | none => cases k' <;> first | exact tv_none kk p w | exact (Bool.false_ne_true h).elim
  | _ => exact (Bool.false_ne_true h).elim
theorem soundE (fuel : Nat) (hE : SE prog n k fuel) (hL : SL prog n k fuel) (hI : SI prog n k fuel) (hT : ST prog n k fuel) : SE prog n k (fuel + 1) := by
  intro X I c K F XR t e h
  have E : ∀ {t e}, chkE fuel I t e = true → SoE prog n k X I c t e := fun {t e} => hE X I c K F XR t e
  have L : ∀ {ts es}, chkL fuel I ts es = true → SoL prog n k X I c ts es := fun {ts es} => hL X I c K F XR ts es
  cases e with
  | const v =>
    rcases bo h with h | h
    · apply onName_el h; intro x p h
      obtain ⟨hg, hk, hd⟩ := globIs_of F h
      exact .val K rfl (fun lo H Q w => tv_glob K p hg hk hd w) fun _ _ _ w => w
    · apply onConst_el h; intro k kk p h
      exact .val K rfl (fun lo H Q w => const_val h _ _ _ w) fun _ _ _ w => w
  | var i =>
    apply onName_el h; intro x p h
    obtain ⟨h1, h2⟩ := isVar_of h
    refine .only (fun lo H Q w => ?_) fun _ _ _ w => w
    obtain ⟨v, hv, q⟩ := w
    exact tv_name K p ((locOf_get F.nd h1).trans hv) h2 q
  | tup fs =>
    apply onTup_el h; intro es kk p h
    exact .only (fun lo H Q w => tv_tuple K (L h p lo H _ w)) fun _ _ _ w => w
  | list fs =>
    apply onListE_el h; intro es p h
    exact .only (fun lo H Q w => tv_list K (L h p lo H _ w)) fun _ _ _ w => w
  | attr e i =>
    apply onAttr_el h; intro o nm p h
    apply beq_el (br (bl h))
    refine .only (fun lo H Q w => tv_attr K (okBase_eq (bl (bl h)) _ _ _) ((E (br h)).vm w fun x H1 q => ?_)) fun _ _ _ w => w
    rw [F.T]; exact q
  | call f es =>
    apply onCall_el h; intro f' args kws p h
    apply onName_el h; intro x np h
    apply onNil_el h; intro h
    obtain ⟨hg, hk, hd⟩ := globIs_of F (bl (bl (bl h)))
    exact .val K rfl (fun lo H Q w => tv_call K hg hk hd (.inr ⟨f, rfl, rfl, K.tab.fn f (by rw [F.T]; exact br (bl (bl h)))⟩) (br (bl h)) (SoL.ta (br h) (L (br h)) w fun xs H1 q => q c K F.T XR)) fun _ _ _ w => w
  | bcall b es =>
    apply onCall_el h; intro f' args kws p h
    apply onName_el h; intro x np h
    apply onNil_el h; intro h
    obtain ⟨hg, hk, hd⟩ := globIs_of F (bl (bl h))
    exact .val K rfl (fun lo H Q w => tv_call K hg hk hd (.inl ⟨rfl, callee_bi _ b⟩) (br (bl h)) (SoL.ta (br h) (L (br h)) w fun xs H1 q => (bQ_cw q).at K)) fun _ _ _ w => w
  | meth e i es =>
    apply onCall_el h; intro f' args kws p h
    apply onAttr_el h; intro o nm apos h
    apply onNil_el h; intro h
    apply beq_el (br (bl (bl (bl (bl (bl h))))))
    refine .val K rfl (fun lo H Q w => ?_) fun _ _ _ w => w
    refine tv_im K (bl (bl (bl (bl (bl (bl h)))))) (br (bl (bl (bl (bl h))))) (of_decide_eq_true (br (bl (bl (bl h))))) (br (bl (bl h))) ((E (br (bl h))).vm w fun x H1 q => ?_)
    rw [F.T]
    exact gmI_mono q fun f fs q2 => SoL.ta (br h) (L (br h)) q2 fun xs H2 q3 => q3 c K F.T XR
  | append e x =>
    apply onCall_el h; intro f' args kws p h
    apply onAttr_el h; intro o nm apos h
    apply onNil_el h; intro h
    apply on1_el h; intro a h
    apply beq_el (br (bl (bl (bl (bl h)))))
    refine .only (fun lo H Q w => ?_) fun _ _ _ w => w
    refine tv_bi (nm := "append") K (bl (bl (bl (bl (bl h))))) (all1 (br (bl (bl (bl h))))) (by show 1 < 25; decide) (br (bl (bl h))) ((E (br (bl h))).vm w fun y H1 q => ?_)
    obtain ⟨d, l0, rfl, e2, q⟩ := q
    refine .app e2 (tl_cons K (starEach_plain (br (bl (bl (bl h))))) ((E (br h)).vm q fun z H2 q => tl_nil ?_))
    obtain ⟨l, e3, e4, q2⟩ := q
    exact (cw_append e3 e4 q2).at K
  | pop e =>
    apply onCall_el h; intro f' args kws p h
    apply onAttr_el h; intro o nm apos h
    apply onNil_el h; intro h
    apply onNil_el h; intro h
    apply beq_el (br (bl (bl h)))
    refine .only (fun lo H Q w => ?_) fun _ _ _ w => w
    refine tv_bi (nm := "pop") K (bl (bl (bl h))) rfl (by show 0 < 25; decide) (br (bl h)) ((E (br h)).vm w fun y H1 q => ?_)
    obtain ⟨d, l, z, rfl, e2, e3, q⟩ := q
    exact .pop e2 ((cw_pop e2 e3 q).at K)
  | get e kk d =>
    apply onCall_el h; intro f' args kws p h
    apply onAttr_el h; intro o nm apos h
    apply onNil_el h; intro h
    apply on2_el h; intro a b h
    apply beq_el (br (bl (bl (bl (bl (bl (bl h)))))))
    refine .only (fun lo H Q w => ?_) fun _ _ _ w => w
    refine tv_bi (nm := "get") K (bl (bl (bl (bl (bl (bl (bl h))))))) (all2 (br (bl (bl (bl (bl (bl h)))))) (br (bl (bl (bl (bl h)))))) (by show 2 < 25; decide) (br (bl (bl (bl h)))) ((E (br (bl (bl h)))).vm w fun y H1 q => ?_)
    obtain ⟨m, rfl, q⟩ := q
    rcases q with ⟨l, e2, q⟩ | ⟨l, e2, q⟩
    · refine .getS e2 (tl_cons K (starEach_plain (br (bl (bl (bl (bl (bl h))))))) ((E (br (bl h))).vm q fun kv H2 q2 => tl_cons K (starEach_plain (br (bl (bl (bl (bl h)))))) ((E (br h)).vm q2 fun dv H3 q => tl_nil ?_)))
      obtain ⟨x, rfl, e4, q3⟩ := q
      exact (cw_get_str e4 q3).at K
    · refine .getP e2 (tl_cons K (starEach_plain (br (bl (bl (bl (bl (bl h))))))) ((E (br (bl h))).vm q fun kv H2 q2 => tl_cons K (starEach_plain (br (bl (bl (bl (bl h)))))) ((E (br h)).vm q2 fun dv H3 q => tl_nil ?_)))
      obtain ⟨i, j, rfl, e4, q3⟩ := q
      exact (cw_get_pair e4 q3).at K
  | add e x =>
    apply onCall_el h; intro f' args kws p h
    apply onAttr_el h; intro o nm apos h
    apply onNil_el h; intro h
    apply on1_el h; intro a h
    apply beq_el (br (bl (bl (bl (bl h)))))
    refine .only (fun lo H Q w => ?_) fun _ _ _ w => w
    refine tv_bi (nm := "add") K (bl (bl (bl (bl (bl h))))) (all1 (br (bl (bl (bl h))))) (by show 1 < 25; decide) (br (bl (bl h))) ((E (br (bl h))).vm w fun y H1 q => ?_)
    obtain ⟨d, S0, m0, rfl, e2, q⟩ := q
    refine .add e2 (tl_cons K (starEach_plain (br (bl (bl (bl h))))) ((E (br h)).vm q fun z H2 q => tl_nil ?_))
    obtain ⟨S, m, i, rfl, e4, e5, q2⟩ := q
    exact (cw_set_add e4 e5 q2).at K
  | bin op' l' r' =>
    apply onBin_el h; intro l op r p h
    apply dec_el (bl (bl h))
    exact .only (fun lo H Q w => tv_binop K ((E (br (bl h))).vm w fun x H1 q => (E (br h)).v _ _ _ q)) fun _ _ _ w => w
  | cmp op' l' r' =>
    apply onCmp_el h; intro l ops rs p h
    apply on1_el h; intro op h
    apply on1_el h; intro r h
    have h0 := bn (br (bl (bl h)))
    revert h0
    apply dec_el (bl (bl (bl h)))
    intro h0
    exact ⟨fun lo H Q w => tv_cmp K h0 ((E (br (bl h))).vm w fun x H1 q => (E (br h)).v _ _ _ q), fun lo H Q w => tb_cmp K h0 ((E (br (bl h))).vm w fun x H1 q => (E (br h)).v _ _ _ q)⟩
  | and l' r' =>
    apply onBool_el h; intro op es p h
    apply dec_el (bl h)
    apply on2_el (br h); intro l r h
    refine ⟨fun lo H Q w => tv_and K ((E (bl h)).vm w fun x H1 q => ?_), fun lo H Q w => tb_and K ((E (bl h)).bm w fun b H1 q => ?_)⟩
    · obtain ⟨b, e, q⟩ := q
      refine ⟨b, e, ?_⟩
      cases b with
      | false => exact q
      | true => exact (E (br h)).v _ _ _ q
    · cases b with
      | false => exact q
      | true => exact (E (br h)).b _ _ _ q
  | or l' r' =>
    apply onBool_el h; intro op es p h
    apply dec_el (bl h)
    apply on2_el (br h); intro l r h
    refine ⟨fun lo H Q w => tv_or K ((E (bl h)).vm w fun x H1 q => ?_), fun lo H Q w => tb_or K ((E (bl h)).bm w fun b H1 q => ?_)⟩
    · obtain ⟨b, e, q⟩ := q
      refine ⟨b, e, ?_⟩
      cases b with
      | true => exact q
      | false => exact (E (br h)).v _ _ _ q
    · cases b with
      | true => exact q
      | false => exact (E (br h)).b _ _ _ q
  | not a' =>
    apply onUn_el h; intro op a p h
    apply dec_el (bl h)
    exact ⟨fun lo H Q w => False.elim w, fun lo H Q w => tb_not K ((E (br h)).b _ _ _ w)⟩
  | ite t' a' b' =>
    apply onIf_el h; intro t a b p h
    refine .only (fun lo H Q w => tv_ite K ((E (bl (bl h))).bm w fun b H1 q => ?_)) fun _ _ _ w => w
    cases b with
    | true => exact (E (br (bl h))).v _ _ _ q
    | false => exact (E (br h)).v _ _ _ q
  | neg a' =>
    apply onUn_el h; intro op a p h
    apply dec_el (bl h)
    exact .only (fun lo H Q w => tv_neg K ((E (br h)).v _ _ _ w)) fun _ _ _ w => w
  | sub a' i' =>
    apply onSub_el h; intro a i p h
    exact .only (fun lo H Q w => tv_sub K ((E (bl h)).vm w fun x H1 q => (E (br h)).v _ _ _ q)) fun _ _ _ w => w
  | sliceTo a' i' =>
    apply onSub_el h; intro a s p h
    apply onSlice_el h; intro lo' up st p2 h
    apply onNone_el h; intro h
    apply onSome_el h; intro i h
    apply onNone_el h; intro h
    exact .only (fun lo H Q w => tv_sliceTo K ((E (bl h)).vm w fun x H1 q => (E (br h)).v _ _ _ q)) fun _ _ _ w => w
  | sliceFrom a' i' =>
    apply onSub_el h; intro a s p h
    apply onSlice_el h; intro lo' up st p2 h
    apply onSome_el h; intro i h
    apply onNone_el h; intro h
    apply onNone_el h; intro h
    exact .only (fun lo H Q w => tv_sliceFrom K ((E (bl h)).vm w fun x H1 q => (E (br h)).v _ _ _ q)) fun _ _ _ w => w
  | rev a' i' =>
    apply onSub_el h; intro a s p h
    apply onSlice_el h; intro lo' up st p2 h
    apply onNone_el h; intro h
    apply onNone_el h; intro h
    apply onSome_el h; intro i h
    exact .only (fun lo H Q w => tv_sliceRev K ((E (bl h)).vm w fun x H1 q => (E (br h)).v _ _ _ q)) fun _ _ _ w => w
  | dict0 t' =>
    apply onDict_el h; intro ks vs p h
    apply onNil_el h; intro h
    apply onNil_el h; intro h
    refine .only (fun lo H Q w => ?_) fun _ _ _ w => w
    rcases t' with _ | _ | t'
    · exact tv_dict0 w
    · exact tv_dict0S w
    · exact tv_dict0P w
  | dict3 a0 b0 a1 b1 a2 b2 =>
    apply onDict_el h; intro ks vs p h
    apply on3_el h; intro k0 k1 k2 h
    apply on3_el h; intro v0 v1 v2 h
    apply onSome_el h; intro k0 h
    apply onSome_el h; intro k1 h
    apply onSome_el h; intro k2 h
    refine .only (fun lo H Q w => tv_dict K rfl rfl (fun q => by cases q) (by show 3 ≤ 15; decide) fun d hd => ?_) fun _ _ _ w => w
    refine (E (bl (bl (bl (bl (bl h)))))).vm (w d hd) fun x0 H1 q => (E (br (bl (bl (bl (bl h)))))).vm q fun y0 H2 q => (E (br (bl (bl (bl h))))).vm q fun x1 H3 q => (E (br (bl (bl h)))).vm q fun y1 H4 q => (E (br (bl h))).vm q fun x2 H5 q => (E (br h)).vm q fun y2 H6 q => ?_
    obtain ⟨i0, i1, i2, e0, e1, e2, e3, q⟩ := q
    exact ⟨i2, e2, i1, e1, i0, e0, e3, q⟩
  | comp xi fr it test elt' =>
    apply onLC_el h; intro elt gs scope p h
    apply on1_el h; intro g h
    obtain ⟨tg, iter, ifs, as⟩ := g
    obtain rfl : as = 0 := of_decide_eq_true (bl h)
    have h : onName tg _ = true := br h
    apply onName_el h; intro x px h
    exact .only (fun lo H Q w => tv_comp K (okScope_ok F (br (bl (bl (bl (bl h)))))).1 (noSet_of (br (bl (bl (bl h)))) _) (sound_comp fuel hE hI hT K F XR (bl (bl (bl (bl (bl h))))) (br (bl (bl (bl (bl h))))) (br (bl (bl h))) (br (bl h)) (br h) w)) fun _ _ _ w => w
end
end Mine

namespace Mine
open PySem PySem.Calls PySem.Spec PyProof.Rows PySem.W

theorem soundAll (prog : Program) (n k : Nat) : ∀ fuel, SE prog n k fuel ∧ SL prog n k fuel ∧ SI prog n k fuel ∧ ST prog n k fuel
  | 0 => ⟨fun X I c K F _ t e h => (Bool.false_ne_true h).elim, fun X I c K F _ t e h => (Bool.false_ne_true h).elim, fun X I c K F _ t e h => (Bool.false_ne_true h).elim, fun X I c K F _ t e h => (Bool.false_ne_true h).elim⟩
  | fuel + 1 =>
    have q := soundAll prog n k fuel
    ⟨soundE fuel q.1 q.2.1 q.2.2.1 q.2.2.2, soundL fuel q.1 q.2.1, soundI fuel q.1 q.2.1, soundT fuel q.1⟩
/-- a condition on numbered locals, for named ones -/
noncomputable def asQ (ns : List Str) (Q : QS) : QF := fun f loc H => ∃ lo, loc = locOf ns lo ∧ Q f lo H
noncomputable def SoS (prog : Program) (n k : Nat) (X : Addr → HM → Prop) (I : Inf) (c : Cx) (t : Stmt) (s : S) : Prop := ∀ lo H Q, wpS prog I.T n X s lo H Q → TF prog c n k (exec t c.env) (locOf I.ns lo) H (asQ I.ns Q)
noncomputable def SoSs (prog : Program) (n k : Nat) (X : Addr → HM → Prop) (I : Inf) (c : Cx) (ts : List Stmt) (ss : Ss) : Prop := ∀ lo H Q, wpSs prog I.T n X ss lo H Q → TF prog c n k (execs ts c.env) (locOf I.ns lo) H (asQ I.ns Q)
noncomputable def SSt (prog : Program) (n k : Nat) (X : Addr → HM → Prop) (fuel : Nat) : Prop := ∀ I c, CxOk c → Fits I c → XRun prog c I.T.exc X → ∀ t s, chkS fuel I t s = true → SoS prog n k X I c t s
noncomputable def SSs (prog : Program) (n k : Nat) (X : Addr → HM → Prop) (fuel : Nat) : Prop := ∀ I c, CxOk c → Fits I c → XRun prog c I.T.exc X → ∀ ts ss, chkSs fuel I ts ss = true → SoSs prog n k X I c ts ss
theorem setV_mono {x i y : V} {H : HM} {Q Q' : HM → Prop} (h : setV x i y H Q) (hQ : ∀ H', Q H' → Q' H') : setV x i y H Q' := by
  cases h with
  | list e1 e2 e3 e4 q => exact .list e1 e2 e3 e4 (hQ _ q)
  | dictI e1 e2 q => exact .dictI e1 e2 (hQ _ q)
  | dictS e1 e2 q => exact .dictS e1 e2 (hQ _ q)
  | dictP e1 e2 e3 q => exact .dictP e1 e2 e3 (hQ _ q)
section
variable {prog : Program} {n k : Nat} {X : Addr → HM → Prop}
theorem soundSs (fuel : Nat) (hS : SSt prog n k X fuel) (hSs : SSs prog n k X fuel) : SSs prog n k X (fuel + 1) := by
  intro I c K F XR ts ss h lo H Q w
  cases ts with
  | nil => cases ss with
    | nil => exact tf_nil ⟨lo, rfl, w⟩
    | cons _ _ => exact (Bool.false_ne_true h).elim
  | cons t ts => cases ss with
    | nil => exact (Bool.false_ne_true h).elim
    | cons s ss =>
      refine tf_cons K ((hS I c K F XR _ _ (bl h) _ _ _ w).mono fun f l1 H1 q => ?_)
      obtain ⟨lo1, e, q⟩ := q
      subst e
      cases f with
      | next => exact hSs I c K F XR _ _ (br h) _ _ _ q
      | brk => exact ⟨lo1, rfl, q⟩
      | cont => exact ⟨lo1, rfl, q⟩
      | ret v => exact ⟨lo1, rfl, q⟩
theorem sub_asgnC {I : Inf} {c : Cx} (K : CxOk c) (F : Fits I c) {elt : Expr} {gs : List Comprehension} {scope : Scope} {pos p spos : Pos} {y : Str} (g2 : (I.names.lookup y == some .local) = true) (g3 : (p.line == pos.line) = true) (g4 : (!(scope.names.any fun (z, k) => z == y && (k == .local || k == .cell))) = true) :
    c.env.kindOf y = some .local ∧ swapsWith (.ListComp elt gs scope pos) (some (.Name y p)) spos.line c.env = pure true := by
  have hk : c.env.kindOf y = some .local := (congrArg (List.lookup y) F.names).trans (eq_of_beq g2)
  refine ⟨hk, ?_⟩
  have hb : c.env.blockKind = .function := by unfold Env.blockKind; rw [K.kind]; rfl
  show (pure (c.env.blockKind == .function && c.env.kindOf y == some .local && p.line == pos.line && !(scope.names.any fun (z, k) => z == y && (k == .local || k == .cell))) : Sem Bool) = pure true
  rw [hb, hk, g3, g4]; rfl
theorem raise_X {I : Inf} {c : Cx} (XR : XRun prog c I.T.exc X) {lo : Lo} {a : Addr} {H1 : HM} {d : Option Addr} (ha : H1 a = some (.exc I.T.exc d none)) (hx : X a H1) (B : Heap) (s : Shared) (G : Good prog c B (locOf I.ns lo) H1 s) : c.X (.ref a) s := by
  rcases XR with q | ⟨_, _, q⟩
  · exact absurd hx (q a H1)
  · exact q a d none _ B H1 s G ⟨ha, fun T e => by cases e⟩ hx
theorem soundS (fuel : Nat) (hSs : SSs prog n k X fuel) : SSt prog n k X (fuel + 1) := by
  obtain ⟨hE, hL, hI, hT⟩ := soundAll prog n k fuel
  intro I c K F XR t s h
  have E : ∀ {t e}, chkE fuel I t e = true → SoE prog n k X I c t e := fun {t e} => hE X I c K F XR t e
  have B : ∀ {ts ss}, chkSs fuel I ts ss = true → SoSs prog n k X I c ts ss := fun {ts ss} => hSs I c K F XR ts ss
  cases s with
  | asgn i e' =>
    apply onAssign_el h; intro ts e pos h
    apply on1_el h; intro tg h
    apply onName_el h; intro x p h
    exact fun lo H Q w => tf_asgn K (kindOk_of F (br (bl (bl h)))) (swaps_no (br (bl h)) _ _ _) ((E (br h)).vm w fun v H1 q => ⟨_, (locOf_up F.nd (isVar_of (bl (bl (bl h)))).1).symm, q⟩)
  | asgnA o' i e' =>
    apply onAssign_el h; intro ts e pos h
    apply on1_el h; intro tg h
    apply onAttr_el h; intro o nm p h
    apply beq_el (bl (bl (bl h)))
    refine fun lo H Q w => tf_asgnA K (swaps_no (br (bl (bl h))) _ _ _) ((E (br (bl h))).vm w fun v H1 q => (E (br h)).vm q fun x H2 q2 => ?_)
    rw [F.T]
    exact sA_mono q2 fun H3 q3 => ⟨lo, rfl, q3⟩
  | asgnS o' i' e' =>
    apply onAssign_el h; intro ts e pos h
    apply on1_el h; intro tg h
    apply onSub_el h; intro o i p h
    exact fun lo H Q w => tf_asgnSub K (swaps_no (bl (bl (bl h))) _ _ _) ((E (br (bl (bl h)))).vm w fun v H1 q => (E (br (bl h))).vm q fun x H2 q2 => (E (br h)).vm q2 fun y H3 q3 => setV_mono q3 fun H4 q4 => ⟨lo, rfl, q4⟩)
  | unpack i j e' =>
    apply onAssign_el h; intro ts e pos h
    apply on1_el h; intro tg h
    apply onTup_el h; intro es kk p h
    apply on2_el h; intro x y h
    apply onName_el h; intro x p1 h
    apply onName_el h; intro y p2 h
    refine fun lo H Q w => tf_unpack2 K (kindOk_of F (br (bl (bl (bl (bl h)))))) (kindOk_of F (br (bl (bl (bl h))))) (br (bl (bl h))) (br (bl h)) ((E (br h)).vm w fun v H1 q => ?_)
    obtain ⟨a, b, e, q⟩ := q
    exact ⟨a, b, e, _, by rw [locOf_up F.nd (isVar_of (br (bl (bl (bl (bl (bl h))))))).1, locOf_up F.nd (isVar_of (bl (bl (bl (bl (bl (bl h))))))).1], q⟩
  | augN i e' =>
    apply onAug_el h; intro tg op e pos h
    apply dec_el (bl h)
    apply onName_el (br h); intro x p h
    have hv := (isVar_of (bl (bl h))).1
    refine fun lo H Q w => ?_
    obtain ⟨m, hm, w⟩ := w
    refine tf_augName K (kindOk_of F (br (bl h))) ⟨m, (locOf_get F.nd hv).trans hm, (E (br h)).vm w fun v H1 q => ?_⟩
    obtain ⟨j, e, q⟩ := q
    exact ⟨j, e, _, (locOf_up F.nd hv).symm, q⟩
  | augS o' i' e' =>
    apply onAug_el h; intro tg op e pos h
    apply dec_el (bl h)
    apply onSub_el (br h); intro o i p h
    refine fun lo H Q w => tf_augSub K (bl (bl (bl h))) ((E (br (bl (bl h)))).vm w fun x H1 q => (E (br (bl h))).vm q fun y H2 q => ?_)
    obtain ⟨a, l, j, m, e1, e2, e3, e4, e5, e6, q2⟩ := q
    refine ⟨a, l, j, m, e1, e2, e3, e4, e5, e6, (E (br h)).vm q2 fun z H3 q => ?_⟩
    obtain ⟨d, e7, q3⟩ := q
    exact ⟨d, e7, setV_mono q3 fun H4 q4 => ⟨lo, rfl, q4⟩⟩
  | asgnC j xi fr it test elt' =>
    apply onAssign_el h; intro ts e spos h
    apply on1_el h; intro tg h
    apply onName_el h; intro y p h
    apply onLC_el h; intro elt gs scope pos h
    apply on1_el h; intro g h
    obtain ⟨tg, iter, ifs, as⟩ := g
    obtain rfl : as = 0 := of_decide_eq_true (bl h)
    have h : onName tg _ = true := br h
    apply onName_el h; intro x px h
    have hh := sub_asgnC (spos := spos) (elt := elt) (gs := [⟨.Name x px, iter, ifs, 0⟩]) K F (br (bl (bl (bl (bl (bl (bl (bl (bl h))))))))) (br (bl (bl (bl (bl (bl (bl (bl h)))))))) (br (bl (bl (bl (bl (bl (bl h)))))))
    refine fun lo H Q w => tf_comp K (okScope_ok F (br (bl (bl (bl (bl h)))))).1 (noSet_of (br (bl (bl (bl h)))) _) (.inl hh.1) hh.2 ((sound_comp fuel hE hI hT K F XR (br (bl (bl (bl (bl (bl h)))))) (br (bl (bl (bl (bl h))))) (br (bl (bl h))) (br (bl h)) (br h) (show wpE prog I.T n X (.comp xi fr it test elt') lo H fun v H1 => Q .next (upN lo j v) H1 from w)).mono fun items fix H1 q D hD => ?_)
    obtain ⟨J, a1, a2, a3, a4⟩ := q D hD
    exact ⟨J, a1, a2, a3, fun ys H' hJ => ⟨_, (locOf_up F.nd (isVar_of (bl (bl (bl (bl (bl (bl (bl (bl (bl h)))))))))).1).symm, a4 ys H' hJ⟩⟩
  | ret e' =>
    apply onRet_el h; intro e pos h
    apply onSome_el h; intro e h
    exact fun lo H Q w => tf_ret K ((E h).vm w fun v H1 q => ⟨lo, rfl, q⟩)
  | ret0 =>
    apply onRet_el h; intro e pos h
    apply onNone_el h; intro h
    exact fun lo H Q w => tf_ret0 ⟨lo, rfl, w⟩
  | expr e' =>
    apply onExprS_el h; intro e pos h
    exact fun lo H Q w => tf_expr K (swaps_no (bl h) _ _ _) ((E (br h)).vm w fun v H1 q => ⟨lo, rfl, q⟩)
  | cont =>
    apply onCont_el h; intro pos h
    exact fun lo H Q w => tf_cont ⟨lo, rfl, w⟩
  | ite t' a' b' =>
    apply onIfS_el h; intro t a b pos h
    refine fun lo H Q w => tf_if K ((E (bl (bl h))).bm w fun b H1 q => ?_)
    cases b with
    | true => exact B (br (bl h)) _ _ _ q
    | false => exact B (br h) _ _ _ q
  | whl t' b' =>
    apply onWhile_el h; intro t b el pos h
    apply onNil_el h; intro h
    intro lo H Q w
    obtain ⟨Inv, ⟨m, hm⟩, turn⟩ := w
    refine tf_while K (fun m l H => ∃ lo, l = locOf I.ns lo ∧ Inv m lo H) (fun dp un m l H q => ?_) m ⟨lo, rfl, hm⟩
    obtain ⟨lo, e, hI'⟩ := q
    subst e
    have K' := K.withX (loopX prog c dp un)
    have F' := F.withX (loopX prog c dp un)
    refine (hE X I _ K' F' (XR.loop K dp un) _ _ (bl h)).bm (turn m lo H hI') fun b H1 q => ?_
    cases b with
    | false => exact ⟨lo, rfl, q⟩
    | true =>
      refine (hSs I _ K' F' (XR.loop K dp un) _ _ (br h) _ _ _ q).mono fun f l2 H2 q => ?_
      obtain ⟨lo2, e, q2⟩ := q
      subst e
      cases f with
      | next => obtain ⟨m', hm', q3⟩ := q2; exact ⟨m', hm', lo2, rfl, q3⟩
      | cont => obtain ⟨m', hm', q3⟩ := q2; exact ⟨m', hm', lo2, rfl, q3⟩
      | brk => exact ⟨lo2, rfl, q2⟩
      | ret v => exact ⟨lo2, rfl, q2⟩
  | loop i it' b' =>
    apply onFor_el h; intro tg it b el pos h
    apply onName_el h; intro x px h
    apply onNil_el h; intro h
    have hv := (isVar_of (bl (bl (bl (bl h))))).1
    refine fun lo H Q w => tf_for K (kindOk_of F (br (bl (bl (bl h))))) (noSet_of (br (bl (bl h))) _) ((hI X I c K F XR _ _ (br (bl h)) _ _ _ w).mono fun items fix H1 q => ?_)
    obtain ⟨J, hJ0, hJ, turn, out⟩ := q
    refine ⟨fun i l H => ∃ lo, l = locOf I.ns lo ∧ J i lo H, ⟨lo, rfl, hJ0⟩, fun i l H q => ?_, fun dp un j y l H q hy => ?_, fun l H q => ?_⟩
    · obtain ⟨lo, _, q⟩ := q; exact hJ i lo H q
    · obtain ⟨lo, e, q⟩ := q
      subst e
      rw [← locOf_up F.nd hv]
      refine (hSs I _ (K.withX _) (F.withX _) (XR.loop K dp un) _ _ (br h) _ _ _ (turn j y lo H q hy)).mono fun f l2 H2 q => ?_
      obtain ⟨lo2, e, q2⟩ := q
      subst e
      cases f with
      | next => exact ⟨lo2, rfl, q2⟩
      | cont => exact ⟨lo2, rfl, q2⟩
      | brk => exact ⟨lo2, rfl, q2⟩
      | ret v => exact ⟨lo2, rfl, q2⟩
    · obtain ⟨lo, e, q⟩ := q; exact ⟨lo, e, out lo H q⟩
  | delF e' i' =>
    apply onDel_el h; intro es pos h
    apply on1_el h; intro tg h
    apply onSub_el h; intro e s p h
    apply onSlice_el h; intro lo' up st p2 h
    apply onSome_el h; intro i h
    apply onNone_el h; intro h
    apply onNone_el h; intro h
    refine fun lo H Q w => tf_delFrom K ((E (bl h)).vm w fun x H1 q => (E (br h)).vm q fun y H2 q => ?_)
    obtain ⟨l, xs, b, e1, e2, e3, e4, e5, e6, q2⟩ := q
    exact ⟨l, xs, b, e1, e2, e3, e4, e5, e6, lo, rfl, q2⟩
  | raise e' =>
    apply onRaise_el h; intro e b pos h
    apply onSome_el h; intro e h
    apply onNone_el h; intro h
    intro lo H Q w
    have ht := K.tab.exc
    rw [F.T] at ht
    refine tf_raise K ht.1 ht.2.1 ((E h).vm w fun x H1 q => ?_)
    obtain ⟨a, d, e1, e2, e3⟩ := q
    exact ⟨a, d, e1, e2, raise_X XR e2 e3⟩
theorem soundStm (prog : Program) (n k : Nat) (X : Addr → HM → Prop) : ∀ fuel, SSt prog n k X fuel ∧ SSs prog n k X fuel
  | 0 => ⟨fun I c K F _ t e h => (Bool.false_ne_true h).elim, fun I c K F _ t e h => (Bool.false_ne_true h).elim⟩
  | fuel + 1 => by
    obtain ⟨hS, hSs⟩ := soundStm prog n k X fuel
    exact ⟨soundS fuel hSs, soundSs fuel hS hSs⟩
end
end Mine

namespace Mine
open PySem PySem.Calls PySem.Spec PyProof.Rows PySem.W

theorem zip_lookup : ∀ {ps : List Str} {vs : List Value} {p : Str}, vs.length = ps.length → p ∈ ps → ((ps.zip vs).lookup p).isSome = true
  | p :: ps, v :: vs, q, hl, h => by
    rw [List.zip_cons_cons, List.lookup_cons]
    by_cases e : q = p
    · subst e; simp
    · have hb : (q == p) = false := beq_eq_false_iff_ne.mpr e
      rw [hb]
      exact zip_lookup (by simpa using hl) (by cases h with | head => exact absurd rfl e | tail _ h => exact h)
  | [], _, _, _, h => by cases h
  | _ :: _, [], _, hl, _ => by cases hl
theorem zip_back : ∀ {ps : List Str} {vs : List Value}, ps.Nodup → vs.length = ps.length → (ps.filterMap fun n => ((ps.zip vs).lookup n).map fun x => (n, x)) = ps.zip vs := by
  suffices ∀ {ps qs : List Str} {vs ws : List Value}, (qs ++ ps).Nodup → ws.length = qs.length → vs.length = ps.length → (ps.filterMap fun n => (((qs ++ ps).zip (ws ++ vs)).lookup n).map fun x => (n, x)) = ps.zip vs by
    intro ps vs nd hl
    exact this (qs := []) (ws := []) nd rfl hl
  intro ps
  induction ps with
  | nil => intros; simp
  | cons p ps ih =>
    intro qs vs ws nd h1 h2
    cases vs with
    | nil => cases h2
    | cons v vs =>
      have hz : ((qs ++ p :: ps).zip (ws ++ v :: vs)).lookup p = some v := by
        rw [List.zip_append h1.symm]
        have : ∀ {l : List (Str × Value)} {r : List (Str × Value)}, (∀ x ∈ l, x.1 ≠ p) → (l ++ (p, v) :: r).lookup p = some v := by
          intro l r h
          induction l with
          | nil => simp
          | cons a l ih2 =>
            have hb : (p == a.1) = false := beq_eq_false_iff_ne.mpr (Ne.symm (h a (.head _)))
            rw [List.cons_append, List.lookup_cons, hb]
            exact ih2 fun x hx => h x (.tail _ hx)
        refine this fun x hx e => ?_
        have hm := (List.of_mem_zip hx).1
        rw [e] at hm
        have := List.nodup_append.mp nd
        exact this.2.2 p hm p (.head _) rfl
      rw [List.filterMap_cons, hz]
      simp only [Option.map_some, List.zip_cons_cons]
      congr 1
      have := ih (qs := qs ++ [p]) (vs := vs) (ws := ws ++ [v]) (by simpa using nd) (by simp [h1]) (by simpa using h2)
      simpa using this
theorem keep_slots {M : Model} {A : Around} {E : Value → Shared → Prop} {s : Shared} {slots : List (Str × Value)} {Q : List (Str × Value) → Shared → Prop} : ∀ {l : List (Str × Value)}, (∀ p ∈ l, (slots.lookup p.1).isSome = true) → Q slots s →
    wpAny M A (forIn l slots fun (x : Str × Value) (r : List (Str × Value)) => (if (r.lookup x.1).isNone = true then pure (ForInStep.yield (r ++ [(x.1, x.2)])) else pure (ForInStep.yield r) : Sem (ForInStep (List (Str × Value))))) Q E s
  | [], _, h => by rw [List.forIn_nil]; exact wpAny_pure h
  | p :: l, hp, h => by
    rw [List.forIn_cons]
    have h1 := hp p (.head _)
    have h2 : (slots.lookup p.1).isNone = false := by cases q : slots.lookup p.1 with | none => (first | exact (no q h1).elim | exact (no h1 q).elim | obtain rfl := so q h1 | (rw [q] at h1; cases h1)) | some _ => rfl
    simp only [h2, Bool.false_eq_true, if_false, pure_bind]
    exact keep_slots (fun q hq => hp q (.tail _ hq)) h
theorem bind_full {fd : FuncData} {ps : List Str} {s : Shared} {vs : List Value} (h1 : fd.params.posonlyargs = []) (h2 : fd.params.args.map (·.arg) = ps) (h3 : fd.params.vararg = none) (h4 : fd.params.kwonlyargs = []) (h5 : fd.params.kwarg = none) (nd : ps.Nodup) (hl : vs.length = ps.length)
    (D : Option (Array Value)) (hd : ∀ (M : Model) (A : Around) (E : Value → Shared → Prop) (Q : Option (Array Value) → Shared → Prop), Q D s → wpAny M A (seqItems? fd.defaults) Q E s) : BindsTo s fd ⟨vs, []⟩ (ps.zip vs) := by
  intro M A E Q hq
  unfold bindArgs
  simp only [h1, h2, h3, h4, h5, List.map_nil, List.nil_append, List.append_nil, List.forIn_nil, pure_bind]
  refine wpAny_bind (hd M A E _ ?_)
  have hg : ¬ (vs.length > ps.length) := by (first | lia | omega)
  have hm : ∀ m, ((ps.take m).filter fun n => ((ps.zip vs).lookup n).isNone) = [] := fun m => by
    rw [List.filter_eq_nil_iff]
    intro n hn
    have := zip_lookup hl (List.mem_of_mem_take hn)
    cases q : (ps.zip vs).lookup n with
    | none => first | exact (no q this).elim | exact (no this q).elim | obtain rfl := so q this | (rw [q] at this; cases this)
    | some _ => simp
  simp only [hg, decide_false, Bool.false_and, Bool.false_eq_true, if_false, hm, List.isEmpty_nil, Bool.not_true]
  refine wpAny_bind (keep_slots (fun p hp => zip_lookup hl (List.mem_of_mem_drop (List.of_mem_zip hp).1)) ?_)
  rw [zip_back nd hl]
  exact wpAny_pure hq
theorem add_slots {M : Model} {A : Around} {E : Value → Shared → Prop} {s : Shared} {Q : List (Str × Value) → Shared → Prop} : ∀ {l slots : List (Str × Value)}, (l.map (·.1)).Nodup → (∀ p ∈ l, slots.lookup p.1 = none) → Q (slots ++ l) s →
    wpAny M A (forIn l slots fun (x : Str × Value) (r : List (Str × Value)) => (if (r.lookup x.1).isNone = true then pure (ForInStep.yield (r ++ [(x.1, x.2)])) else pure (ForInStep.yield r) : Sem (ForInStep (List (Str × Value))))) Q E s
  | [], slots, _, _, h => by rw [List.forIn_nil]; rw [List.append_nil] at h; exact wpAny_pure h
  | p :: l, slots, nd, hp, h => by
    rw [List.forIn_cons]
    have nd' := List.nodup_cons.mp nd
    simp only [hp p (.head _), Option.isNone_none, if_true, pure_bind]
    refine add_slots nd'.2 (fun q hq => ?_) (by rw [List.append_assoc]; exact h)
    rw [List.lookup_append, hp q (.tail _ hq)]
    have e : q.1 ≠ p.1 := fun e => nd'.1 (List.mem_map.mpr ⟨q, hq, e⟩)
    have hb : (q.1 == p.1) = false := beq_eq_false_iff_ne.mpr e
    simp [List.lookup_cons, hb]
/-- the last parameters have their defaults -/
theorem bind_dflt {fd : FuncData} {ps : List Str} {s : Shared} {vs : List Value} {xs : Array Value} (h1 : fd.params.posonlyargs = []) (h2 : fd.params.args.map (·.arg) = ps) (h3 : fd.params.vararg = none) (h4 : fd.params.kwonlyargs = []) (h5 : fd.params.kwarg = none) (nd : ps.Nodup) (hl : vs.length + xs.size = ps.length)
    (hd : ∀ (M : Model) (A : Around) (E : Value → Shared → Prop) (Q : Option (Array Value) → Shared → Prop), Q (some xs) s → wpAny M A (seqItems? fd.defaults) Q E s) : BindsTo s fd ⟨vs, []⟩ (ps.zip (vs ++ xs.toList)) := by
  intro M A E Q hq
  unfold bindArgs
  simp only [h1, h2, h3, h4, h5, List.map_nil, List.nil_append, List.append_nil, List.forIn_nil, pure_bind]
  refine wpAny_bind (hd M A E _ ?_)
  have hg : ¬ (vs.length > ps.length) := by (first | lia | omega)
  have e1 : xs.toList.length - ps.length = 0 := by rw [Array.length_toList (xs := xs)]; (first | lia | omega)
  have e2 : ps.length - xs.toList.length = vs.length := by rw [Array.length_toList (xs := xs)]; (first | lia | omega)
  have esp : ps = ps.take vs.length ++ ps.drop vs.length := (List.take_append_drop _ _).symm
  have etl : (ps.take vs.length).length = vs.length := by rw [List.length_take]; (first | lia | omega)
  have ez : ps.zip vs = (ps.take vs.length).zip vs := by
    conv => lhs; rw [esp]
    have := List.zip_append (l₁ := ps.take vs.length) (r₁ := ps.drop vs.length) (l₂ := vs) (r₂ := []) etl
    simpa using this
  have ez2 : ps.zip (vs ++ xs.toList) = (ps.take vs.length).zip vs ++ (ps.drop vs.length).zip xs.toList := by
    conv => lhs; rw [esp]
    exact List.zip_append etl
  have nd' := nd
  rw [esp] at nd'
  have nda := List.nodup_append.mp nd'
  have hm : ((ps.take vs.length).filter fun n => ((ps.zip vs).lookup n).isNone) = [] := by
    rw [List.filter_eq_nil_iff]
    intro n hn
    rw [ez]
    have := zip_lookup (vs := vs) etl.symm hn
    cases q : ((ps.take vs.length).zip vs).lookup n with
    | none => first | exact (no q this).elim | exact (no this q).elim | obtain rfl := so q this | (rw [q] at this; cases this)
    | some _ => simp
  simp only [hg, decide_false, Bool.false_and, Bool.false_eq_true, if_false, Option.getD_some, e1, List.drop_zero, e2, hm, List.isEmpty_nil, Bool.not_true]
  refine wpAny_bind (add_slots ?_ (fun p hp => ?_) ?_)
  · rw [List.map_fst_zip (by rw [List.length_drop, Array.length_toList (xs := xs)]; (first | lia | omega))]
    exact nda.2.1
  · rw [ez]
    refine List.lookup_eq_none_iff.mpr fun q hq => ?_
    exact bne_iff_ne.mpr fun e => nda.2.2 q.1 (List.of_mem_zip hq).1 p.1 (List.of_mem_zip hp).1 e.symm
  · rw [ez, ← ez2, zip_back nd (by rw [List.length_append, Array.length_toList (xs := xs)]; exact hl)]
    exact wpAny_pure hq
end Mine

namespace Mine
open PySem PySem.Calls PySem.Spec PyProof.Rows PySem.W

noncomputable def codeB (K : Frag) (fd : FuncData) : Bool := match fd.code with
  | .ref c => (match K.lookup c with
    | some o => (match o.data with
      | .fields vs => (match (vs[1]? : Option Value) with
        | some (.str q _) => q == fd.qualname
        | _ => false)
      | _ => false)
    | none => false)
  | _ => false
noncomputable def dfltB (K : Frag) (fd : FuncData) : Bool := match fd.defaults with
  | .none => true
  | .ref d => (match K.lookup d with
    | some o => (match o.data with
      | .seq _ _ => true
      | _ => false)
    | none => false)
  | _ => false
/-- all that is checked of a function, once -/
noncomputable def fnG (T : Tab) (f : Addr) (ps more : List Str) (P : Inf → List Stmt → Bool) : Bool := match T.frag.lookup f with
  | some o => (match o.data with
    | .func fd => !fd.scope.isCoroutine && !fd.scope.isGenerator && fd.scope.kind == .function &&
      (match fd.body with
        | .stmts body => P ⟨T, ps ++ more, fd.scope.names⟩ body
        | _ => false) &&
      fd.closure.isEmpty && fd.globals == mainGlobals && fd.builtins == builtinsNs && codeB T.frag fd && decide ((cellsFrom 0 fd.scope.names []).map (·.1)).Nodup && decide (ps ++ more).Nodup &&
      (ps.all fun p => fd.scope.names.lookup p == some .local || fd.scope.names.lookup p == some .cell) &&
      fd.params.posonlyargs.isEmpty && fd.params.args.map (·.arg) == ps && fd.params.vararg.isNone && fd.params.kwonlyargs.isEmpty && fd.params.kwarg.isNone && dfltB T.frag fd
    | _ => false)
  | none => false
noncomputable def fnB (T : Tab) (f : Addr) (ps more : List Str) (ss : Ss) : Bool := fnG T f ps more fun I b => chkSs 90 I b ss
theorem dflt_of {K : Frag} {fd : FuncData} (h : dfltB K fd = true) {s : Shared} (hin : K.In s.heap) : ∃ D, ∀ (M : Model) (A : Around) (E : Value → Shared → Prop) (Q : Option (Array Value) → Shared → Prop), Q D s → wpAny M A (seqItems? fd.defaults) Q E s := by
  unfold dfltB at h
  split at h
  · rename_i e
    rw [e]
    exact ⟨none, fun M A E Q q => wpAny_pure q⟩
  · rename_i d e
    rw [e]
    split at h
    · rename_i o ho
      split at h
      · rename_i xs m hd
        exact ⟨some xs, fun M A E Q q => wpAny_seqItems (hin d o ho) hd q⟩
      · cases h
    · cases h
  · cases h
theorem code_of {K : Frag} {fd : FuncData} (h : codeB K fd = true) : ∃ c o vs t, fd.code = .ref c ∧ K.lookup c = some o ∧ o.data = .fields vs ∧ vs[1]? = some (.str fd.qualname t) := by
  unfold codeB at h
  split at h
  · rename_i c e
    split at h
    · rename_i o ho
      split at h
      · rename_i vs hd
        split at h
        · rename_i q t hq
          have : q = fd.qualname := by simpa using h
          subst this
          exact ⟨c, o, vs, t, e, ho, hd, hq⟩
        · cases h
      · cases h
    · cases h
  · cases h
theorem lookup_keys {A B : Type} : ∀ {l : List (Str × A)} {m : List (Str × B)} {x : Str}, l.map (·.1) = m.map (·.1) → (l.lookup x).isSome = (m.lookup x).isSome
  | [], [], _, _ => rfl
  | [], _ :: _, _, h => by cases h
  | _ :: _, [], _, h => by cases h
  | (a, u) :: l, (b, v) :: m, x, h => by
    simp only [List.map_cons, List.cons.injEq] at h
    obtain ⟨rfl, h⟩ := h
    rw [List.lookup_cons, List.lookup_cons]
    cases x == a
    · exact lookup_keys h
    · rfl
structure FnG (T : Tab) (f : Addr) (ps more : List Str) (P : Inf → List Stmt → Bool) (fd : FuncData) (body : List Stmt) : Prop where
  fo : FnOk T.frag f fd body ps
  p : P ⟨T, ps ++ more, fd.scope.names⟩ body = true
  nd : (ps ++ more).Nodup
  b1 : fd.params.posonlyargs = []
  b2 : fd.params.args.map (·.arg) = ps
  b3 : fd.params.vararg = none
  b4 : fd.params.kwonlyargs = []
  b5 : fd.params.kwarg = none
  b6 : dfltB T.frag fd = true
theorem fn_ok {T : Tab} {f : Addr} {ps more : List Str} {P : Inf → List Stmt → Bool} (hb : fnG T f ps more P = true) : ∃ fd body, FnG T f ps more P fd body := by
  unfold fnG at hb
  split at hb
  · rename_i o ho
    split at hb
    · rename_i fd hd
      simp only [Bool.and_eq_true, Bool.not_eq_true', beq_iff_eq, decide_eq_true_eq, List.isEmpty_iff, List.all_eq_true, Bool.or_eq_true, Option.isNone_iff_eq_none] at hb
      have q1 := hb.1
      have q2 := q1.1
      have q3 := q2.1
      have q4 := q3.1
      have q5 := q4.1
      have q6 := q5.1
      have q7 := q6.1
      have q8 := q7.1
      have q9 := q8.1
      have q10 := q9.1
      have q11 := q10.1
      have q12 := q11.1
      have q13 := q12.1
      have b4 := q13.2
      split at b4
      · rename_i body hbody
        exact ⟨fd, body, ⟨⟨o, ho, hd⟩, q13.1.1.1, q13.1.1.2, q13.1.2, hbody, q12.2, q11.2, q10.2, code_of q9.2, q8.2, q6.2⟩, b4, q7.2, q5.2, q4.2, q3.2, q2.2, q1.2, hb.2⟩
      · cases b4
    · cases hb
  · cases hb
theorem FnG.bind {T : Tab} {f : Addr} {ps more : List Str} {P : Inf → List Stmt → Bool} {fd : FuncData} {body : List Stmt} (g : FnG T f ps more P fd body) : BindsD T.frag fd ps [] ps.length := fun s vs hin hvl => by
  obtain ⟨D, hD⟩ := dflt_of g.b6 hin
  rw [List.append_nil]
  exact bind_full g.b1 g.b2 g.b3 g.b4 g.b5 (List.nodup_append.mp g.nd).1 hvl D hD
theorem FnG.fits {T : Tab} {f : Addr} {ps more : List Str} {P : Inf → List Stmt → Bool} {fd : FuncData} {body : List Stmt} (g : FnG T f ps more P fd body) {c : Cx} (hT : c.T = T) (hs : c.env.scope = fd.scope) (hc : c.env.cells.map (·.1) = (cellsFrom 0 fd.scope.names []).map (·.1)) : Fits ⟨T, ps ++ more, fd.scope.names⟩ c := {
  T := hT
  names := by rw [hs]
  cells := fun x hx => by
    rw [lookup_keys hc]
    exact cellsFrom_isSome _ _ hx
  nd := g.nd }
/-- a default value -/
noncomputable def dvB (v : Value) (x : V) : Bool := match v, x with
  | .int i _, .int j => i == j
  | .bool b, .bool c => b == c
  | _, _ => false
noncomputable def dvsB : List Value → List V → Bool
  | [], [] => true
  | v :: vs, x :: xs => dvB v x && dvsB vs xs
  | _, _ => false
theorem dvs_rep (h : Heap) : ∀ {vs : List Value} {xs : List V}, dvsB vs xs = true → RepL h vs xs
  | [], [], _ => .nil
  | v :: vs, x :: xs, e => by
    rw [dvsB, Bool.and_eq_true] at e
    refine .cons ?_ (dvs_rep h e.2)
    have e1 := e.1
    unfold dvB at e1
    split at e1
    · rw [beq_iff_eq] at e1; subst e1; exact .int _ _
    · rw [beq_iff_eq] at e1; subst e1; exact .bool _
    · cases e1
/-- the defaults of a def are these -/
noncomputable def dfsB (K : Frag) (f : Addr) (ds : List V) : Bool := match K.lookup f with
  | some o => (match o.data with
    | .func fd => (match fd.defaults with
      | .ref d => (match K.lookup d with
        | some o => (match o.data with
          | .seq xs _ => dvsB xs.toList ds
          | _ => false)
        | none => false)
      | _ => false)
    | _ => false)
  | none => false
theorem FnG.bindD {T : Tab} {f : Addr} {ps more : List Str} {P : Inf → List Stmt → Bool} {fd : FuncData} {body : List Stmt} (g : FnG T f ps more P fd body) {dargs : List V} {m : Nat} (hd : dfsB T.frag f dargs = true) (hm : m + dargs.length = ps.length) :
    ∃ ds, (∀ h, RepL h ds dargs) ∧ BindsD T.frag fd ps ds m := by
  obtain ⟨o, ho, hfd⟩ := g.fo.at'
  unfold dfsB at hd
  simp only [ho, hfd] at hd
  split at hd
  · rename_i d e
    split at hd
    · rename_i o2 ho2
      split at hd
      · rename_i xs n hx
        refine ⟨xs.toList, fun h => dvs_rep h hd, fun s vs hin hvl => ?_⟩
        refine bind_dflt g.b1 g.b2 g.b3 g.b4 g.b5 (List.nodup_append.mp g.nd).1 ?_ fun M A E Q q => by rw [e]; exact wpAny_seqItems (hin d o2 ho2) hx q
        have := (dvs_rep s.heap hd).length
        rw [Array.length_toList] at this
        (first | lia | omega)
      · cases hd
    · cases hd
  · cases hd
theorem ret_of {prog : Program} {T : Tab} {n : Nat} {H : HM} {Q : QV} {f : Addr} {ps more : List Str} {ss : Ss} {fd : FuncData} {body : List Stmt} {X : Addr → HM → Prop} (g : FnG T f ps more (fun I b => chkSs 90 I b ss) fd body) {args : List V} (hl : args.length = ps.length) {c : Cx} (K : CxOk c) (hT : c.T = T) (hs : c.env.scope = fd.scope) (hc : c.env.cells.map (·.1) = (cellsFrom 0 fd.scope.names []).map (·.1)) (xr : XRun prog c T.exc X)
    (w : wpSs prog T n X ss (fun i => args[i]?) H fun r _ H' => match r with | .ret v => Q v H' | _ => Q .none H') : TF prog c n 0 (execs body c.env) (binds (ps.zip args) fun _ => none) H fun r _ H' => match r with | .ret v => Q v H' | _ => Q .none H' := by
  rw [binds_loc g.nd hl]
  refine ((soundStm prog n 0 _ 90).2 ⟨T, ps ++ more, fd.scope.names⟩ c K (g.fits hT hs hc) xr body ss g.p _ _ _ w).mono fun r l H' q => ?_
  obtain ⟨lo, _, q⟩ := q
  cases r <;> exact q
theorem cc_fn {prog : Program} {T : Tab} {n : Nat} {H : HM} {Q : QV} {f : Addr} {ps more : List Str} {ss : Ss} (hb : fnB T f ps more ss = true) {args : List V} (hl : args.length = ps.length)
    (w : wpSs prog T n (fun _ _ => False) ss (fun i => args[i]?) H fun r _ H' => match r with | .ret v => Q v H' | _ => Q .none H') : CC prog T (n + 1) (.ref f) args H Q := by
  obtain ⟨fd, body, g⟩ := fn_ok hb
  have b := g.bind
  rw [← hl] at b
  refine cc_of g.fo (fun _ => .nil) b fun c K hT hs hc => ?_
  rw [List.append_nil]
  exact ret_of g hl K hT hs hc (.inl fun _ _ q => q) w
/-- with defaults -/
theorem cc_fnD {prog : Program} {T : Tab} {n : Nat} {H : HM} {Q : QV} {f : Addr} {ps more : List Str} {ss : Ss} (hb : fnB T f ps more ss = true) {args dargs : List V} (hd : dfsB T.frag f dargs = true) (hl : args.length + dargs.length = ps.length)
    (w : wpSs prog T n (fun _ _ => False) ss (fun i => (args ++ dargs)[i]?) H fun r _ H' => match r with | .ret v => Q v H' | _ => Q .none H') : CC prog T (n + 1) (.ref f) args H Q := by
  obtain ⟨fd, body, g⟩ := fn_ok hb
  obtain ⟨ds, h1, h2⟩ := g.bindD hd hl
  refine cc_of g.fo h1 h2 fun c K hT hs hc => ?_
  exact ret_of g (by rw [List.length_append]; exact hl) K hT hs hc (.inl fun _ _ q => q) w
end Mine

namespace Mine
open PySem PySem.Calls PySem.Spec PyProof.Rows PySem.W

section
variable {prog : Program} {c : Cx} {B : Heap} {loc loc' : Loc} {H H' : HM} {s s' : Shared} {n k dp un : Nat} {Q : QV}
theorem Good.toLo (hs : ∀ b o, c.B0.get? b = some o → c.lo.get? b = some o) (ha : ∀ b, b = c.L ∨ b ∈ c.cells → c.lo.get? b = none) (G : Good prog c B loc H s) : Good prog c c.lo loc H s where
  sub := hs
  kp b o e hb := G.kp b o ((G.lo b o e).1 hb) hb
  ks b o e hn := by
    obtain ⟨sl, z⟩ := (G.lo b o e).2 hn
    obtain ⟨sl', z'⟩ := G.ks b _ z hn
    exact ⟨sl', z'⟩
  apart := ha
  obj a m e := by
    obtain ⟨h1, h2, h3, h4, h5⟩ := G.obj a m e
    refine ⟨?_, h2, h3, h4, h5⟩
    cases q : c.lo.get? a with
    | none => rfl
    | some o => have := (G.lo a o q).1 h2; first | exact (no h1 this).elim | exact (no this h1).elim | obtain rfl := so h1 this | (rw [h1] at this; cases this)
  loc := G.loc
  gens := G.gens
  os := G.os
  fr := G.fr
  lo b o e := ⟨fun _ => e, fun _ => ⟨o.slots, e⟩⟩
end
/-- the contract of a function that may raise -/
noncomputable def CCX (prog : Program) (T : Tab) (n : Nat) (f : Value) (args : List V) (H : HM) (Q : QV) (X : Addr → HM → Prop) : Prop :=
  ∀ c : Cx, CxOk c → c.T = T → ∀ k B loc dp un s vs (RR : Result → Shared → Prop), Room n k dp un → Good prog c B loc H s → RepL s.heap vs args →
    (∀ v s' r H', Rep s'.heap v r → Good prog c B loc H' s' → Q r H' → RR (.ok (.ret v)) s') →
    (∀ a d tb s' H', Good prog c B loc H' s' → ExcIn H' a T.exc d (some tb) → X a H' → RR (.error (.ref a)) s') →
    codeAny (model prog c.w) (c.A dp un) (.call f ⟨vs, []⟩) RR s
section
variable {prog : Program} {c : Cx} {B : Heap} {loc loc' : Loc} {H H' : HM} {s s' : Shared} {n k dp un : Nat} {Q : QV}
theorem ccx_of {T : Tab} {f : Addr} {fd : FuncData} {body : List Stmt} {ps : List Str} (Fo : FnOk T.frag f fd body ps) {args : List V} (hb : BindsD T.frag fd ps [] args.length) {X : Addr → HM → Prop} (st : Stable X)
    (h : ∀ c, CxOk c → c.T = T → c.env.scope = fd.scope → c.env.cells.map (·.1) = (cellsFrom 0 fd.scope.names []).map (·.1) → FF c → XRun prog c T.exc X → TF prog c n 0 (execs body c.env) (binds (ps.zip args) fun _ => none) H fun r _ H' => match r with | .ret v => Q v H' | _ => Q .none H') :
    CCX prog T (n + 1) (.ref f) args H Q X := fun c K hT k B loc dp un s vs RR R G rs hR hX => by
  subst hT
  rw [K.tab.frag] at Fo hb
  obtain ⟨o, ho, hd⟩ := Fo.at'
  have hin : c.K.In s.heap := K.kin.keeps (G.stat K)
  have hcode : s.heap.CodeRec fd.code fd.qualname := by
    obtain ⟨a, oc, fs, t, e1, e2, e3, e4⟩ := Fo.code
    exact ⟨a, oc, fs, t, e1, hin a oc e2, e3, e4⟩
  have hbb := hb s vs hin rs.length
  rw [List.append_nil] at hbb
  refine codeAny_call_function (R.depth) (hin f o ho) hd Fo.co Fo.gen Fo.body hcode (hbb _ _ _ _ ?_)
  rw [Fo.clos, Fo.glob, Fo.blt]
  have hkd : ∀ y ∈ ps.zip vs, fd.scope.names.lookup y.1 = some .local ∨ (fd.scope.names.lookup y.1 = some .cell ∧ ((cellsFrom (s.heap.objs.size + 1) fd.scope.names []).lookup y.1).isSome = true) := fun y hy => by
    obtain ⟨a, b⟩ := y
    rcases Fo.kinds a (List.of_mem_zip hy).1 with q | q
    · exact .inl q
    · exact .inr ⟨q, cellsFrom_isSome _ _ q⟩
  refine wpAny_newFunctionEnv_cells Fo.kind hkd fun env he s1 x => ?_
  have he' : env = callEnvC fd s.heap.objs.size f := by
    rw [he]; unfold callEnvC; rw [Fo.glob, Fo.blt]
  subst he'
  have G1 := fun X => Good.intoCall (X := X) K Fo G rs x
  have K1 := fun X => K.callee (X := X) (lo := baseC H s.heap) Fo G x
  refine ⟨K.nl.keeps ((G1 fun _ _ => True).stat (K1 fun _ _ => True)), codeAny_func ?_⟩
  have R1 : Room n 0 (dp + 1) (un + 3) := by obtain ⟨r1, r2, r3⟩ := R; exact ⟨by (first | lia | omega), by (first | lia | omega), by (first | lia | omega)⟩
  let X1 : Value → Shared → Prop := fun e s' => wpAny (model prog c.w) ((c.A dp un).deeper (callEnvC fd s.heap.objs.size f)) (leaving (callEnvC fd s.heap.objs.size f) e) (fun _ s'' => RR (.error e) s'') (fun e' s'' => RR (.error e') s'') s'
  have ff : FF (c.callee fd s.heap.objs.size f X1 (baseC H s.heap)) := ⟨rfl, ⟨c.fr, rfl⟩, (K1 X1).each⟩
  have xr : XRun prog (c.callee fd s.heap.objs.size f X1 (baseC H s.heap)) c.T.exc X := by
    refine .inr ⟨ff, st, fun a d tb loc2 B2 H2 s2 G2 ha hx => ?_⟩
    have Glo := Good.toLo (c := c.callee fd s.heap.objs.size f X1 (baseC H s.heap)) (fun b o e => (G1 X1).sub b o e) (fun b hb => (G1 X1).apart b hb) G2
    exact op_leaving (c := c.callee fd s.heap.objs.size f X1 (baseC H s.heap)) (dp := dp + 1) (un := un + 3) (K1 X1) ff Glo ha fun s3 H3 T3 G3 st3 ha3 => hX a d T3 s3 H3 (Good.outCall G G3) ha3 (st a _ _ _ _ _ _ st3 ha.1 ha3.1 hx)
  refine TF.run (c := c.callee fd s.heap.objs.size f X1 (baseC H s.heap)) (h _ (K1 X1) rfl rfl (cellsFrom_names fd.scope.names _ 0 [] [] rfl) ff xr) (K1 X1) R1 (G1 X1) fun fl r loc2 H2 s2 rf F q => ?_
  have G2 := Good.outCall G F.g
  induction rf with
  | ret rv => exact hR _ _ _ H2 rv G2 q
  | next => exact hR _ _ _ H2 .none G2 q
  | brk => exact hR _ _ _ H2 .none G2 q
  | cont => exact hR _ _ _ H2 .none G2 q
end
/-- the contract of a raising function from its closed check -/
theorem ccx_fn {prog : Program} {T : Tab} {n : Nat} {H : HM} {Q : QV} {f : Addr} {ps more : List Str} {ss : Ss} (hb : fnB T f ps more ss = true) {args : List V} (hl : args.length = ps.length) {X : Addr → HM → Prop} (st : Stable X)
    (w : wpSs prog T n X ss (fun i => args[i]?) H fun r _ H' => match r with | .ret v => Q v H' | _ => Q .none H') : CCX prog T (n + 1) (.ref f) args H Q X := by
  obtain ⟨fd, body, g⟩ := fn_ok hb
  have b := g.bind
  rw [← hl] at b
  exact ccx_of g.fo b st fun c K hT hs hc _ xr => ret_of g hl K hT hs hc xr w
theorem CCX.x {prog : Program} {T : Tab} {n : Nat} {f : Value} {args : List V} {H : HM} {Q : QV} {X : Addr → HM → Prop} (h : CCX prog T n f args H Q X) : CWX prog T n X f args H Q := fun c K hT XR k B loc dp un s vs R G rs => by
  refine wpAny_call (h c K hT k B loc dp un s vs _ R G rs (fun v s' r H' a b q => ⟨r, H', a, b, q⟩) fun a d tb s' H' G' ha hx => ?_)
  rcases XR with q | ⟨_, _, q⟩
  · exact absurd hx (q a H')
  · exact q a d _ loc B H' s' G' ha hx
theorem CC.x {prog : Program} {T : Tab} {n : Nat} {f : Value} {args : List V} {H : HM} {Q : QV} {X : Addr → HM → Prop} (h : CC prog T n f args H Q) : CWX prog T n X f args H Q := h.cw.x
end Mine

namespace Mine
open PySem PySem.Calls PySem.Spec PyProof.Rows PySem.W

/-- what making an object of the exception class asks of the written part -/
inductive ExcI (h : Heap) (C fI : Addr) : Prop
  | mk (nm q : Str) (N : Addr) (bs bm : List Value) (hdct : Bool) (sn : List Str) (sub : List Value) (ab : Bool) (col : Option Bool) (dd : Option Addr) (k0 k1 k2 k3 k5 : Option Value) (mN : Str → Option Value) (oI : Obj)
    (hC : h.get? C = some (excClassObj nm q C N bs bm hdct sn sub ab col dd k0 k1 k2 k3 k5 "Exception.__new__")) (hN : h.Ns N mN) (hi : mN "__init__" = some (.ref fI)) (hf : h.get? fI = some oI) (hc : oI.cls = .type "function")
    (hT : OwnTail h [.type "Exception", .type "BaseException", .type "object"] bm)
noncomputable def ExcMk (K : Frag) (C fI : Addr) : Prop := ∀ h : Heap, K.In h → ExcI h C fI
theorem cw_exc {prog : Program} {T : Tab} {n : Nat} {H : HM} {Q : QV} {fI : Addr} (hM : ExcMk T.frag T.exc fI) {args : List V} (hlen : args.length ≤ 1000)
    (h : ∀ e, H e = none → CW prog T n (.ref fI) (.ref e :: args) (upd H e (.exc T.exc none none)) fun r H' => r = .none ∧ Q (.ref e) H') : CW prog T (n + 1) (.ref T.exc) args H Q := fun c K hT k B loc dp un s vs R G rs => by
  subst hT
  have hin : c.T.frag.In s.heap := by rw [K.tab.frag]; exact K.kin.keeps (G.stat K)
  obtain ⟨nm, q, N, bs, bm, hdct, sn, sub, ab, col, dd, k0, k1, k2, k3, k5, mN, oI, hC, hN, hi, hfI, hfc, hT⟩ := hM s.heap hin
  obtain ⟨hh, g, d, t, os⟩ := s
  have hcont : ([.type "Exception", .type "BaseException", .type "object"] : List Value).contains (.type "Exception") = true := by decide +kernel
  refine exc_made F.excBase_Exception hcont F.excBase_Exception hT hC hN hi hfI hfc (by rw [rs.length]; unfold sizeLine; (first | lia | omega)) fun h' e hm => ?_
  rw [under_call]
  have hkk := hm.keeps
  have G1 : Good prog c B loc H ⟨h', g, d, t, os⟩ := G.more (s' := ⟨h', g, d, t, os⟩) hkk rfl rfl
  have hnew : hh.get? e = none := hm.new
  have nf : e ∉ c.frs := fun z => by obtain ⟨o, _, _, z', _⟩ := G.fr e z; rw [hnew] at z'; cases z'
  have nB : B.get? e = none := by
    cases z : B.get? e with
    | none => rfl
    | some o => have := G.kp e o z nf; first | exact (no hnew this).elim | exact (no this hnew).elim | obtain rfl := so hnew this | (rw [hnew] at this; cases this)
  have nL : e ≠ c.L := by
    rintro rfl
    obtain ⟨_, ⟨o, _, _, z, _⟩, _⟩ := G.loc.ns
    first | exact (no hnew z).elim | exact (no z hnew).elim | obtain rfl := so hnew z | (rw [hnew] at z; cases z)
  have nC : e ∉ c.cells := fun z => by obtain ⟨_, o, z', _⟩ := G.loc.cl e z; rw [hnew] at z'; cases z'
  have nH : H e = none := by
    cases z : H e with
    | none => rfl
    | some m => obtain ⟨o, z'⟩ := repM_there (G.obj e m z).rep; rw [hnew] at z'; cases z'
  obtain ⟨tt, he, _, _⟩ := hm.there
  have G2 := G1.tell (m := .exc c.T.exc none none) nB nf nL nC ⟨_, _, he, rfl, rfl, rfl, rfl, rfl⟩
  have R1 : Room n k (dp + 1) (un + 1) := by obtain ⟨r1, r2, r3⟩ := R; exact ⟨by (first | lia | omega), by (first | lia | omega), r3⟩
  refine wpAny_mono (h e nH c K rfl k B loc (dp + 1) (un + 1) ⟨h', g, d, t, os⟩ (.ref e :: vs) R1 G2 (.cons (.ref e) (RepL.mono (Kt.of_keeps hkk) rs))) (fun v s' z0 => ?_) fun _ _ x => x
  obtain ⟨r, H', rv, G', er, q⟩ := z0
  subst er
  exact ⟨by cases rv; rfl, .ref e, H', .ref e, G', q⟩
end Mine

namespace Mine
open PySem PySem.Calls PySem.Spec PyProof.Rows PySem.W

section
variable {prog : Program} {c : Cx} {B : Heap} {loc loc' : Loc} {H H' : HM} {s s' : Shared} {n k dp un : Nat} {Q : QV}
/-- all but the locals' object stays, the locals are forgotten -/
theorem Good.dropL (G : Good prog c B loc H s) (hk : ∀ b o, b ≠ c.L → s.heap.get? b = some o → s'.heap.get? b = some o) {m' : Str → Option Value} (hl : s'.heap.Ns c.L m') (h2 : s'.gens = s.gens) (h3 : s'.os = s.os) : Good prog c B (fun _ => none) H s' := by
  have kt : Kt s.heap s'.heap := fun a vs t => by
    have z := (G.tupApart t).2.1
    obtain ⟨o, ho, r⟩ := t
    exact ⟨o, hk a o z ho, r⟩
  have nL : ∀ b o, B.get? b = some o → b ≠ c.L := fun b o e q => by have := G.apart b (.inl q); first | exact (no e this).elim | exact (no this e).elim | obtain rfl := so e this | (rw [e] at this; cases this)
  exact {
    sub := G.sub
    lo := G.lo
    kp := fun b o e hf => hk b o (nL b o e) (G.kp b o e hf)
    ks := fun b o e hn => let ⟨sl, z⟩ := G.ks b o e hn; ⟨sl, hk _ _ (nL b o e) z⟩
    apart := G.apart
    obj := fun a m e => let ⟨h1, h2, h3, h4, h5⟩ := G.obj a m e; ⟨h1, h2, h3, h4, h5.mono kt fun o => hk a o h3⟩
    loc := {
      ns := ⟨m', hl, fun _ _ q => by cases q⟩
      cl := fun a ha => by
        obtain ⟨v, o, ho, e⟩ := G.loc.cl a ha
        refine ⟨v, o, hk a o ?_ ho, e⟩
        rintro rfl
        obtain ⟨_, ⟨o', es, ep, e', hd, _⟩, _⟩ := G.loc.ns
        rw [ho] at e'; cases e'; first | exact (no e hd).elim | exact (no hd e).elim | obtain rfl := so e hd | (rw [e] at hd; cases hd) }
    gens := h2.trans G.gens
    os := h3.trans G.os
    fr := fun b hb => by
      by_cases q : b = c.L
      · subst q
        obtain ⟨o, es, ep, e, hd, _⟩ := hl
        exact ⟨o, es, ep, e, hd⟩
      · obtain ⟨o, es, n, e, r⟩ := G.fr b hb
        exact ⟨o, es, n, hk b o q e, r⟩ }
noncomputable def Cx.caught (c : Cx) (X : Value → Shared → Prop) (lo : Heap) : Cx := { c with X := X, lo := lo }
theorem CxOk.caught (K : CxOk c) (X : Value → Shared → Prop) (lo : Heap) : CxOk (c.caught X lo) := ⟨K.kind, K.glob, K.blt, K.locals, K.apart, K.Lc, K.inj, K.newL, K.newC, K.nl, K.kin, K.sysm, K.tab, K.above, K.each⟩
theorem Good.caught (G : Good prog c B loc H s) (X : Value → Shared → Prop) : Good prog (c.caught X B) B loc H s where
  sub := G.sub
  kp := G.kp
  ks := G.ks
  apart := G.apart
  obj a m e := (G.obj a m e).wx rfl rfl rfl rfl
  loc := ⟨G.loc.ns, G.loc.cl⟩
  gens := G.gens
  os := G.os
  fr := G.fr
  lo b o e := ⟨fun _ => e, fun _ => ⟨o.slots, e⟩⟩
theorem Good.uncaught {B' : Heap} {s₀ : Shared} {loc₀ : Loc} {H₀ : HM} (G₀ : Good prog c B loc₀ H₀ s₀) {X : Value → Shared → Prop} (G : Good prog (c.caught X B) B' loc H s) : Good prog c B loc H s := by
  have G1 : Good prog (c.caught X B) B loc H s := Good.toLo (c := c.caught X B) (fun b o e => G₀.sub b o e) (fun b hb => G₀.apart b hb) G
  exact {
    sub := G1.sub
    kp := G1.kp
    ks := G1.ks
    apart := G1.apart
    obj := fun a m e => (G1.obj a m e).wx rfl rfl rfl rfl
    loc := ⟨G1.loc.ns, G1.loc.cl⟩
    gens := G1.gens
    os := G1.os
    fr := G1.fr
    lo := G₀.lo }
/-- try: return (..) except C as fault: return (word, fault.ball) -/
theorem tf_try (K : CxOk c) (f : FF c) {body : List Stmt} {x fl word nm : Str} {p1 p2 p3 p4 p5 p6 p7 p8 : Pos} {k1 k2 : Nat} {X : Addr → HM → Prop} (st : Stable X) {QR : QF} {Q : QF} {fI : Addr} (hM : ExcMk c.T.frag c.T.exc fI)
    (hx : c.T.glob x = some (.ref c.T.exc)) (hxk : c.env.kindOf x = some .globalImplicit) (hxd : (x == ("__debug__" : Str)) = false)
    (hfk : c.env.kindOf fl = some .local) (hfd : (fl == ("__debug__" : Str)) = false) (hnm : nm = Str.ofString "ball")
    (hb : ∀ c', CxOk c' → c'.T = c.T → c'.env = c.env → XRun prog c' c.T.exc X → TF prog c' n k (execs body c'.env) loc H QR)
    (hR : ∀ r loc' H', QR r loc' H' → match r with | .next => False | r => Q r loc' H')
    (hX : ∀ a H', X a H' → ∃ d tb l y, H' a = some (.exc c.T.exc (some d) tb) ∧ H' d = some (.attrs l) ∧ l.lookup (Str.ofString "ball") = some y ∧ y.noPrim = true ∧ Q (.ret (.tup [.str word, y])) (fun _ => none) H') :
    TF prog c n k (exec (.Try body [.ExceptHandler (some (.Name x p1)) (some fl) [.Return (some (.Tuple [.Constant (.str word) k1 p2, .Attribute (.Name fl p3) nm p4] k2 p5)) p6] p7] [] [] p8) c.env) loc H Q := fun B dp un s R G => by
  subst hnm
  refine wpAny_Try_except ?_
  let QQ : Flow → Shared → Prop := PF prog c B Q
  let X1 : Value → Shared → Prop := fun e s₁ => wpAny (model prog c.w) (c.A dp un) (noteFrame e c.env) (fun _ s₂ => wpAny (model prog c.w) (c.A dp un) (setFlight e none) (fun _ s₃ => wpAny (model prog c.w) (c.A dp un) (handleBy e c.env [.ExceptHandler (some (.Name x p1)) (some fl) [.Return (some (.Tuple [.Constant (.str word) k1 p2, .Attribute (.Name fl p3) (Str.ofString "ball") p4] k2 p5)) p6] p7]) QQ c.X s₃) c.X s₂) c.X s₁
  have K' := K.caught X1 B
  have G' := G.caught X1
  have xr : XRun prog (c.caught X1 B) c.T.exc X := by
    refine .inr ⟨⟨f.frame, f.head, f.each⟩, st, fun a d0 tb0 loc2 B2 H2 s2 G2 ha hx2 => ?_⟩
    have Gc := G.uncaught G2
    show wpAny _ _ _ _ _ _
    refine op_noteFrame K f Gc ha fun s3 H3 T3 G3 st3 ha3 hT3 => op_setFlight G3 ha3 fun s4 H4 G4 st4 ha4 => ?_
    have hx4 := st a _ _ _ _ _ _ (st3.trans st4) ha.1 ha4.1 hx2
    clear hx2
    refine wpAny_handleBy_cons (codeAny_handlers_test ?_) (by intro q; cases q)
    obtain ⟨u, ru, g⟩ := K.tab.glob x _ hx
    obtain rfl := ru.invRef
    refine Name_function_global K.kind hxk (g _ _ _ _ _ _ K.glob K.blt (G4.stat K) ?_) hxd
    have hin : c.T.frag.In s4.heap := by rw [K.tab.frag]; exact K.kin.keeps (G4.stat K)
    obtain ⟨nm, q, N, bs, bm, hdct, sn, sub, ab, col, dd, e0, e1, e2, e3, e5, mN, oI, hC, hN, hi, hfI, hfc, hT⟩ := hM s4.heap hin
    obtain ⟨oe, vs, he, hc, hdi, hd, hsz, h1⟩ := (G4.obj _ _ ha4.1).rep
    obtain ⟨hh, gg, dr, tk, os⟩ := s4
    refine wpAny_excMatches_sub_self hC he hc (hT.hasType (by decide +kernel)) (codeAny_handlers_suite_as ?_)
    refine op_setFlight G4 ha4 fun s5 H5 G5 st5 ha5 => ?_
    obtain ⟨d, tb, l, y, hea, hda, hly, hyp, hq⟩ := hX a H5 (st a _ _ _ _ _ _ st5 ha4.1 ha5.1 hx4)
    refine G5.store (v := .ref a) K (.ref a) (.inl hfk) fun s6 G6 => ?_
    refine wpAny_execs_cons (wpAny_Return_some (wpAny_Tuple ?_))
    have hse : starEach [.Constant (.str word) k1 p2, .Attribute (.Name fl p3) (Str.ofString "ball") p4] c.env = [(false, eval (.Constant (.str word) k1 p2) c.env), (false, eval (.Attribute (.Name fl p3) (Str.ofString "ball") p4) c.env)] := rfl
    rw [hse]
    refine spliced_cons (wpAny_Constant_str (k := k1) (pos := p2) (spliced_cons ?_))
    have G6' : Good prog c B (put loc2 fl (.ref a)) H5 { s6 with toks := s6.toks + 1 } := G6.same rfl rfl rfl
    refine Attribute_any_ (wpAny_Name (op_load (v := .ref a) K G6' (by unfold put; rw [if_pos rfl]) fun u ru => ?_) hfd) rfl
    obtain rfl := ru.invRef
    refine op_getExc K G6' K.tab.exc.1 K.tab.exc.2.2 hea hda hly hyp fun v s7 rv G7 => ?_
    refine wpAny_pure ?_
    refine ⟨by show 2 ≤ sizeLine; decide, ?_⟩
    have G8 := G7.push { cls := .type "tuple", data := .seq #[.str word s6.toks, v] }
    obtain ⟨m8, hn8, _⟩ := G8.loc.ns
    refine wpAny_nameGoes hfk (by rw [K.locals]; exact hn8) ?_ fun h9 m9 hn9 hs9 => ?_
    · rw [K.kind]; rfl
    · rw [K.locals] at hn9 hs9
      have G9 := G8.dropL (s' := ⟨h9, s7.gens, s7.drawn, s7.toks + 1, s7.os⟩) (fun b o hb e => (hs9.2 b hb).trans e) hn9 rfl rfl
      have r8 : Rep (s7.heap.push { cls := .type "tuple", data := .seq #[.str word s6.toks, v] }) (.ref s7.heap.objs.size) (.tup [.str word, y]) :=
        .tup (vs := [.str word s6.toks, v]) ⟨_, Heap.get?_push_size _ rfl, rfl, 0, rfl⟩ (.cons (.str _ _) (.cons (Rep.mono (Kt.of_keeps fun _ _ e => Heap.get?_push_of_some _ e) rv) .nil))
      refine ⟨.ret (.tup [.str word, y]), fun _ => none, H5, .ret (Rep.mono (fun b ws tt => ?_) r8), G9, hq⟩
      have z := (G8.tupApart tt).2.1
      obtain ⟨o, ho, rest⟩ := tt
      exact ⟨o, (hs9.2 b z).trans ho, rest⟩
  refine TF.run (c := c.caught X1 B) (hb _ K' rfl rfl xr) K' R G' fun fl r loc2 H2 s2 rf F q => ?_
  have G2 := G.uncaught F.g
  have z := hR r loc2 H2 q
  induction rf with
  | next => exact z.elim
  | brk => exact ⟨_, _, _, .brk, G2, z⟩
  | cont => exact ⟨_, _, _, .cont, G2, z⟩
  | ret rv => exact ⟨_, _, _, .ret rv, G2, z⟩
end
noncomputable def onHandler (h : ExceptHandler) (k : Option Expr → Option Str → List Stmt → Pos → Bool) : Bool := match h with | .ExceptHandler a b c p => k a b c p
theorem onHandler_el {P : ExceptHandler → Prop} {h : ExceptHandler} {k : Option Expr → Option Str → List Stmt → Pos → Bool} (e : onHandler h k = true) (f : ∀ a b c p, k a b c p = true → P (.ExceptHandler a b c p)) : P h := by
  cases h; exact f _ _ _ _ e
noncomputable def onStr (c : Const) (k : Str → Bool) : Bool := match c with | .str x => k x | _ => false
theorem onStr_el {P : Const → Prop} {c : Const} {k : Str → Bool} (e : onStr c k = true) (f : ∀ x, k x = true → P (.str x)) : P c := by
  cases c <;> first | exact f _ e | exact (Bool.false_ne_true e).elim
noncomputable def isRef (o : Option V) (a : Addr) : Bool := match o with | some (.ref b) => b == a | _ => false
theorem isRef_of {o : Option V} {a : Addr} (h : isRef o a = true) : o = some (.ref a) := by
  cases o with
  | none => exact (Bool.false_ne_true h).elim
  | some v => cases v <;> first | exact congrArg _ (congrArg _ (eq_of_beq h)) | exact (Bool.false_ne_true h).elim
noncomputable def tryB (I : Inf) (body : List Stmt) (ss : Ss) : Bool := on1 body fun t => onTry t fun tb hs el fi _ => onNil el (onNil fi (on1 hs fun h => onHandler h fun ty fl b _ => onSome ty fun ty => onName ty fun x _ => onSome fl fun fl => on1 b fun r => onRet r fun e _ => onSome e fun e => onTup e fun es _ _ => on2 es fun w a => onConst w fun k _ _ => onStr k fun word => onAttr a fun o nm _ => onName o fun fl' _ =>
    chkSs 90 I tb ss && okGlob I x && isRef (I.T.glob x) I.T.exc && I.names.lookup fl == some .local && !(fl == ("__debug__" : Str)) && fl' == fl && nm == Str.ofString "ball" && word == Str.ofString "error"))
noncomputable def fnTB (T : Tab) (f : Addr) (ps more : List Str) (ss : Ss) : Bool := fnG T f ps more fun I b => tryB I b ss
/-- the contract of a catching function -/
theorem cc_try {prog : Program} {T : Tab} {n : Nat} {H : HM} {Q : QV} {f : Addr} {ps more : List Str} {ss : Ss} {fI : Addr} (hb : fnTB T f ps more ss = true) (hM : ExcMk T.frag T.exc fI) {args : List V} (hl : args.length = ps.length) {X : Addr → HM → Prop} (st : Stable X)
    (hX : ∀ a H', X a H' → ∃ d tb l y, H' a = some (.exc T.exc (some d) tb) ∧ H' d = some (.attrs l) ∧ l.lookup (Str.ofString "ball") = some y ∧ y.noPrim = true ∧ Q (.tup [.str (Str.ofString "error"), y]) H')
    (w : wpSs prog T n X ss (fun i => args[i]?) H fun r _ H' => match r with | .ret v => Q v H' | _ => False) : CC prog T (n + 1) (.ref f) args H Q := by
  obtain ⟨fd, body, g⟩ := fn_ok hb
  have bnd := g.bind
  rw [← hl] at bnd
  have b4 := g.p
  have main : CCX prog T (n + 1) (.ref f) args H Q (fun _ _ => False) := by
    refine ccx_of g.fo bnd (fun _ _ _ _ _ _ _ _ _ _ q => q) fun c K hT hs hc ff xr => ?_
    have h : on1 body _ = true := b4
    clear b4
    apply on1_el h; intro t h
    apply onTry_el h; intro tb hs' el fi p8 h
    apply onNil_el h; intro h
    apply onNil_el h; intro h
    apply on1_el h; intro hh h
    apply onHandler_el h; intro ty fl b p7 h
    apply onSome_el h; intro ty h
    apply onName_el h; intro x px h
    apply onSome_el h; intro fl h
    apply on1_el h; intro r h
    apply onRet_el h; intro e p6 h
    apply onSome_el h; intro e h
    apply onTup_el h; intro es k2 p5 h
    apply on2_el h; intro w' a' h
    apply onConst_el h; intro kc k1 p2 h
    apply onStr_el h; intro word h
    apply onAttr_el h; intro o' nm p4 h
    apply onName_el h; intro fl' p3 h
    · have d1 := bl (bl (bl (bl (bl (bl (bl h))))))
      have d2 := br (bl (bl (bl (bl (bl (bl h))))))
      have hg : T.glob x = some (.ref T.exc) := isRef_of (br (bl (bl (bl (bl (bl h))))))
      have d4 := eq_of_beq (br (bl (bl (bl (bl h)))))
      have d5 := bn (br (bl (bl (bl h))))
      apply beq_el (br (bl (bl h)))
      apply beq_el (br (bl h))
      apply beq_el (br h)
      clear h
      replace d2 := And.intro (eq_of_beq (bl d2)) (bn (br d2))
      have hkd : ∀ y, c.env.kindOf y = fd.scope.names.lookup y := fun y => by
        show c.env.scope.names.lookup y = _
        rw [hs]
      rw [binds_loc g.nd hl]
      subst hT
      refine tf_cons K (TF.mono (tf_try K ff (X := X) st hM hg (by rw [hkd]; exact d2.1) d2.2 (by rw [hkd]; exact d4) d5 rfl (QR := fun r l H' => ∃ lo, l = locOf (ps ++ more) lo ∧ match r with | .ret v => Q v H' | _ => False)
        (Q := fun r _ H' => match r with | .ret v => Q v H' | _ => False) (fun c' K' hT' he' xr' => ?_) (fun r loc' H' q => ?_) fun a H' hx => ?_) fun r l H' q => ?_)
      · have Fi : Fits ⟨c.T, ps ++ more, fd.scope.names⟩ c' := {
          T := hT'
          names := by rw [he', hs]
          cells := fun x hx => by
            rw [he', lookup_keys hc]
            exact cellsFrom_isSome _ _ hx
          nd := g.nd }
        exact ((soundStm prog n 0 X 90).2 ⟨c.T, ps ++ more, fd.scope.names⟩ c' K' Fi xr' tb ss d1 _ _ _ w)
      · obtain ⟨lo, _, q⟩ := q
        cases r <;> first | exact q | exact q.elim
      · obtain ⟨d, tb, l, y, e1, e2, e3, e4, e5⟩ := hX a H' hx
        exact ⟨d, tb, l, y, e1, e2, e3, e4, e5⟩
      · cases r <;> first | exact q | exact q.elim
  intro c K hT k B loc dp un s vs RR R G rs hR hE
  exact main c K hT k B loc dp un s vs RR R G rs hR fun _ _ _ _ _ _ _ q => q.elim
end Mine

namespace Mine
open PySem

/-- the words of the text, by number -/
noncomputable def sxl : List Str := List.map Str.ofString ["[]", ".", "{}", "-", "+", "*", "/", ",", "|", ";", "->", "\\+", ":-", "?-", "-->", "!", "true", "fail", "false", "call", "=", "^", "error", "", "end_of_file", "system", "$VAR", "catch", "throw", "s", "a", "instantiation_error", "type_error", "domain_error", "resource_error", "memory", "v", "i", "list", "read", "quoted", "size", "yes", "f", "row", "parts", "word", "read_option", "write_option", "stream_option"]
noncomputable def sx (i : Nat) : Str := sxl.getD i Str.empty
-- PrologError_init PrologError.__init__ 48
noncomputable def p_PrologError_init : List Str := List.map Str.ofString ["self", "ball"]
noncomputable def m_PrologError_init : List Str := List.map Str.ofString []
noncomputable def s_PrologError_init : Ss := (.cons (.asgnA (.var 0) 27 (.var 1)) .nil)
-- fixed_atoms fixed_atoms 60
noncomputable def p_fixed_atoms : List Str := List.map Str.ofString []
noncomputable def m_fixed_atoms : List Str := List.map Str.ofString []
noncomputable def s_fixed_atoms : Ss := (.cons (.ret (.tup (.cons (.const (.str (sx 0))) (.cons (.const (.str (sx 1))) (.cons (.const (.str (sx 2))) (.cons (.const (.str (sx 3))) (.cons (.const (.str (sx 4))) (.cons (.const (.str (sx 5))) (.cons (.const (.str (sx 6))) (.cons (.const (.str (sx 7))) (.cons (.const (.str (sx 8))) (.cons (.const (.str (sx 9))) (.cons (.const (.str (sx 10))) (.cons (.const (.str (sx 11))) (.cons (.const (.str (sx 12))) (.cons (.const (.str (sx 13))) (.cons (.const (.str (sx 14))) (.cons (.const (.str (sx 15))) (.cons (.const (.str (sx 16))) (.cons (.const (.str (sx 17))) (.cons (.const (.str (sx 18))) (.cons (.const (.str (sx 19))) (.cons (.const (.str (sx 20))) (.cons (.const (.str (sx 21))) (.cons (.const (.str (sx 22))) (.cons (.const (.str (sx 23))) (.cons (.const (.str (sx 24))) (.cons (.const (.str (sx 25))) (.cons (.const (.str (sx 26))) (.cons (.const (.str (sx 27))) (.cons (.const (.str (sx 28))) .nil))))))))))))))))))))))))))))))) .nil)
-- fixed_functors fixed_functors 67
noncomputable def p_fixed_functors : List Str := List.map Str.ofString []
noncomputable def m_fixed_functors : List Str := List.map Str.ofString []
noncomputable def s_fixed_functors : Ss := (.cons (.ret (.tup (.cons (.tup (.cons (.const (.str (sx 1))) (.cons (.const (.int 2)) .nil))) (.cons (.tup (.cons (.const (.str (sx 7))) (.cons (.const (.int 2)) .nil))) (.cons (.tup (.cons (.const (.str (sx 9))) (.cons (.const (.int 2)) .nil))) (.cons (.tup (.cons (.const (.str (sx 10))) (.cons (.const (.int 2)) .nil))) (.cons (.tup (.cons (.const (.str (sx 11))) (.cons (.const (.int 1)) .nil))) (.cons (.tup (.cons (.const (.str (sx 12))) (.cons (.const (.int 2)) .nil))) (.cons (.tup (.cons (.const (.str (sx 12))) (.cons (.const (.int 1)) .nil))) (.cons (.tup (.cons (.const (.str (sx 13))) (.cons (.const (.int 1)) .nil))) (.cons (.tup (.cons (.const (.str (sx 14))) (.cons (.const (.int 2)) .nil))) (.cons (.tup (.cons (.const (.str (sx 2))) (.cons (.const (.int 1)) .nil))) (.cons (.tup (.cons (.const (.str (sx 20))) (.cons (.const (.int 2)) .nil))) (.cons (.tup (.cons (.const (.str (sx 21))) (.cons (.const (.int 2)) .nil))) (.cons (.tup (.cons (.const (.str (sx 3))) (.cons (.const (.int 1)) .nil))) (.cons (.tup (.cons (.const (.str (sx 3))) (.cons (.const (.int 2)) .nil))) (.cons (.tup (.cons (.const (.str (sx 4))) (.cons (.const (.int 2)) .nil))) (.cons (.tup (.cons (.const (.str (sx 6))) (.cons (.const (.int 2)) .nil))) (.cons (.tup (.cons (.const (.str (sx 22))) (.cons (.const (.int 2)) .nil))) (.cons (.tup (.cons (.const (.str (sx 26))) (.cons (.const (.int 1)) .nil))) (.cons (.tup (.cons (.const (.str (sx 27))) (.cons (.const (.int 3)) .nil))) (.cons (.tup (.cons (.const (.str (sx 28))) (.cons (.const (.int 1)) .nil))) (.cons (.tup (.cons (.const (.str (sx 15))) (.cons (.const (.int 0)) .nil))) (.cons (.tup (.cons (.const (.str (sx 16))) (.cons (.const (.int 0)) .nil))) (.cons (.tup (.cons (.const (.str (sx 17))) (.cons (.const (.int 0)) .nil))) (.cons (.tup (.cons (.const (.str (sx 18))) (.cons (.const (.int 0)) .nil))) (.cons (.tup (.cons (.const (.str (sx 19))) (.cons (.const (.int 1)) .nil))) (.cons (.tup (.cons (.const (.str (sx 19))) (.cons (.const (.int 2)) .nil))) (.cons (.tup (.cons (.const (.str (sx 19))) (.cons (.const (.int 3)) .nil))) (.cons (.tup (.cons (.const (.str (sx 19))) (.cons (.const (.int 4)) .nil))) (.cons (.tup (.cons (.const (.str (sx 19))) (.cons (.const (.int 5)) .nil))) (.cons (.tup (.cons (.const (.str (sx 19))) (.cons (.const (.int 6)) .nil))) (.cons (.tup (.cons (.const (.str (sx 19))) (.cons (.const (.int 7)) .nil))) (.cons (.tup (.cons (.const (.str (sx 19))) (.cons (.const (.int 8)) .nil))) .nil)))))))))))))))))))))))))))))))))) .nil)
-- Symbols_init Symbols.__init__ 81
noncomputable def p_Symbols_init : List Str := List.map Str.ofString ["self"]
noncomputable def m_Symbols_init : List Str := List.map Str.ofString ["text", "row"]
noncomputable def s_Symbols_init : Ss := (.cons (.asgnA (.var 0) 7 (.list .nil)) (.cons (.asgnA (.var 0) 8 (.dict0 1)) (.cons (.asgnA (.var 0) 9 (.list .nil)) (.cons (.asgnA (.var 0) 10 (.dict0 2)) (.cons (.loop 1 (.seq (.call 60 .nil)) (.cons (.expr (.meth (.var 0) 28 (.cons (.var 1) .nil))) .nil)) (.cons (.loop 2 (.seq (.call 67 .nil)) (.cons (.expr (.meth (.var 0) 31 (.cons (.sub (.var 2) (.const (.int 0))) (.cons (.sub (.var 2) (.const (.int 1))) .nil)))) .nil)) .nil))))))
-- Symbols_atom Symbols.atom 88
noncomputable def p_Symbols_atom : List Str := List.map Str.ofString ["self", "text"]
noncomputable def m_Symbols_atom : List Str := List.map Str.ofString ["found", "number"]
noncomputable def s_Symbols_atom : Ss := (.cons (.asgn 2 (.get (.attr (.var 0) 8) (.var 1) (.neg (.const (.int 1))))) (.cons (.ite (.cmp .GtE (.var 2) (.const (.int 0))) (.cons (.ret (.var 2)) .nil) .nil) (.cons (.asgn 3 (.bcall .len (.cons (.attr (.var 0) 7) .nil))) (.cons (.expr (.append (.attr (.var 0) 7) (.var 1))) (.cons (.asgnS (.attr (.var 0) 8) (.var 1) (.var 3)) (.cons (.ret (.var 3)) .nil))))))
-- Symbols_text Symbols.text 95
noncomputable def p_Symbols_text : List Str := List.map Str.ofString ["self", "number"]
noncomputable def m_Symbols_text : List Str := List.map Str.ofString []
noncomputable def s_Symbols_text : Ss := (.cons (.ret (.sub (.attr (.var 0) 7) (.var 1))) .nil)
-- Symbols_functor Symbols.functor 102
noncomputable def p_Symbols_functor : List Str := List.map Str.ofString ["self", "atom", "arity"]
noncomputable def m_Symbols_functor : List Str := List.map Str.ofString ["key", "found", "number"]
noncomputable def s_Symbols_functor : Ss := (.cons (.asgn 3 (.tup (.cons (.var 1) (.cons (.var 2) .nil)))) (.cons (.asgn 4 (.get (.attr (.var 0) 10) (.var 3) (.neg (.const (.int 1))))) (.cons (.ite (.cmp .GtE (.var 4) (.const (.int 0))) (.cons (.ret (.var 4)) .nil) .nil) (.cons (.asgn 5 (.bcall .len (.cons (.attr (.var 0) 9) .nil))) (.cons (.expr (.append (.attr (.var 0) 9) (.var 3))) (.cons (.asgnS (.attr (.var 0) 10) (.var 3) (.var 5)) (.cons (.ret (.var 5)) .nil)))))))
-- Symbols_func Symbols.func 109
noncomputable def p_Symbols_func : List Str := List.map Str.ofString ["self", "text", "arity"]
noncomputable def m_Symbols_func : List Str := List.map Str.ofString []
noncomputable def s_Symbols_func : Ss := (.cons (.ret (.meth (.var 0) 30 (.cons (.meth (.var 0) 28 (.cons (.var 1) .nil)) (.cons (.var 2) .nil)))) .nil)
-- Symbols_name Symbols.name 116
noncomputable def p_Symbols_name : List Str := List.map Str.ofString ["self", "functor"]
noncomputable def m_Symbols_name : List Str := List.map Str.ofString []
noncomputable def s_Symbols_name : Ss := (.cons (.ret (.sub (.sub (.attr (.var 0) 9) (.var 1)) (.const (.int 0)))) .nil)
-- Symbols_arity Symbols.arity 123
noncomputable def p_Symbols_arity : List Str := List.map Str.ofString ["self", "functor"]
noncomputable def m_Symbols_arity : List Str := List.map Str.ofString []
noncomputable def s_Symbols_arity : Ss := (.cons (.ret (.sub (.sub (.attr (.var 0) 9) (.var 1)) (.const (.int 1)))) .nil)
-- system_error system_error 165
noncomputable def p_system_error : List Str := List.map Str.ofString ["formal"]
noncomputable def m_system_error : List Str := List.map Str.ofString []
noncomputable def s_system_error : Ss := (.cons (.ret (.call 51 (.cons (.tup (.cons (.const (.str (sx 29))) (.cons (.const (.int 16)) (.cons (.tup (.cons (.var 0) (.cons (.tup (.cons (.const (.str (sx 30))) (.cons (.const (.int 25)) .nil))) .nil))) .nil)))) .nil))) .nil)
-- formal_of formal_of 172
noncomputable def p_formal_of : List Str := List.map Str.ofString ["symbols", "name", "parts"]
noncomputable def m_formal_of : List Str := List.map Str.ofString ["args", "part"]
noncomputable def s_formal_of : Ss := (.cons (.asgn 3 (.list .nil)) (.cons (.loop 4 (.seq (.var 2)) (.cons (.expr (.append (.var 3) (.ite (.bcall .isinst (.cons (.var 4) (.cons (.const (.prim (.type "str"))) .nil))) (.tup (.cons (.const (.str (sx 30))) (.cons (.meth (.var 0) 28 (.cons (.var 4) .nil)) .nil))) (.var 4)))) .nil)) (.cons (.ret (.tup (.cons (.const (.str (sx 29))) (.cons (.meth (.var 0) 31 (.cons (.var 1) (.cons (.bcall .len (.cons (.var 3) .nil)) .nil))) (.cons (.bcall .tuple (.cons (.var 3) .nil)) .nil))))) .nil)))
-- instantiation_error instantiation_error 179
noncomputable def p_instantiation_error : List Str := List.map Str.ofString ["symbols"]
noncomputable def m_instantiation_error : List Str := List.map Str.ofString []
noncomputable def s_instantiation_error : Ss := (.cons (.ret (.call 165 (.cons (.tup (.cons (.const (.str (sx 30))) (.cons (.meth (.var 0) 28 (.cons (.const (.str (sx 31))) .nil)) .nil))) .nil))) .nil)
-- type_error type_error 186
noncomputable def p_type_error : List Str := List.map Str.ofString ["symbols", "kind", "culprit"]
noncomputable def m_type_error : List Str := List.map Str.ofString []
noncomputable def s_type_error : Ss := (.cons (.ret (.call 165 (.cons (.call 172 (.cons (.var 0) (.cons (.const (.str (sx 32))) (.cons (.tup (.cons (.var 1) (.cons (.var 2) .nil))) .nil)))) .nil))) .nil)
-- domain_error domain_error 193
noncomputable def p_domain_error : List Str := List.map Str.ofString ["symbols", "kind", "culprit"]
noncomputable def m_domain_error : List Str := List.map Str.ofString []
noncomputable def s_domain_error : Ss := (.cons (.ret (.call 165 (.cons (.call 172 (.cons (.var 0) (.cons (.const (.str (sx 33))) (.cons (.tup (.cons (.var 1) (.cons (.var 2) .nil))) .nil)))) .nil))) .nil)
-- resource_error resource_error 200
noncomputable def p_resource_error : List Str := List.map Str.ofString ["symbols", "what"]
noncomputable def m_resource_error : List Str := List.map Str.ofString []
noncomputable def s_resource_error : Ss := (.cons (.ret (.call 165 (.cons (.call 172 (.cons (.var 0) (.cons (.const (.str (sx 34))) (.cons (.tup (.cons (.var 1) .nil)) .nil)))) .nil))) .nil)
-- Cells_init Cells.__init__ 216
noncomputable def p_Cells_init : List Str := List.map Str.ofString ["self", "symbols", "max_heap"]
noncomputable def m_Cells_init : List Str := List.map Str.ofString []
noncomputable def s_Cells_init : Ss := (.cons (.asgnA (.var 0) 0 (.var 1)) (.cons (.asgnA (.var 0) 1 (.var 2)) (.cons (.asgnA (.var 0) 2 (.list .nil)) (.cons (.asgnA (.var 0) 3 (.list .nil)) (.cons (.asgnA (.var 0) 4 (.list .nil)) (.cons (.asgnA (.var 0) 5 (.const (.int 0))) (.cons (.asgnA (.var 0) 6 (.const (.int 0))) .nil)))))))
-- Cells_push Cells.push 223
noncomputable def p_Cells_push : List Str := List.map Str.ofString ["self", "cell"]
noncomputable def m_Cells_push : List Str := List.map Str.ofString ["address"]
noncomputable def s_Cells_push : Ss := (.cons (.asgn 2 (.bcall .len (.cons (.attr (.var 0) 2) .nil))) (.cons (.ite (.cmp .GtE (.var 2) (.attr (.var 0) 1)) (.cons (.raise (.call 200 (.cons (.attr (.var 0) 0) (.cons (.const (.str (sx 35))) .nil)))) .nil) .nil) (.cons (.expr (.append (.attr (.var 0) 2) (.var 1))) (.cons (.ret (.var 2)) .nil))))
-- Cells_new_var Cells.new_var 230
noncomputable def p_Cells_new_var : List Str := List.map Str.ofString ["self"]
noncomputable def m_Cells_new_var : List Str := List.map Str.ofString ["cell"]
noncomputable def s_Cells_new_var : Ss := (.cons (.asgn 1 (.tup (.cons (.const (.int 0)) (.cons (.bcall .len (.cons (.attr (.var 0) 2) .nil)) .nil)))) (.cons (.expr (.meth (.var 0) 34 (.cons (.var 1) .nil))) (.cons (.ret (.var 1)) .nil)))
-- Cells_reserve Cells.reserve 237
noncomputable def p_Cells_reserve : List Str := List.map Str.ofString ["self", "count"]
noncomputable def m_Cells_reserve : List Str := List.map Str.ofString ["first", "step"]
noncomputable def s_Cells_reserve : Ss := (.cons (.asgn 2 (.bcall .len (.cons (.attr (.var 0) 2) .nil))) (.cons (.ite (.cmp .Gt (.bin .Add (.var 2) (.var 1)) (.attr (.var 0) 1)) (.cons (.raise (.call 200 (.cons (.attr (.var 0) 0) (.cons (.const (.str (sx 35))) .nil)))) .nil) .nil) (.cons (.loop 3 (.range (.cons (.var 1) .nil)) (.cons (.expr (.append (.attr (.var 0) 2) (.tup (.cons (.const (.int 0)) (.cons (.bin .Add (.var 2) (.var 3)) .nil))))) .nil)) (.cons (.ret (.var 2)) .nil))))
-- Cells_deref Cells.deref 251
noncomputable def p_Cells_deref : List Str := List.map Str.ofString ["self", "cell"]
noncomputable def m_Cells_deref : List Str := List.map Str.ofString ["tag", "found"]
noncomputable def s_Cells_deref : Ss := (.cons (.whl (.const (.bool true)) (.cons (.asgn 2 (.sub (.var 1) (.const (.int 0)))) (.cons (.ite (.cmp .Eq (.var 2) (.const (.int 0))) (.cons (.asgn 3 (.sub (.attr (.var 0) 2) (.sub (.var 1) (.const (.int 1))))) .nil) (.cons (.ite (.cmp .Eq (.var 2) (.const (.int 1))) (.cons (.asgn 3 (.sub (.attr (.var 0) 3) (.sub (.var 1) (.const (.int 1))))) .nil) (.cons (.ret (.var 1)) .nil)) .nil)) (.cons (.ite (.cmp .Eq (.var 3) (.var 1)) (.cons (.ret (.var 1)) .nil) .nil) (.cons (.asgn 1 (.var 3)) .nil))))) .nil)
-- Cells_is_unbound Cells.is_unbound 258
noncomputable def p_Cells_is_unbound : List Str := List.map Str.ofString ["self", "cell"]
noncomputable def m_Cells_is_unbound : List Str := List.map Str.ofString []
noncomputable def s_Cells_is_unbound : Ss := (.cons (.ite (.cmp .Eq (.sub (.var 1) (.const (.int 0))) (.const (.int 0))) (.cons (.ret (.cmp .Eq (.sub (.attr (.var 0) 2) (.sub (.var 1) (.const (.int 1)))) (.var 1))) .nil) .nil) (.cons (.ite (.cmp .Eq (.sub (.var 1) (.const (.int 0))) (.const (.int 1))) (.cons (.ret (.cmp .Eq (.sub (.attr (.var 0) 3) (.sub (.var 1) (.const (.int 1)))) (.var 1))) .nil) .nil) (.cons (.ret (.const (.bool false))) .nil)))
-- Cells_bind Cells.bind 265
noncomputable def p_Cells_bind : List Str := List.map Str.ofString ["self", "cell", "value"]
noncomputable def m_Cells_bind : List Str := List.map Str.ofString ["place"]
noncomputable def s_Cells_bind : Ss := (.cons (.asgn 3 (.sub (.var 1) (.const (.int 1)))) (.cons (.ite (.cmp .Eq (.sub (.var 1) (.const (.int 0))) (.const (.int 0))) (.cons (.asgnS (.attr (.var 0) 2) (.var 3) (.var 2)) (.cons (.ite (.cmp .Lt (.var 3) (.attr (.var 0) 5)) (.cons (.expr (.append (.attr (.var 0) 4) (.var 3))) .nil) .nil) .nil)) (.cons (.asgnS (.attr (.var 0) 3) (.var 3) (.var 2)) (.cons (.ite (.cmp .Lt (.var 3) (.attr (.var 0) 6)) (.cons (.expr (.append (.attr (.var 0) 4) (.bin .Sub (.neg (.const (.int 1))) (.var 3)))) .nil) .nil) .nil))) .nil))
-- Cells_globalise Cells.globalise 279
noncomputable def p_Cells_globalise : List Str := List.map Str.ofString ["self", "cell"]
noncomputable def m_Cells_globalise : List Str := List.map Str.ofString ["fresh"]
noncomputable def s_Cells_globalise : Ss := (.cons (.asgn 1 (.meth (.var 0) 37 (.cons (.var 1) .nil))) (.cons (.ite (.cmp .Eq (.sub (.var 1) (.const (.int 0))) (.const (.int 1))) (.cons (.asgn 2 (.meth (.var 0) 35 .nil)) (.cons (.expr (.meth (.var 0) 39 (.cons (.var 1) (.cons (.var 2) .nil)))) (.cons (.ret (.var 2)) .nil))) .nil) (.cons (.ret (.var 1)) .nil)))
-- Cells_is_compound Cells.is_compound 307
noncomputable def p_Cells_is_compound : List Str := List.map Str.ofString ["self", "cell"]
noncomputable def m_Cells_is_compound : List Str := List.map Str.ofString []
noncomputable def s_Cells_is_compound : Ss := (.cons (.ret (.or (.cmp .Eq (.sub (.var 1) (.const (.int 0))) (.const (.int 2))) (.cmp .Eq (.sub (.var 1) (.const (.int 0))) (.const (.int 3))))) .nil)
-- Cells_functor_of Cells.functor_of 314
noncomputable def p_Cells_functor_of : List Str := List.map Str.ofString ["self", "cell"]
noncomputable def m_Cells_functor_of : List Str := List.map Str.ofString ["tag"]
noncomputable def s_Cells_functor_of : Ss := (.cons (.asgn 2 (.sub (.var 1) (.const (.int 0)))) (.cons (.ite (.cmp .Eq (.var 2) (.const (.int 2))) (.cons (.ret (.sub (.sub (.attr (.var 0) 2) (.sub (.var 1) (.const (.int 1)))) (.const (.int 1)))) .nil) .nil) (.cons (.ite (.cmp .Eq (.var 2) (.const (.int 3))) (.cons (.ret (.const (.int 0))) .nil) .nil) (.cons (.ite (.cmp .Eq (.var 2) (.const (.int 4))) (.cons (.ret (.meth (.attr (.var 0) 0) 30 (.cons (.sub (.var 1) (.const (.int 1))) (.cons (.const (.int 0)) .nil)))) .nil) .nil) (.cons (.ret (.neg (.const (.int 1)))) .nil)))))
-- Cells_width Cells.width 321
noncomputable def p_Cells_width : List Str := List.map Str.ofString ["self", "cell"]
noncomputable def m_Cells_width : List Str := List.map Str.ofString ["tag"]
noncomputable def s_Cells_width : Ss := (.cons (.asgn 2 (.sub (.var 1) (.const (.int 0)))) (.cons (.ite (.cmp .Eq (.var 2) (.const (.int 3))) (.cons (.ret (.const (.int 2))) .nil) .nil) (.cons (.ite (.cmp .Eq (.var 2) (.const (.int 2))) (.cons (.ret (.meth (.attr (.var 0) 0) 33 (.cons (.sub (.sub (.attr (.var 0) 2) (.sub (.var 1) (.const (.int 1)))) (.const (.int 1))) .nil))) .nil) .nil) (.cons (.ret (.const (.int 0))) .nil))))
-- Cells_base Cells.base 328
noncomputable def p_Cells_base : List Str := List.map Str.ofString ["self", "cell"]
noncomputable def m_Cells_base : List Str := List.map Str.ofString []
noncomputable def s_Cells_base : Ss := (.cons (.ite (.cmp .Eq (.sub (.var 1) (.const (.int 0))) (.const (.int 3))) (.cons (.ret (.sub (.var 1) (.const (.int 1)))) .nil) .nil) (.cons (.ret (.bin .Add (.sub (.var 1) (.const (.int 1))) (.const (.int 1)))) .nil))
-- Cells_arg Cells.arg 335
noncomputable def p_Cells_arg : List Str := List.map Str.ofString ["self", "cell", "i"]
noncomputable def m_Cells_arg : List Str := List.map Str.ofString []
noncomputable def s_Cells_arg : Ss := (.cons (.ret (.sub (.attr (.var 0) 2) (.bin .Sub (.bin .Add (.meth (.var 0) 44 (.cons (.var 1) .nil)) (.var 2)) (.const (.int 1))))) .nil)
-- Cells_new_block Cells.new_block 342
noncomputable def p_Cells_new_block : List Str := List.map Str.ofString ["self", "f"]
noncomputable def m_Cells_new_block : List Str := List.map Str.ofString ["start"]
noncomputable def s_Cells_new_block : Ss := (.cons (.ite (.cmp .Eq (.var 1) (.const (.int 0))) (.cons (.ret (.tup (.cons (.const (.int 3)) (.cons (.meth (.var 0) 36 (.cons (.const (.int 2)) .nil)) .nil)))) .nil) .nil) (.cons (.asgn 2 (.meth (.var 0) 36 (.cons (.bin .Add (.const (.int 1)) (.meth (.attr (.var 0) 0) 33 (.cons (.var 1) .nil))) .nil))) (.cons (.asgnS (.attr (.var 0) 2) (.var 2) (.tup (.cons (.const (.int 6)) (.cons (.var 1) .nil)))) (.cons (.ret (.tup (.cons (.const (.int 2)) (.cons (.var 2) .nil)))) .nil))))
-- Store_list_cells Store.list_cells 378
noncomputable def p_Store_list_cells : List Str := List.map Str.ofString ["self", "cell"]
noncomputable def m_Store_list_cells : List Str := List.map Str.ofString ["found", "seen"]
noncomputable def s_Store_list_cells : Ss := (.cons (.asgn 2 (.list .nil)) (.cons (.asgn 3 (.bcall .set .nil)) (.cons (.asgn 1 (.meth (.var 0) 37 (.cons (.var 1) .nil))) (.cons (.whl (.and (.cmp .Eq (.sub (.var 1) (.const (.int 0))) (.const (.int 3))) (.cmp .NotIn (.sub (.var 1) (.const (.int 1))) (.var 3))) (.cons (.expr (.add (.var 3) (.sub (.var 1) (.const (.int 1))))) (.cons (.expr (.append (.var 2) (.meth (.var 0) 37 (.cons (.sub (.attr (.var 0) 2) (.sub (.var 1) (.const (.int 1)))) .nil)))) (.cons (.asgn 1 (.meth (.var 0) 37 (.cons (.sub (.attr (.var 0) 2) (.bin .Add (.sub (.var 1) (.const (.int 1))) (.const (.int 1)))) .nil))) .nil)))) (.cons (.ret (.tup (.cons (.var 2) (.cons (.var 1) .nil)))) .nil)))))
-- Store_put_term Store.put_term 385
noncomputable def p_Store_put_term : List Str := List.map Str.ofString ["self", "term", "table"]
noncomputable def m_Store_put_term : List Str := List.map Str.ofString ["k", "kind", "made", "waiting", "at", "item", "place", "items", "inner"]
noncomputable def s_Store_put_term : Ss := (.cons (.loop 3 (.seq (.bcall .list (.cons (.var 2) .nil))) (.cons (.ite (.cmp .Eq (.sub (.sub (.var 2) (.var 3)) (.const (.int 0))) (.const (.int 1))) (.cons (.asgnS (.var 2) (.var 3) (.meth (.var 0) 40 (.cons (.sub (.var 2) (.var 3)) .nil))) .nil) .nil) .nil)) (.cons (.asgn 4 (.sub (.var 1) (.const (.int 0)))) (.cons (.ite (.cmp .Eq (.var 4) (.const (.str (sx 36)))) (.cons (.ite (.cmp .NotIn (.sub (.var 1) (.const (.int 1))) (.var 2)) (.cons (.asgnS (.var 2) (.sub (.var 1) (.const (.int 1))) (.meth (.var 0) 35 .nil)) .nil) .nil) (.cons (.ret (.sub (.var 2) (.sub (.var 1) (.const (.int 1))))) .nil)) .nil) (.cons (.ite (.cmp .Eq (.var 4) (.const (.str (sx 30)))) (.cons (.ret (.tup (.cons (.const (.int 4)) (.cons (.sub (.var 1) (.const (.int 1))) .nil)))) .nil) .nil) (.cons (.ite (.cmp .Eq (.var 4) (.const (.str (sx 37)))) (.cons (.ret (.tup (.cons (.const (.int 5)) (.cons (.sub (.var 1) (.const (.int 1))) .nil)))) .nil) .nil) (.cons (.asgn 5 (.meth (.var 0) 46 (.cons (.sub (.var 1) (.const (.int 1))) .nil))) (.cons (.asgn 6 (.list (.cons (.tup (.cons (.meth (.var 0) 44 (.cons (.var 5) .nil)) (.cons (.sub (.var 1) (.const (.int 2))) .nil))) .nil))) (.cons (.asgn 7 (.const (.int 0))) (.cons (.whl (.cmp .Lt (.var 7) (.bcall .len (.cons (.var 6) .nil))) (.cons (.unpack 9 10 (.sub (.var 6) (.var 7))) (.cons (.augN 7 (.const (.int 1))) (.cons (.loop 8 (.seq (.var 10)) (.cons (.asgn 4 (.sub (.var 8) (.const (.int 0)))) (.cons (.ite (.cmp .Eq (.var 4) (.const (.str (sx 36)))) (.cons (.ite (.cmp .In (.sub (.var 8) (.const (.int 1))) (.var 2)) (.cons (.asgnS (.attr (.var 0) 2) (.var 9) (.sub (.var 2) (.sub (.var 8) (.const (.int 1))))) .nil) (.cons (.asgnS (.var 2) (.sub (.var 8) (.const (.int 1))) (.tup (.cons (.const (.int 0)) (.cons (.var 9) .nil)))) .nil)) .nil) (.cons (.ite (.cmp .Eq (.var 4) (.const (.str (sx 30)))) (.cons (.asgnS (.attr (.var 0) 2) (.var 9) (.tup (.cons (.const (.int 4)) (.cons (.sub (.var 8) (.const (.int 1))) .nil)))) .nil) (.cons (.ite (.cmp .Eq (.var 4) (.const (.str (sx 37)))) (.cons (.asgnS (.attr (.var 0) 2) (.var 9) (.tup (.cons (.const (.int 5)) (.cons (.sub (.var 8) (.const (.int 1))) .nil)))) .nil) (.cons (.asgn 11 (.meth (.var 0) 46 (.cons (.sub (.var 8) (.const (.int 1))) .nil))) (.cons (.asgnS (.attr (.var 0) 2) (.var 9) (.var 11)) (.cons (.expr (.append (.var 6) (.tup (.cons (.meth (.var 0) 44 (.cons (.var 11) .nil)) (.cons (.sub (.var 8) (.const (.int 2))) .nil))))) .nil)))) .nil)) .nil)) (.cons (.augN 9 (.const (.int 1))) .nil)))) .nil)))) (.cons (.ret (.var 5)) .nil))))))))))
-- Store_whole_size Store.whole_size 392
noncomputable def p_Store_whole_size : List Str := List.map Str.ofString ["self", "cell", "sizes"]
noncomputable def m_Store_whole_size : List Str := List.map Str.ofString ["size", "place", "step", "part"]
noncomputable def s_Store_whole_size : Ss := (.cons (.asgn 3 (.const (.int 1))) (.cons (.asgn 4 (.meth (.var 0) 44 (.cons (.var 1) .nil))) (.cons (.loop 5 (.range (.cons (.meth (.var 0) 43 (.cons (.var 1) .nil)) .nil)) (.cons (.asgn 6 (.meth (.var 0) 37 (.cons (.sub (.attr (.var 0) 2) (.bin .Add (.var 4) (.var 5))) .nil))) (.cons (.ite (.meth (.var 0) 41 (.cons (.var 6) .nil)) (.cons (.augN 3 (.sub (.var 2) (.sub (.var 6) (.const (.int 1))))) .nil) (.cons (.augN 3 (.const (.int 1))) .nil)) .nil))) (.cons (.ret (.var 3)) .nil))))
-- Store_take_term Store.take_term 399
noncomputable def p_Store_take_term : List Str := List.map Str.ofString ["self", "cell", "table"]
noncomputable def m_Store_take_term : List Str := List.map Str.ofString ["known", "sizes", "results", "work", "tag", "what", "f", "first", "term", "place", "step"]
noncomputable def s_Store_take_term : Ss := (.cons (.asgn 3 (.dict0 0)) (.cons (.asgn 4 (.dict0 0)) (.cons (.asgn 5 (.list .nil)) (.cons (.asgn 6 (.list (.cons (.tup (.cons (.const (.int 0)) (.cons (.meth (.var 0) 40 (.cons (.var 1) .nil)) .nil))) .nil))) (.cons (.whl (.cmp .Gt (.bcall .len (.cons (.var 6) .nil)) (.const (.int 0))) (.cons (.unpack 8 1 (.pop (.var 6))) (.cons (.ite (.cmp .Eq (.var 8) (.const (.int 1))) (.cons (.asgn 9 (.meth (.var 0) 42 (.cons (.var 1) .nil))) (.cons (.asgn 10 (.bin .Sub (.bcall .len (.cons (.var 5) .nil)) (.meth (.var 0) 43 (.cons (.var 1) .nil)))) (.cons (.asgn 11 (.tup (.cons (.const (.str (sx 29))) (.cons (.var 9) (.cons (.bcall .tuple (.cons (.sliceFrom (.var 5) (.var 10)) .nil)) .nil))))) (.cons (.delF (.var 5) (.var 10)) (.cons (.asgnS (.var 3) (.sub (.var 1) (.const (.int 1))) (.var 11)) (.cons (.asgnS (.var 4) (.sub (.var 1) (.const (.int 1))) (.meth (.var 0) 49 (.cons (.var 1) (.cons (.var 4) .nil)))) (.cons (.ite (.cmp .Gt (.sub (.var 4) (.sub (.var 1) (.const (.int 1)))) (.bin .Add (.attr (.var 0) 1) (.const (.int 1)))) (.cons (.raise (.call 200 (.cons (.attr (.var 0) 0) (.cons (.const (.str (sx 35))) .nil)))) .nil) .nil) (.cons (.expr (.append (.var 5) (.var 11))) (.cons .cont .nil))))))))) .nil) (.cons (.asgn 1 (.meth (.var 0) 37 (.cons (.var 1) .nil))) (.cons (.asgn 7 (.sub (.var 1) (.const (.int 0)))) (.cons (.ite (.cmp .Eq (.var 7) (.const (.int 0))) (.cons (.ite (.cmp .NotIn (.sub (.var 1) (.const (.int 1))) (.var 2)) (.cons (.asgnS (.var 2) (.sub (.var 1) (.const (.int 1))) (.bcall .len (.cons (.var 2) .nil))) .nil) .nil) (.cons (.expr (.append (.var 5) (.tup (.cons (.const (.str (sx 36))) (.cons (.sub (.var 2) (.sub (.var 1) (.const (.int 1)))) .nil))))) .nil)) (.cons (.ite (.cmp .Eq (.var 7) (.const (.int 4))) (.cons (.expr (.append (.var 5) (.tup (.cons (.const (.str (sx 30))) (.cons (.sub (.var 1) (.const (.int 1))) .nil))))) .nil) (.cons (.ite (.cmp .Eq (.var 7) (.const (.int 5))) (.cons (.expr (.append (.var 5) (.tup (.cons (.const (.str (sx 37))) (.cons (.sub (.var 1) (.const (.int 1))) .nil))))) .nil) (.cons (.ite (.cmp .In (.sub (.var 1) (.const (.int 1))) (.var 3)) (.cons (.asgn 11 (.sub (.var 3) (.sub (.var 1) (.const (.int 1))))) (.cons (.ite (.cmp .Is (.var 11) (.const .none)) (.cons (.raise (.call 200 (.cons (.attr (.var 0) 0) (.cons (.const (.str (sx 35))) .nil)))) .nil) .nil) (.cons (.expr (.append (.var 5) (.var 11))) .nil))) (.cons (.asgnS (.var 3) (.sub (.var 1) (.const (.int 1))) (.const .none)) (.cons (.expr (.append (.var 6) (.tup (.cons (.const (.int 1)) (.cons (.var 1) .nil))))) (.cons (.asgn 12 (.meth (.var 0) 44 (.cons (.var 1) .nil))) (.cons (.loop 13 (.range (.cons (.bin .Sub (.meth (.var 0) 43 (.cons (.var 1) .nil)) (.const (.int 1))) (.cons (.neg (.const (.int 1))) (.cons (.neg (.const (.int 1))) .nil)))) (.cons (.expr (.append (.var 6) (.tup (.cons (.const (.int 0)) (.cons (.sub (.attr (.var 0) 2) (.bin .Add (.var 12) (.var 13))) .nil))))) .nil)) .nil))))) .nil)) .nil)) .nil)) .nil)))))) (.cons (.ret (.sub (.var 5) (.const (.int 0)))) .nil))))))
-- option_cells option_cells 411
noncomputable def p_option_cells : List Str := List.map Str.ofString ["m", "cell"]
noncomputable def m_option_cells : List Str := List.map Str.ofString ["item", "items", "tail"]
noncomputable def s_option_cells : Ss := (.cons (.unpack 3 4 (.meth (.attr (.var 0) 14) 47 (.cons (.var 1) .nil))) (.cons (.ite (.meth (.attr (.var 0) 14) 38 (.cons (.var 4) .nil)) (.cons (.raise (.call 179 (.cons (.attr (.var 0) 0) .nil))) .nil) .nil) (.cons (.ite (.cmp .NotEq (.var 4) (.tup (.cons (.const (.int 4)) (.cons (.const (.int 0)) .nil)))) (.cons (.raise (.call 186 (.cons (.attr (.var 0) 0) (.cons (.const (.str (sx 38))) (.cons (.meth (.var 0) 52 (.cons (.var 1) .nil)) .nil))))) .nil) .nil) (.cons (.loop 2 (.seq (.var 3)) (.cons (.ite (.meth (.attr (.var 0) 14) 38 (.cons (.var 2) .nil)) (.cons (.raise (.call 179 (.cons (.attr (.var 0) 0) .nil))) .nil) .nil) .nil)) (.cons (.ret (.var 3)) .nil)))))
-- option_parts option_parts 418
noncomputable def p_option_parts : List Str := List.map Str.ofString ["m", "cell", "kind"]
noncomputable def m_option_parts : List Str := List.map Str.ofString ["symbols", "functor", "name"]
noncomputable def s_option_parts : Ss := (.cons (.asgn 3 (.attr (.var 0) 0)) (.cons (.ite (.cmp .Eq (.sub (.var 1) (.const (.int 0))) (.const (.int 2))) (.cons (.asgn 4 (.meth (.attr (.var 0) 14) 42 (.cons (.var 1) .nil))) (.cons (.ite (.cmp .Eq (.meth (.var 3) 33 (.cons (.var 4) .nil)) (.const (.int 1))) (.cons (.asgn 5 (.meth (.var 3) 29 (.cons (.meth (.var 3) 32 (.cons (.var 4) .nil)) .nil))) (.cons (.ret (.tup (.cons (.var 5) (.cons (.meth (.attr (.var 0) 14) 37 (.cons (.meth (.attr (.var 0) 14) 45 (.cons (.var 1) (.cons (.const (.int 1)) .nil))) .nil)) .nil)))) .nil)) .nil) .nil)) .nil) (.cons (.raise (.call 193 (.cons (.var 3) (.cons (.var 2) (.cons (.meth (.var 0) 52 (.cons (.var 1) .nil)) .nil))))) .nil)))
-- option_value option_value 425
noncomputable def p_option_value : List Str := List.map Str.ofString ["m", "cell", "value", "kind", "allowed"]
noncomputable def m_option_value : List Str := List.map Str.ofString []
noncomputable def s_option_value : Ss := (.cons (.ite (.meth (.attr (.var 0) 14) 38 (.cons (.var 2) .nil)) (.cons (.raise (.call 179 (.cons (.attr (.var 0) 0) .nil))) .nil) .nil) (.cons (.ite (.and (.cmp .Eq (.sub (.var 2) (.const (.int 0))) (.const (.int 4))) (.cmp .In (.meth (.attr (.var 0) 0) 29 (.cons (.sub (.var 2) (.const (.int 1))) .nil)) (.var 4))) (.cons (.ret (.meth (.attr (.var 0) 0) 29 (.cons (.sub (.var 2) (.const (.int 1))) .nil))) .nil) .nil) (.cons (.raise (.call 193 (.cons (.attr (.var 0) 0) (.cons (.var 3) (.cons (.meth (.var 0) 52 (.cons (.var 1) .nil)) .nil))))) .nil)))
-- Areas_init Areas.__init__ 440
noncomputable def p_Areas_init : List Str := List.map Str.ofString ["self", "symbols", "code", "max_heap", "occurs", "max_bits"]
noncomputable def m_Areas_init : List Str := List.map Str.ofString []
noncomputable def s_Areas_init : Ss := (.cons (.asgnA (.var 0) 0 (.var 1)) (.cons (.asgnA (.var 0) 11 (.var 2)) (.cons (.asgnA (.var 0) 1 (.var 3)) (.cons (.asgnA (.var 0) 12 (.var 4)) (.cons (.asgnA (.var 0) 13 (.var 5)) (.cons (.expr (.meth (.var 0) 51 .nil)) .nil))))))
-- Areas_reset Areas.reset 447
noncomputable def p_Areas_reset : List Str := List.map Str.ofString ["self"]
noncomputable def m_Areas_reset : List Str := List.map Str.ofString []
noncomputable def s_Areas_reset : Ss := (.cons (.asgnA (.var 0) 14 (.call 402 (.cons (.attr (.var 0) 0) (.cons (.attr (.var 0) 1) .nil)))) (.cons (.asgnA (.var 0) 15 (.list (.cons (.const (.tup [.int 5, .int 0])) .nil))) (.cons (.asgnA (.var 0) 16 (.const (.int 0))) (.cons (.asgnA (.var 0) 17 (.const (.int 0))) (.cons (.asgnA (.var 0) 18 (.neg (.const (.int 1)))) (.cons (.asgnA (.var 0) 19 (.neg (.const (.int 1)))) (.cons (.asgnA (.var 0) 20 (.neg (.const (.int 1)))) (.cons (.asgnA (.var 0) 21 (.const (.str (sx 39)))) (.cons (.asgnA (.var 0) 22 (.const (.int 0))) (.cons (.asgnA (.var 0) 23 (.const (.tup [.int 5, .int 0]))) (.cons (.asgnA (.var 0) 24 (.list .nil)) (.cons (.asgnA (.var 0) 25 (.dict0 0)) (.cons (.asgnA (.var 0) 26 (.const (.bool false))) .nil)))))))))))))
-- Areas_take Areas.take 482
noncomputable def p_Areas_take : List Str := List.map Str.ofString ["self", "cell"]
noncomputable def m_Areas_take : List Str := List.map Str.ofString []
noncomputable def s_Areas_take : Ss := (.cons (.ret (.meth (.attr (.var 0) 14) 50 (.cons (.var 1) (.cons (.dict0 0) .nil)))) .nil)
-- law_draw _law_draw 594
noncomputable def p_law_draw : List Str := List.map Str.ofString ["pool", "limit"]
noncomputable def m_law_draw : List Str := List.map Str.ofString ["digit"]
noncomputable def s_law_draw : Ss := (.cons (.ite (.cmp .Eq (.sub (.var 0) (.const (.int 1))) (.const (.int 0))) (.cons (.augS (.var 0) (.const (.int 2)) (.const (.int 1))) (.cons (.ite (.cmp .GtE (.sub (.var 0) (.const (.int 2))) (.bcall .len (.cons (.sub (.var 0) (.const (.int 0))) .nil))) (.cons (.augS (.var 0) (.const (.int 3)) (.const (.int 1))) (.cons (.ret (.bin .Mod (.sub (.var 0) (.const (.int 3))) (.var 1))) .nil)) .nil) (.cons (.asgnS (.var 0) (.const (.int 1)) (.bcall .abs (.cons (.sub (.sub (.var 0) (.const (.int 0))) (.sub (.var 0) (.const (.int 2)))) .nil))) .nil))) .nil) (.cons (.asgn 2 (.bin .Mod (.sub (.var 0) (.const (.int 1))) (.var 1))) (.cons (.asgnS (.var 0) (.const (.int 1)) (.bin .FloorDiv (.sub (.var 0) (.const (.int 1))) (.var 1))) (.cons (.ret (.var 2)) .nil))))
-- law_element _law_element 601
noncomputable def p_law_element : List Str := List.map Str.ofString ["pool", "names"]
noncomputable def m_law_element : List Str := List.map Str.ofString ["form", "word", "choice", "inner"]
noncomputable def s_law_element : Ss := (.cons (.asgn 2 (.call 594 (.cons (.var 0) (.cons (.const (.int 16)) .nil)))) (.cons (.asgn 3 (.sub (.list (.cons (.const (.str (sx 40))) (.cons (.const (.str (sx 3))) (.cons (.const (.str (sx 2))) (.cons (.const (.str (sx 41))) .nil))))) (.call 594 (.cons (.var 0) (.cons (.const (.int 4)) .nil))))) (.cons (.asgn 4 (.call 594 (.cons (.var 0) (.cons (.const (.int 9)) .nil)))) (.cons (.ite (.cmp .Lt (.var 4) (.const (.int 4))) (.cons (.asgn 5 (.tup (.cons (.const (.str (sx 30))) (.cons (.meth (.var 1) 28 (.cons (.sub (.list (.cons (.const (.str (sx 16))) (.cons (.const (.str (sx 18))) (.cons (.const (.str (sx 42))) (.cons (.const (.str (sx 0))) .nil))))) (.var 4)) .nil)) .nil)))) .nil) (.cons (.ite (.cmp .Eq (.var 4) (.const (.int 4))) (.cons (.asgn 5 (.tup (.cons (.const (.str (sx 37))) (.cons (.const (.int 7)) .nil)))) .nil) (.cons (.ite (.cmp .Lt (.var 4) (.const (.int 8))) (.cons (.asgn 5 (.tup (.cons (.const (.str (sx 36))) (.cons (.bin .Sub (.var 4) (.const (.int 5))) .nil)))) .nil) (.cons (.asgn 5 (.tup (.cons (.const (.str (sx 29))) (.cons (.meth (.var 1) 31 (.cons (.const (.str (sx 43))) (.cons (.const (.int 1)) .nil))) (.cons (.tup (.cons (.tup (.cons (.const (.str (sx 36))) (.cons (.const (.int 2)) .nil))) .nil)) .nil))))) .nil)) .nil)) .nil)) (.cons (.ite (.cmp .Eq (.var 2) (.const (.int 15))) (.cons (.ret (.tup (.cons (.const (.str (sx 36))) (.cons (.call 594 (.cons (.var 0) (.cons (.const (.int 3)) .nil))) .nil)))) .nil) .nil) (.cons (.ite (.cmp .Eq (.var 2) (.const (.int 14))) (.cons (.ret (.tup (.cons (.const (.str (sx 29))) (.cons (.const (.int 0)) (.cons (.tup (.cons (.var 5) (.cons (.tup (.cons (.const (.str (sx 30))) (.cons (.const (.int 0)) .nil))) .nil))) .nil))))) .nil) .nil) (.cons (.ite (.cmp .Eq (.var 2) (.const (.int 13))) (.cons (.ret (.tup (.cons (.const (.str (sx 29))) (.cons (.meth (.var 1) 31 (.cons (.var 3) (.cons (.const (.int 2)) .nil))) (.cons (.tup (.cons (.var 5) (.cons (.var 5) .nil))) .nil))))) .nil) .nil) (.cons (.ite (.cmp .Eq (.var 2) (.const (.int 12))) (.cons (.ret (.tup (.cons (.const (.str (sx 37))) (.cons (.const (.int 12)) .nil)))) .nil) .nil) (.cons (.ite (.cmp .Eq (.var 2) (.const (.int 11))) (.cons (.ret (.tup (.cons (.const (.str (sx 30))) (.cons (.meth (.var 1) 28 (.cons (.var 3) .nil)) .nil)))) .nil) .nil) (.cons (.ret (.tup (.cons (.const (.str (sx 29))) (.cons (.meth (.var 1) 31 (.cons (.var 3) (.cons (.const (.int 1)) .nil))) (.cons (.tup (.cons (.var 5) .nil)) .nil))))) .nil))))))))))
-- law_followed _law_followed 606
noncomputable def p_law_followed : List Str := List.map Str.ofString ["names", "tree"]
noncomputable def m_law_followed : List Str := List.map Str.ofString ["part"]
noncomputable def s_law_followed : Ss := (.cons (.ite (.cmp .Eq (.sub (.var 1) (.const (.int 0))) (.const (.str (sx 29)))) (.cons (.ret (.tup (.cons (.const (.str (sx 29))) (.cons (.sub (.var 1) (.const (.int 1))) (.cons (.bcall .tuple (.cons (.comp 2 [0] (.seq (.sub (.var 1) (.const (.int 2)))) .none (.call 606 (.cons (.var 0) (.cons (.var 2) .nil)))) .nil)) .nil))))) .nil) .nil) (.cons (.ite (.cmp .Eq (.sub (.var 1) (.const (.int 0))) (.const (.str (sx 36)))) (.cons (.ret (.ite (.cmp .Eq (.sub (.var 1) (.const (.int 1))) (.const (.int 1))) (.tup (.cons (.const (.str (sx 30))) (.cons (.meth (.var 0) 28 (.cons (.const (.str (sx 16))) .nil)) .nil))) (.tup (.cons (.const (.str (sx 36))) (.cons (.const (.int 0)) .nil))))) .nil) .nil) (.cons (.ret (.var 1)) .nil)))
-- law_ball _law_ball 613
noncomputable def p_law_ball : List Str := List.map Str.ofString ["names", "kind", "parts"]
noncomputable def m_law_ball : List Str := List.map Str.ofString ["formal"]
noncomputable def s_law_ball : Ss := (.cons (.asgn 3 (.tup (.cons (.const (.str (sx 30))) (.cons (.meth (.var 0) 28 (.cons (.var 1) .nil)) .nil)))) (.cons (.ite (.cmp .NotEq (.var 2) (.list .nil)) (.cons (.asgn 3 (.tup (.cons (.const (.str (sx 29))) (.cons (.meth (.var 0) 31 (.cons (.var 1) (.cons (.bcall .len (.cons (.var 2) .nil)) .nil))) (.cons (.bcall .tuple (.cons (.var 2) .nil)) .nil))))) .nil) .nil) (.cons (.ret (.tup (.cons (.const (.str (sx 22))) (.cons (.tup (.cons (.const (.str (sx 29))) (.cons (.const (.int 16)) (.cons (.tup (.cons (.var 3) (.cons (.tup (.cons (.const (.str (sx 30))) (.cons (.const (.int 25)) .nil))) .nil))) .nil)))) .nil)))) .nil)))
-- law_row _law_row 620
noncomputable def p_law_row : List Str := List.map Str.ofString ["m", "cell"]
noncomputable def m_law_row : List Str := List.map Str.ofString ["fault"]
noncomputable def s_law_row : Ss := (.cons (.ret (.tup (.cons (.const (.str (sx 44))) (.cons (.call 411 (.cons (.var 0) (.cons (.var 1) .nil))) .nil)))) .nil)
-- law_parts _law_parts 627
noncomputable def p_law_parts : List Str := List.map Str.ofString ["m", "cell", "kind"]
noncomputable def m_law_parts : List Str := List.map Str.ofString ["fault"]
noncomputable def s_law_parts : Ss := (.cons (.ret (.tup (.cons (.const (.str (sx 45))) (.cons (.call 418 (.cons (.var 0) (.cons (.var 1) (.cons (.var 2) .nil)))) .nil)))) .nil)
-- law_word _law_word 634
noncomputable def p_law_word : List Str := List.map Str.ofString ["m", "cell", "value", "kind", "words"]
noncomputable def m_law_word : List Str := List.map Str.ofString ["fault"]
noncomputable def s_law_word : Ss := (.cons (.ret (.tup (.cons (.const (.str (sx 46))) (.cons (.call 425 (.cons (.var 0) (.cons (.var 1) (.cons (.var 2) (.cons (.var 3) (.cons (.var 4) .nil)))))) .nil)))) .nil)
-- law_ended _law_ended 641
noncomputable def p_law_ended : List Str := List.map Str.ofString ["m", "cell"]
noncomputable def m_law_ended : List Str := List.map Str.ofString []
noncomputable def s_law_ended : Ss := (.cons (.ret (.cmp .Eq (.var 1) (.meth (.attr (.var 0) 14) 37 (.cons (.var 1) .nil)))) .nil)
-- law law 646
noncomputable def p_law : List Str := List.map Str.ofString ["script"]
noncomputable def m_law : List Str := List.map Str.ofString ["pool", "names", "choice", "end", "elements", "words", "kind", "m", "table", "tree", "element", "cell", "before", "plain", "last", "told", "lacking", "place", "culprit", "item", "due", "wrong", "parts", "_", "inner", "value", "found", "word"]
noncomputable def s_law : Ss := (.cons (.asgn 1 (.list (.cons (.sliceTo (.var 0) (.const (.int 63))) (.cons (.const (.int 0)) (.cons (.neg (.const (.int 1))) (.cons (.const (.int 0)) .nil)))))) (.cons (.asgn 2 (.call 154 .nil)) (.cons (.asgn 3 (.call 594 (.cons (.var 1) (.cons (.const (.int 8)) .nil)))) (.cons (.asgn 4 (.tup (.cons (.const (.str (sx 30))) (.cons (.const (.int 0)) .nil)))) (.cons (.ite (.cmp .Eq (.var 3) (.const (.int 7))) (.cons (.asgn 4 (.tup (.cons (.const (.str (sx 37))) (.cons (.const (.int 3)) .nil)))) .nil) (.cons (.ite (.cmp .Gt (.var 3) (.const (.int 4))) (.cons (.asgn 4 (.tup (.cons (.const (.str (sx 36))) (.cons (.bin .Sub (.var 3) (.const (.int 5))) .nil)))) .nil) .nil) .nil)) (.cons (.asgnC 5 24 [1, 2] (.range (.cons (.call 594 (.cons (.var 1) (.cons (.const (.int 6)) .nil))) .nil)) .none (.call 601 (.cons (.var 1) (.cons (.var 2) .nil)))) (.cons (.asgn 6 (.bcall .tuple (.cons (.comp 28 [1] (.seq (.list (.cons (.const (.str (sx 16))) (.cons (.const (.str (sx 18))) (.cons (.const (.str (sx 42))) .nil))))) (.some (.cmp .Eq (.call 594 (.cons (.var 1) (.cons (.const (.int 2)) .nil))) (.const (.int 0)))) (.var 28)) .nil))) (.cons (.asgn 7 (.sub (.list (.cons (.const (.str (sx 47))) (.cons (.const (.str (sx 48))) (.cons (.const (.str (sx 49))) .nil)))) (.call 594 (.cons (.var 1) (.cons (.const (.int 3)) .nil))))) (.cons (.asgn 8 (.call 583 (.cons (.var 2) (.cons (.list .nil) .nil)))) (.cons (.asgn 9 (.dict3 (.const (.int 0)) (.meth (.attr (.var 8) 14) 35 .nil) (.const (.int 1)) (.meth (.attr (.var 8) 14) 35 .nil) (.const (.int 2)) (.meth (.attr (.var 8) 14) 35 .nil))) (.cons (.expr (.meth (.attr (.var 8) 14) 39 (.cons (.sub (.var 9) (.const (.int 1))) (.cons (.tup (.cons (.const (.int 4)) (.cons (.meth (.var 2) 28 (.cons (.const (.str (sx 16))) .nil)) .nil))) .nil)))) (.cons (.expr (.meth (.attr (.var 8) 14) 39 (.cons (.sub (.var 9) (.const (.int 2))) (.cons (.sub (.var 9) (.const (.int 0))) .nil)))) (.cons (.asgn 10 (.var 4)) (.cons (.loop 11 (.seq (.rev (.var 5) (.neg (.const (.int 1))))) (.cons (.asgn 10 (.tup (.cons (.const (.str (sx 29))) (.cons (.const (.int 0)) (.cons (.tup (.cons (.var 11) (.cons (.var 10) .nil))) .nil))))) .nil)) (.cons (.asgn 12 (.meth (.attr (.var 8) 14) 48 (.cons (.var 10) (.cons (.var 9) .nil)))) (.cons (.asgn 13 (.bcall .list (.cons (.attr (.attr (.var 8) 14) 2) .nil))) (.cons (.asgnC 14 11 [2] (.seq (.var 5)) .none (.call 606 (.cons (.var 2) (.cons (.var 11) .nil)))) (.cons (.asgn 15 (.call 606 (.cons (.var 2) (.cons (.var 4) .nil)))) (.cons (.asgn 16 (.call 620 (.cons (.var 8) (.cons (.var 12) .nil)))) (.cons (.asgn 17 (.call 613 (.cons (.var 2) (.cons (.const (.str (sx 31))) (.cons (.list .nil) .nil))))) (.cons (.ite (.cmp .Eq (.var 15) (.tup (.cons (.const (.str (sx 36))) (.cons (.const (.int 0)) .nil)))) (.cons (.ret (.and (.cmp .Eq (.var 16) (.var 17)) (.cmp .Eq (.attr (.attr (.var 8) 14) 2) (.var 13)))) .nil) .nil) (.cons (.ite (.cmp .NotEq (.var 15) (.tup (.cons (.const (.str (sx 30))) (.cons (.const (.int 0)) .nil)))) (.cons (.asgn 19 (.call 606 (.cons (.var 2) (.cons (.var 10) .nil)))) (.cons (.ret (.and (.cmp .Eq (.var 16) (.call 613 (.cons (.var 2) (.cons (.const (.str (sx 32))) (.cons (.list (.cons (.tup (.cons (.const (.str (sx 30))) (.cons (.meth (.var 2) 28 (.cons (.const (.str (sx 38))) .nil)) .nil))) (.cons (.var 19) .nil))) .nil))))) (.cmp .Eq (.attr (.attr (.var 8) 14) 2) (.var 13)))) .nil)) .nil) (.cons (.ite (.cmp .In (.tup (.cons (.const (.str (sx 36))) (.cons (.const (.int 0)) .nil))) (.var 14)) (.cons (.ret (.and (.cmp .Eq (.var 16) (.var 17)) (.cmp .Eq (.attr (.attr (.var 8) 14) 2) (.var 13)))) .nil) .nil) (.cons (.ite (.or (.cmp .NotEq (.sub (.var 16) (.const (.int 0))) (.const (.str (sx 44)))) (.cmp .NotEq (.bcall .len (.cons (.sub (.var 16) (.const (.int 1))) .nil)) (.bcall .len (.cons (.var 14) .nil)))) (.cons (.ret (.const (.bool false))) .nil) .nil) (.cons (.loop 18 (.range (.cons (.bcall .len (.cons (.var 14) .nil)) .nil)) (.cons (.asgn 20 (.sub (.sub (.var 16) (.const (.int 1))) (.var 18))) (.cons (.asgn 21 (.sub (.var 14) (.var 18))) (.cons (.ite (.or (.not (.call 641 (.cons (.var 8) (.cons (.var 20) .nil)))) (.cmp .NotEq (.meth (.var 8) 52 (.cons (.var 20) .nil)) (.var 21))) (.cons (.ret (.const (.bool false))) .nil) .nil) (.cons (.asgn 22 (.call 613 (.cons (.var 2) (.cons (.const (.str (sx 33))) (.cons (.list (.cons (.tup (.cons (.const (.str (sx 30))) (.cons (.meth (.var 2) 28 (.cons (.var 7) .nil)) .nil))) (.cons (.var 21) .nil))) .nil))))) (.cons (.asgn 23 (.call 627 (.cons (.var 8) (.cons (.var 20) (.cons (.var 7) .nil))))) (.cons (.ite (.or (.cmp .NotEq (.sub (.var 21) (.const (.int 0))) (.const (.str (sx 29)))) (.cmp .NotEq (.bcall .len (.cons (.sub (.var 21) (.const (.int 2))) .nil)) (.const (.int 1)))) (.cons (.ite (.cmp .NotEq (.var 23) (.var 22)) (.cons (.ret (.const (.bool false))) .nil) .nil) .nil) (.cons (.asgn 25 (.sub (.sub (.var 21) (.const (.int 2))) (.const (.int 0)))) (.cons (.ite (.or (.cmp .NotEq (.sub (.var 23) (.const (.int 0))) (.const (.str (sx 45)))) (.cmp .NotEq (.sub (.sub (.var 23) (.const (.int 1))) (.const (.int 0))) (.meth (.var 2) 29 (.cons (.meth (.var 2) 32 (.cons (.sub (.var 21) (.const (.int 1))) .nil)) .nil)))) (.cons (.ret (.const (.bool false))) .nil) .nil) (.cons (.asgn 26 (.sub (.sub (.var 23) (.const (.int 1))) (.const (.int 1)))) (.cons (.ite (.or (.not (.call 641 (.cons (.var 8) (.cons (.var 26) .nil)))) (.cmp .NotEq (.meth (.var 8) 52 (.cons (.var 26) .nil)) (.var 25))) (.cons (.ret (.const (.bool false))) .nil) .nil) (.cons (.asgn 27 (.call 634 (.cons (.var 8) (.cons (.var 20) (.cons (.var 26) (.cons (.var 7) (.cons (.var 6) .nil))))))) (.cons (.ite (.cmp .Eq (.var 25) (.tup (.cons (.const (.str (sx 36))) (.cons (.const (.int 0)) .nil)))) (.cons (.asgn 22 (.var 17)) .nil) (.cons (.ite (.and (.cmp .Eq (.sub (.var 25) (.const (.int 0))) (.const (.str (sx 30)))) (.cmp .In (.meth (.var 2) 29 (.cons (.sub (.var 25) (.const (.int 1))) .nil)) (.var 6))) (.cons (.asgn 22 (.tup (.cons (.const (.str (sx 46))) (.cons (.meth (.var 2) 29 (.cons (.sub (.var 25) (.const (.int 1))) .nil)) .nil)))) .nil) .nil) .nil)) (.cons (.ite (.cmp .NotEq (.var 27) (.var 22)) (.cons (.ret (.const (.bool false))) .nil) .nil) .nil)))))))) .nil))))))) (.cons (.ret (.and (.cmp .Eq (.attr (.attr (.var 8) 14) 2) (.var 13)) (.cmp .Eq (.attr (.attr (.var 8) 14) 4) (.list .nil)))) .nil))))))))))))))))))))))))))
end Mine

namespace Mine
open PySem PySem.Calls PySem.Spec PyProof.Rows PySem.W

noncomputable def globL : List (Str × V) := [(Str.ofString "A_NIL", .int 0), (Str.ofString "A_SYSTEM", .int 25), (Str.ofString "F_DOT", .int 0), (Str.ofString "F_ERROR", .int 16), (Str.ofString "REF", .int 0), (Str.ofString "SRF", .int 1), (Str.ofString "STR", .int 2), (Str.ofString "LIS", .int 3), (Str.ofString "CON", .int 4), (Str.ofString "INT", .int 5), (Str.ofString "FUN", .int 6), (Str.ofString "VISIT", .int 0), (Str.ofString "BUILD", .int 1), (Str.ofString "VOID", .tup [.int 5, .int 0]), (Str.ofString "READ", .str (Str.ofString "read")), (Str.ofString "fixed_atoms", .ref 60), (Str.ofString "fixed_functors", .ref 67), (Str.ofString "system_error", .ref 165), (Str.ofString "formal_of", .ref 172), (Str.ofString "instantiation_error", .ref 179), (Str.ofString "type_error", .ref 186), (Str.ofString "domain_error", .ref 193), (Str.ofString "resource_error", .ref 200), (Str.ofString "option_cells", .ref 411), (Str.ofString "option_parts", .ref 418), (Str.ofString "option_value", .ref 425), (Str.ofString "_law_draw", .ref 594), (Str.ofString "_law_element", .ref 601), (Str.ofString "_law_followed", .ref 606), (Str.ofString "_law_ball", .ref 613), (Str.ofString "_law_row", .ref 620), (Str.ofString "_law_parts", .ref 627), (Str.ofString "_law_word", .ref 634), (Str.ofString "_law_ended", .ref 641), (Str.ofString "PrologError", .ref 51), (Str.ofString "Symbols", .ref 154), (Str.ofString "Store", .ref 402), (Str.ofString "Areas", .ref 583), (Str.ofString "len", .prim (.builtin "len")), (Str.ofString "abs", .prim (.builtin "abs")), (Str.ofString "isinstance", .prim (.builtin "isinstance")), (Str.ofString "tuple", .prim (.type "tuple")), (Str.ofString "list", .prim (.type "list")), (Str.ofString "set", .prim (.type "set")), (Str.ofString "str", .prim (.type "str")), (Str.ofString "range", .prim (.type "range"))]
noncomputable def attrL : List (Nat × Nat) := [(154, 7), (154, 8), (154, 9), (154, 10), (402, 0), (402, 1), (402, 2), (402, 3), (402, 4), (402, 5), (402, 6), (583, 0), (583, 1), (583, 14)]
noncomputable def setaL : List (Nat × Nat) := [(154, 7), (154, 8), (154, 9), (154, 10), (402, 0), (402, 1), (402, 2), (402, 3), (402, 4), (402, 5), (402, 6), (583, 0), (583, 11), (583, 1), (583, 12), (583, 13), (583, 14), (583, 15), (583, 16), (583, 17), (583, 18), (583, 19), (583, 20), (583, 21), (583, 22), (583, 23), (583, 24), (583, 25), (583, 26)]
noncomputable def methL : List ((Nat × Nat) × Nat) := [((154, 28), 88), ((154, 29), 95), ((154, 30), 102), ((154, 31), 109), ((154, 32), 116), ((154, 33), 123), ((402, 34), 223), ((402, 35), 230), ((402, 36), 237), ((402, 37), 251), ((402, 38), 258), ((402, 39), 265), ((402, 40), 279), ((402, 41), 307), ((402, 42), 314), ((402, 43), 321), ((402, 44), 328), ((402, 45), 335), ((402, 46), 342), ((402, 47), 378), ((402, 48), 385), ((402, 49), 392), ((402, 50), 399), ((583, 51), 447), ((583, 52), 482)]
noncomputable def clsL : List (Nat × Nat) := [(154, 81), (402, 216), (583, 440)]
noncomputable def fnL : List Nat := [60, 67, 165, 172, 179, 186, 193, 200, 411, 418, 425, 594, 601, 606, 613, 620, 627, 634, 641, 646, 51, 154, 402, 583]
noncomputable def fnsL : List (Nat × List Str × List Str × Ss) := [(48, p_PrologError_init, m_PrologError_init, s_PrologError_init), (60, p_fixed_atoms, m_fixed_atoms, s_fixed_atoms), (67, p_fixed_functors, m_fixed_functors, s_fixed_functors), (81, p_Symbols_init, m_Symbols_init, s_Symbols_init), (88, p_Symbols_atom, m_Symbols_atom, s_Symbols_atom), (95, p_Symbols_text, m_Symbols_text, s_Symbols_text), (102, p_Symbols_functor, m_Symbols_functor, s_Symbols_functor), (109, p_Symbols_func, m_Symbols_func, s_Symbols_func), (116, p_Symbols_name, m_Symbols_name, s_Symbols_name), (123, p_Symbols_arity, m_Symbols_arity, s_Symbols_arity), (165, p_system_error, m_system_error, s_system_error), (172, p_formal_of, m_formal_of, s_formal_of), (179, p_instantiation_error, m_instantiation_error, s_instantiation_error), (186, p_type_error, m_type_error, s_type_error), (193, p_domain_error, m_domain_error, s_domain_error), (200, p_resource_error, m_resource_error, s_resource_error), (216, p_Cells_init, m_Cells_init, s_Cells_init), (223, p_Cells_push, m_Cells_push, s_Cells_push), (230, p_Cells_new_var, m_Cells_new_var, s_Cells_new_var), (237, p_Cells_reserve, m_Cells_reserve, s_Cells_reserve), (251, p_Cells_deref, m_Cells_deref, s_Cells_deref), (258, p_Cells_is_unbound, m_Cells_is_unbound, s_Cells_is_unbound), (265, p_Cells_bind, m_Cells_bind, s_Cells_bind), (279, p_Cells_globalise, m_Cells_globalise, s_Cells_globalise), (307, p_Cells_is_compound, m_Cells_is_compound, s_Cells_is_compound), (314, p_Cells_functor_of, m_Cells_functor_of, s_Cells_functor_of), (321, p_Cells_width, m_Cells_width, s_Cells_width), (328, p_Cells_base, m_Cells_base, s_Cells_base), (335, p_Cells_arg, m_Cells_arg, s_Cells_arg), (342, p_Cells_new_block, m_Cells_new_block, s_Cells_new_block), (378, p_Store_list_cells, m_Store_list_cells, s_Store_list_cells), (385, p_Store_put_term, m_Store_put_term, s_Store_put_term), (392, p_Store_whole_size, m_Store_whole_size, s_Store_whole_size), (399, p_Store_take_term, m_Store_take_term, s_Store_take_term), (411, p_option_cells, m_option_cells, s_option_cells), (418, p_option_parts, m_option_parts, s_option_parts), (425, p_option_value, m_option_value, s_option_value), (440, p_Areas_init, m_Areas_init, s_Areas_init), (447, p_Areas_reset, m_Areas_reset, s_Areas_reset), (482, p_Areas_take, m_Areas_take, s_Areas_take), (594, p_law_draw, m_law_draw, s_law_draw), (601, p_law_element, m_law_element, s_law_element), (606, p_law_followed, m_law_followed, s_law_followed), (613, p_law_ball, m_law_ball, s_law_ball), (641, p_law_ended, m_law_ended, s_law_ended), (646, p_law, m_law, s_law)]
noncomputable def tryL : List (Nat × List Str × List Str × Ss) := [(620, p_law_row, m_law_row, s_law_row), (627, p_law_parts, m_law_parts, s_law_parts), (634, p_law_word, m_law_word, s_law_word)]

noncomputable def tab (K : Frag) : Tab := {
  glob := fun x => globL.lookup x
  attr := fun C n => attrL.any fun p => p.1 == C && an p.2 == n
  seta := fun C n => setaL.any fun p => p.1 == C && an p.2 == n
  meth := fun C n => (methL.find? fun p => p.1.1 == C && an p.1.2 == n).map (·.2)
  cls := fun C => clsL.lookup C
  fn := fun f => fnL.contains f
  frag := K
  exc := 51 }
noncomputable def fnsB (K : Frag) : Bool := fnsL.all fun x => fnB (tab K) x.1 x.2.1 x.2.2.1 x.2.2.2
noncomputable def trysB (K : Frag) : Bool := tryL.all fun x => fnTB (tab K) x.1 x.2.1 x.2.2.1 x.2.2.2

structure Fns (K : Frag) : Prop where
  a : fnsB K = true
  t : trysB K = true
  d : dfsB K 440 [.int 100000, .bool true, .int 4096] = true
theorem Fns.at {K : Frag} (F : Fns K) (i : Nat) {x : Nat × List Str × List Str × Ss} (e : fnsL[i]? = some x) : fnB (tab K) x.1 x.2.1 x.2.2.1 x.2.2.2 = true :=
  List.all_eq_true.mp F.a x (List.mem_of_getElem? e)
theorem Fns.tat {K : Frag} (F : Fns K) (i : Nat) {x : Nat × List Str × List Str × Ss} (e : tryL[i]? = some x) : fnTB (tab K) x.1 x.2.1 x.2.2.1 x.2.2.2 = true :=
  List.all_eq_true.mp F.t x (List.mem_of_getElem? e)
theorem Fns.f_PrologError_init {K : Frag} (F : Fns K) : fnB (tab K) 48 p_PrologError_init m_PrologError_init s_PrologError_init = true := F.at 0 rfl
theorem Fns.f_fixed_atoms {K : Frag} (F : Fns K) : fnB (tab K) 60 p_fixed_atoms m_fixed_atoms s_fixed_atoms = true := F.at 1 rfl
theorem Fns.f_fixed_functors {K : Frag} (F : Fns K) : fnB (tab K) 67 p_fixed_functors m_fixed_functors s_fixed_functors = true := F.at 2 rfl
theorem Fns.f_Symbols_init {K : Frag} (F : Fns K) : fnB (tab K) 81 p_Symbols_init m_Symbols_init s_Symbols_init = true := F.at 3 rfl
theorem Fns.f_Symbols_atom {K : Frag} (F : Fns K) : fnB (tab K) 88 p_Symbols_atom m_Symbols_atom s_Symbols_atom = true := F.at 4 rfl
theorem Fns.f_Symbols_text {K : Frag} (F : Fns K) : fnB (tab K) 95 p_Symbols_text m_Symbols_text s_Symbols_text = true := F.at 5 rfl
theorem Fns.f_Symbols_functor {K : Frag} (F : Fns K) : fnB (tab K) 102 p_Symbols_functor m_Symbols_functor s_Symbols_functor = true := F.at 6 rfl
theorem Fns.f_Symbols_func {K : Frag} (F : Fns K) : fnB (tab K) 109 p_Symbols_func m_Symbols_func s_Symbols_func = true := F.at 7 rfl
theorem Fns.f_Symbols_name {K : Frag} (F : Fns K) : fnB (tab K) 116 p_Symbols_name m_Symbols_name s_Symbols_name = true := F.at 8 rfl
theorem Fns.f_Symbols_arity {K : Frag} (F : Fns K) : fnB (tab K) 123 p_Symbols_arity m_Symbols_arity s_Symbols_arity = true := F.at 9 rfl
theorem Fns.f_system_error {K : Frag} (F : Fns K) : fnB (tab K) 165 p_system_error m_system_error s_system_error = true := F.at 10 rfl
theorem Fns.f_formal_of {K : Frag} (F : Fns K) : fnB (tab K) 172 p_formal_of m_formal_of s_formal_of = true := F.at 11 rfl
theorem Fns.f_instantiation_error {K : Frag} (F : Fns K) : fnB (tab K) 179 p_instantiation_error m_instantiation_error s_instantiation_error = true := F.at 12 rfl
theorem Fns.f_type_error {K : Frag} (F : Fns K) : fnB (tab K) 186 p_type_error m_type_error s_type_error = true := F.at 13 rfl
theorem Fns.f_domain_error {K : Frag} (F : Fns K) : fnB (tab K) 193 p_domain_error m_domain_error s_domain_error = true := F.at 14 rfl
theorem Fns.f_resource_error {K : Frag} (F : Fns K) : fnB (tab K) 200 p_resource_error m_resource_error s_resource_error = true := F.at 15 rfl
theorem Fns.f_Cells_init {K : Frag} (F : Fns K) : fnB (tab K) 216 p_Cells_init m_Cells_init s_Cells_init = true := F.at 16 rfl
theorem Fns.f_Cells_push {K : Frag} (F : Fns K) : fnB (tab K) 223 p_Cells_push m_Cells_push s_Cells_push = true := F.at 17 rfl
theorem Fns.f_Cells_new_var {K : Frag} (F : Fns K) : fnB (tab K) 230 p_Cells_new_var m_Cells_new_var s_Cells_new_var = true := F.at 18 rfl
theorem Fns.f_Cells_reserve {K : Frag} (F : Fns K) : fnB (tab K) 237 p_Cells_reserve m_Cells_reserve s_Cells_reserve = true := F.at 19 rfl
theorem Fns.f_Cells_deref {K : Frag} (F : Fns K) : fnB (tab K) 251 p_Cells_deref m_Cells_deref s_Cells_deref = true := F.at 20 rfl
theorem Fns.f_Cells_is_unbound {K : Frag} (F : Fns K) : fnB (tab K) 258 p_Cells_is_unbound m_Cells_is_unbound s_Cells_is_unbound = true := F.at 21 rfl
theorem Fns.f_Cells_bind {K : Frag} (F : Fns K) : fnB (tab K) 265 p_Cells_bind m_Cells_bind s_Cells_bind = true := F.at 22 rfl
theorem Fns.f_Cells_globalise {K : Frag} (F : Fns K) : fnB (tab K) 279 p_Cells_globalise m_Cells_globalise s_Cells_globalise = true := F.at 23 rfl
theorem Fns.f_Cells_is_compound {K : Frag} (F : Fns K) : fnB (tab K) 307 p_Cells_is_compound m_Cells_is_compound s_Cells_is_compound = true := F.at 24 rfl
theorem Fns.f_Cells_functor_of {K : Frag} (F : Fns K) : fnB (tab K) 314 p_Cells_functor_of m_Cells_functor_of s_Cells_functor_of = true := F.at 25 rfl
theorem Fns.f_Cells_width {K : Frag} (F : Fns K) : fnB (tab K) 321 p_Cells_width m_Cells_width s_Cells_width = true := F.at 26 rfl
theorem Fns.f_Cells_base {K : Frag} (F : Fns K) : fnB (tab K) 328 p_Cells_base m_Cells_base s_Cells_base = true := F.at 27 rfl
theorem Fns.f_Cells_arg {K : Frag} (F : Fns K) : fnB (tab K) 335 p_Cells_arg m_Cells_arg s_Cells_arg = true := F.at 28 rfl
theorem Fns.f_Cells_new_block {K : Frag} (F : Fns K) : fnB (tab K) 342 p_Cells_new_block m_Cells_new_block s_Cells_new_block = true := F.at 29 rfl
theorem Fns.f_Store_list_cells {K : Frag} (F : Fns K) : fnB (tab K) 378 p_Store_list_cells m_Store_list_cells s_Store_list_cells = true := F.at 30 rfl
theorem Fns.f_Store_put_term {K : Frag} (F : Fns K) : fnB (tab K) 385 p_Store_put_term m_Store_put_term s_Store_put_term = true := F.at 31 rfl
theorem Fns.f_Store_whole_size {K : Frag} (F : Fns K) : fnB (tab K) 392 p_Store_whole_size m_Store_whole_size s_Store_whole_size = true := F.at 32 rfl
theorem Fns.f_Store_take_term {K : Frag} (F : Fns K) : fnB (tab K) 399 p_Store_take_term m_Store_take_term s_Store_take_term = true := F.at 33 rfl
theorem Fns.f_option_cells {K : Frag} (F : Fns K) : fnB (tab K) 411 p_option_cells m_option_cells s_option_cells = true := F.at 34 rfl
theorem Fns.f_option_parts {K : Frag} (F : Fns K) : fnB (tab K) 418 p_option_parts m_option_parts s_option_parts = true := F.at 35 rfl
theorem Fns.f_option_value {K : Frag} (F : Fns K) : fnB (tab K) 425 p_option_value m_option_value s_option_value = true := F.at 36 rfl
theorem Fns.f_Areas_init {K : Frag} (F : Fns K) : fnB (tab K) 440 p_Areas_init m_Areas_init s_Areas_init = true := F.at 37 rfl
theorem Fns.f_Areas_reset {K : Frag} (F : Fns K) : fnB (tab K) 447 p_Areas_reset m_Areas_reset s_Areas_reset = true := F.at 38 rfl
theorem Fns.f_Areas_take {K : Frag} (F : Fns K) : fnB (tab K) 482 p_Areas_take m_Areas_take s_Areas_take = true := F.at 39 rfl
theorem Fns.f_law_draw {K : Frag} (F : Fns K) : fnB (tab K) 594 p_law_draw m_law_draw s_law_draw = true := F.at 40 rfl
theorem Fns.f_law_element {K : Frag} (F : Fns K) : fnB (tab K) 601 p_law_element m_law_element s_law_element = true := F.at 41 rfl
theorem Fns.f_law_followed {K : Frag} (F : Fns K) : fnB (tab K) 606 p_law_followed m_law_followed s_law_followed = true := F.at 42 rfl
theorem Fns.f_law_ball {K : Frag} (F : Fns K) : fnB (tab K) 613 p_law_ball m_law_ball s_law_ball = true := F.at 43 rfl
theorem Fns.f_law_ended {K : Frag} (F : Fns K) : fnB (tab K) 641 p_law_ended m_law_ended s_law_ended = true := F.at 44 rfl
theorem Fns.f_law {K : Frag} (F : Fns K) : fnB (tab K) 646 p_law m_law s_law = true := F.at 45 rfl
theorem Fns.f_law_row {K : Frag} (F : Fns K) : fnTB (tab K) 620 p_law_row m_law_row s_law_row = true := F.tat 0 rfl
theorem Fns.f_law_parts {K : Frag} (F : Fns K) : fnTB (tab K) 627 p_law_parts m_law_parts s_law_parts = true := F.tat 1 rfl
theorem Fns.f_law_word {K : Frag} (F : Fns K) : fnTB (tab K) 634 p_law_word m_law_word s_law_word = true := F.tat 2 rfl
end Mine

namespace Mine
open PySem PySem.Calls PySem.Spec PyProof.Rows PySem.W

/-- the objects that the text's own things lie in -/
noncomputable def KA : List Addr := [0, 3, 30, 31, 47, 48, 50, 51, 59, 60, 66, 67, 80, 81, 87, 88, 94, 95, 101, 102, 108, 109, 115, 116, 122, 123, 153, 154, 164, 165, 171, 172, 178, 179, 185, 186, 192, 193, 199, 200, 201, 209, 215, 216, 222, 223, 229, 230, 236, 237, 250, 251, 257, 258, 264, 265, 278, 279, 306, 307, 313, 314, 320, 321, 327, 328, 334, 335, 341, 342, 344, 345, 377, 378, 384, 385, 391, 392, 398, 399, 401, 402, 410, 411, 417, 418, 424, 425, 433, 439, 440, 446, 447, 481, 482, 582, 583, 593, 594, 600, 601, 605, 606, 612, 613, 619, 620, 626, 627, 633, 634, 640, 641, 645, 646]
noncomputable def fragAt (h : Heap) : List Addr → Frag
  | [] => []
  | a :: r => match h.get? a with
    | some o => (a, o) :: fragAt h r
    | none => fragAt h r
theorem frag_in {h : Heap} : ∀ {as : List Addr}, (fragAt h as).In h
  | [], _, _, e => by cases e
  | a :: r, b, o, e => by
    unfold fragAt at e
    cases q : h.get? a with
    | none => rw [q] at e; exact frag_in b o e
    | some x =>
      rw [q] at e
      dsimp only at e
      rw [List.lookup_cons] at e
      cases z : b == a with
      | true =>
        rw [z] at e
        dsimp only at e
        rw [beq_iff_eq.mp z, q]; exact e
      | false => rw [z] at e; exact frag_in b o e
theorem ns_of {K : Frag} {h : Heap} {N : Addr} {mg : Str → Option Value} {n : Str} {v : Value} (X : K.In h) (G : h.Ns N mg) (e : nsIn K N n = some (some v)) : mg n = some v := by
  obtain ⟨o, es, ep, ho, hd, _, hf⟩ := G
  unfold nsIn at e
  split at e
  · rename_i c d es' n' sl q
    have := X _ _ q
    rw [ho] at this
    cases this
    cases hd
    split at e
    · rename_i en he
      cases e
      rw [← hf]
      unfold nsFind findBy
      rw [← Array.find?_toList, he]
      rfl
    · split at e <;> cases e
  · cases e
-- global names
noncomputable def repI (u : Value) (v : V) : Bool := match v, u with
  | .int i, .int j _ => i == j
  | _, _ => false
noncomputable def repIs : List Value → List V → Bool
  | [], [] => true
  | u :: us, v :: vs => repI u v && repIs us vs
  | _, _ => false
noncomputable def repB (K : Frag) (u : Value) (v : V) : Bool := match v with
  | .int i => repI u (.int i)
  | .str x => (match u with | .str y _ => x == y | _ => false)
  | .ref a => (match u with | .ref b => a == b | _ => false)
  | .prim p => u == p
  | .tup l => (match u with
    | .ref a => (match K.lookup a with
      | some ⟨.type "tuple", _, .seq vs _, _⟩ => repIs vs.toList l
      | _ => false)
    | _ => false)
  | _ => false
theorem repI_of {h : Heap} {u : Value} {v : V} (e : repI u v = true) : Rep h u v := by
  unfold repI at e
  split at e
  · rw [beq_iff_eq] at e; subst e; exact .int _ _
  · cases e
theorem repIs_of {h : Heap} : ∀ {us : List Value} {vs : List V}, repIs us vs = true → RepL h us vs
  | [], [], _ => .nil
  | u :: us, v :: vs, e => by
    rw [repIs, Bool.and_eq_true] at e
    exact .cons (repI_of e.1) (repIs_of e.2)
theorem repB_of {K : Frag} {h : Heap} (X : K.In h) {u : Value} {v : V} (e : repB K u v = true) : Rep h u v := by
  cases v with
  | int i => exact repI_of e
  | str x =>
    unfold repB at e
    dsimp only at e
    split at e
    · rw [beq_iff_eq] at e; subst e; exact .str _ _
    · cases e
  | ref a =>
    unfold repB at e
    dsimp only at e
    split at e
    · rw [beq_iff_eq] at e; subst e; exact .ref _
    · cases e
  | prim p =>
    have e' : u = p := beq_iff_eq.mp e
    subst e'; exact .prim _
  | tup l =>
    unfold repB at e
    dsimp only at e
    split at e
    · split at e
      · rename_i b dd us n sl ho
        exact .tup (vs := us.toList) ⟨_, X _ _ ho, rfl, n, by simp⟩ (repIs_of e)
      · cases e
    · cases e
  | _ => cases e
noncomputable def globV (K : Frag) (x : Str) : Option Value := match nsIn K mainGlobals x with
  | some (some u) => some u
  | some none => (match nsIn K builtinsNs x with
    | some (some u) => some u
    | _ => none)
  | none => none
noncomputable def globB (K : Frag) : Bool := globL.all fun p => match globV K p.1 with
  | some u => repB K u p.2
  | none => false
theorem globAt_of {K : Frag} {B0 : Heap} (X : K.In B0) {x : Str} {u : Value} (e : globV K x = some u) : GlobAt B0 x u := fun M A E s env Q hg hb hk q => by
  unfold globV at e
  unfold loadGlobal
  rw [hg]
  split at e
  · rename_i u' e1
    cases e
    exact wpAny_bind (looks_nsIn X e1 A _ _ s hk (wpAny_pure q))
  · rename_i e1
    split at e
    · rename_i u' e2
      cases e
      refine wpAny_bind (looks_nsIn X e1 A _ _ s hk ?_)
      rw [hb]
      exact wpAny_bind (looks_nsIn X e2 A _ _ s hk (wpAny_pure q))
    · cases e
  · cases e
-- classes
noncomputable def attrB (K : Frag) : Bool := attrL.all fun p => plainGet K p.1 (an p.2) && hasDictIn K p.1 && (findIn K (.ref p.1) (an p.2)).any fun a => noGet K a
noncomputable def setaB (K : Frag) : Bool := setaL.all fun p => findIn K (.ref p.1) "__setattr__" == some (some (.builtin "object.__setattr__")) && plainOver K p.1 && takerIn K p.1 (an p.2) == some none && hasDictIn K p.1
noncomputable def methB (K : Frag) : Bool := methL.all fun p => plainGet K p.1.1 (an p.1.2) && findIn K (.ref p.1.1) (an p.1.2) == some (some (.ref p.2)) && isFn K (.ref p.2) && keepIn K (.ref p.2)
noncomputable def clsB (K : Frag) : Bool := clsL.all fun p => makesIn K p.1 && findIn K (.ref p.1) "__init__" == some (some (.ref p.2)) && isFn K (.ref p.2) && keepIn K (.ref p.1)
noncomputable def fnlB (K : Frag) : Bool := fnL.all fun f => keepIn K (.ref f)
noncomputable def excB (K : Frag) : Bool := (match clsIn K 51 with
    | some cd => cd.mro == [.ref 51, .ref 31, .type "Exception", .type "BaseException", .type "object"] && cd.hasDict
    | none => false) && findIn K (.ref 51) "__setattr__" == some (some (.builtin "object.__setattr__")) && (match K.lookup 51 with
    | some o => o.cls == .type "type"
    | none => false) && findIn K (.ref 51) "__getattribute__" == some (some (.builtin "BaseException.__getattribute__")) && findIn K (.ref 51) "__getattr__" == some none && findIn K (.ref 51) "ball" == some none
noncomputable def onData (d : Data) (k : ClassData → Bool) : Bool := match d with | .cls c => k c | _ => false
theorem onData_ex {d : Data} {k : ClassData → Bool} (h : onData d k = true) : ∃ c, d = .cls c ∧ k c = true := by
  cases d <;> first | exact ⟨_, rfl, h⟩ | exact (Bool.false_ne_true h).elim
theorem onSome_ex {α : Type} {l : Option α} {k : α → Bool} (h : onSome l k = true) : ∃ a, l = some a ∧ k a = true := onSome_el (P := fun l => ∃ a, l = some a ∧ k a = true) h fun a h => ⟨a, rfl, h⟩
theorem onCons_ex {α : Type} {l : List α} {k : α → List α → Bool} (h : onCons l k = true) : ∃ a r, l = a :: r ∧ k a r = true := onCons_el (P := fun l => ∃ a r, l = a :: r ∧ k a r = true) h fun a r h => ⟨a, r, rfl, h⟩
noncomputable def on6 {α : Type} (l : List α) (k : α → α → α → α → α → α → Bool) : Bool := onCons l fun a l => onCons l fun b l => onCons l fun c l => on3 l fun d e f => k a b c d e f
theorem on6_ex {α : Type} {l : List α} {k : α → α → α → α → α → α → Bool} (h : on6 l k = true) : ∃ a b c d e f, l = [a, b, c, d, e, f] ∧ k a b c d e f = true :=
  onCons_el (P := fun l => ∃ a b c d e f, l = [a, b, c, d, e, f] ∧ k a b c d e f = true) h fun a l h => onCons_el (P := fun l => ∃ a' b c d e f, a :: l = [a', b, c, d, e, f] ∧ k a' b c d e f = true) h fun b l h => onCons_el (P := fun l => ∃ a' b' c d e f, a :: b :: l = [a', b', c, d, e, f] ∧ k a' b' c d e f = true) h fun c l h =>
    on3_el (P := fun l => ∃ a' b' c' d e f, a :: b :: c :: l = [a', b', c', d, e, f] ∧ k a' b' c' d e f = true) h fun d e f h => ⟨a, b, c, d, e, f, rfl, h⟩
noncomputable def excMkB (K : Frag) : Bool := onSome (K.lookup 51) fun o => o.cls == .type "type" && onData o.data fun cd => onCons cd.mro fun c bm => on6 o.slots.toList fun _ _ _ _ k4 _ => c == .ref 51 && k4 == some (.builtin "Exception.__new__") && !cd.hasDel && tailIn K [.type "Exception", .type "BaseException", .type "object"] bm && nsOkIn K cd.ns && nsIn K cd.ns "__init__" == some (some (.ref 48)) &&
  onSome (K.lookup 48) fun o => o.cls == .type "function"
noncomputable def noList (h : Heap) : Bool := h.objs.toList.all fun o => o.cls != .type "list"
noncomputable def headK (K : Frag) : Bool := fnsB K && trysB K && dfsB K 440 [.int 100000, .bool true, .int 4096] && globB K && attrB K && setaB K && methB K && clsB K && fnlB K && excB K && excMkB K && nsIn K mainGlobals "law" == some (some (.ref 646))
noncomputable def headH (h : Heap) : Bool := headK (fragAt h KA) && h.isNs cStatics && (h.nsMap cStatics "sys.recursionlimit").isNone && (h.get? sysModules).isSome && noList h && (h.get? (h.objs.size - 1)).isSome && Nat.blt 0 h.objs.size
theorem tab_ok {K : Frag} {B0 : Heap} (X : K.In B0) (h1 : globB K = true) (h2 : attrB K = true) (h3 : setaB K = true) (h4 : methB K = true) (h5 : clsB K = true) (h6 : fnlB K = true) (h7 : excB K = true) : TabOk (tab K) K B0 where
  frag := rfl
  exc := by
    unfold excB at h7
    simp only [Bool.and_eq_true, beq_iff_eq] at h7
    obtain ⟨⟨⟨⟨⟨q1, q2⟩, q3⟩, q4⟩, q5⟩, q6⟩ := h7
    refine ⟨⟨?_, q2⟩, ?_, ⟨q4, q5, q6⟩⟩
    · split at q1
      · rename_i cd e
        simp only [Bool.and_eq_true, beq_iff_eq] at q1
        exact ⟨cd, 31, e, q1.1, q1.2⟩
      · cases q1
    · split at q3
      · rename_i o e
        exact ⟨o, e, beq_iff_eq.mp q3⟩
      · cases q3
  glob x v e := by
    have hm : (x, v) ∈ globL := lookup_mem e
    have := List.all_eq_true.mp h1 _ hm
    dsimp only at this
    cases q : globV K x with
    | none => first | exact (no q this).elim | exact (no this q).elim | obtain rfl := so q this | (rw [q] at this; cases this)
    | some u => rw [q] at this; exact ⟨u, repB_of X this, globAt_of X q⟩
  attr C n e := by
    obtain ⟨p, hp, hq⟩ := List.any_eq_true.mp e
    simp only [Bool.and_eq_true, beq_iff_eq] at hq
    obtain ⟨rfl, rfl⟩ := hq
    have := List.all_eq_true.mp h2 p hp
    simp only [Bool.and_eq_true, Option.any_eq_true] at this
    obtain ⟨⟨q1, q2⟩, a, q3, q4⟩ := this
    exact ⟨q1, q2, a, q3, q4⟩
  seta C n e := by
    obtain ⟨p, hp, hq⟩ := List.any_eq_true.mp e
    simp only [Bool.and_eq_true, beq_iff_eq] at hq
    obtain ⟨rfl, rfl⟩ := hq
    have := List.all_eq_true.mp h3 p hp
    simp only [Bool.and_eq_true, beq_iff_eq] at this
    exact ⟨this.1.1.1, this.1.1.2, this.1.2, this.2⟩
  meth C n f e := by
    obtain ⟨p, hp, rfl⟩ := Option.map_eq_some_iff.mp e
    have hq := List.find?_some hp
    simp only [Bool.and_eq_true, beq_iff_eq] at hq
    obtain ⟨rfl, rfl⟩ := hq
    have := List.all_eq_true.mp h4 p (List.mem_of_find?_eq_some hp)
    simp only [Bool.and_eq_true, beq_iff_eq] at this
    exact ⟨this.1.1.1, this.1.1.2, this.1.2, this.2⟩
  cls C f e := by
    have hm : (C, f) ∈ clsL := lookup_mem e
    have := List.all_eq_true.mp h5 _ hm
    simp only [Bool.and_eq_true, beq_iff_eq] at this
    exact ⟨this.1.1.1, this.1.1.2, this.1.2, this.2⟩
  fn f e := List.all_eq_true.mp h6 f (List.contains_iff_mem.mp e)
theorem excMk_of {K : Frag} (q : excMkB K = true) : ExcMk K 51 48 := fun h X => by
  obtain ⟨o, ho, q⟩ := onSome_ex q
  obtain ⟨cls, dd, data, sl⟩ := o
  obtain rfl := eq_of_beq (bl q)
  obtain ⟨cd, rfl, q⟩ := onData_ex (br q)
  obtain ⟨c, bm, hm, q⟩ := onCons_ex q
  obtain ⟨k0, k1, k2, k3, k4, k5, hs, q⟩ := on6_ex q
  obtain ⟨oI, eI, hf⟩ := onSome_ex (br q)
  have ht := br (bl (bl (bl q)))
  have hok := br (bl (bl q))
  have hni := eq_of_beq (br (bl q))
  have hdel := bn (br (bl (bl (bl (bl q)))))
  obtain rfl := eq_of_beq (br (bl (bl (bl (bl (bl q))))))
  obtain rfl := eq_of_beq (bl (bl (bl (bl (bl (bl q))))))
  clear q
  obtain ⟨nm, bs, mro, ns, qn, hd, sn, sub, ab, col, del⟩ := cd
  obtain rfl : mro = _ := hm
  obtain rfl : del = _ := hdel
  obtain rfl : sl = #[k0, k1, k2, k3, some (.builtin "Exception.__new__"), k5] := (Array.toArray_toList (xs := sl)).symm.trans (congrArg List.toArray hs)
  exact ⟨nm, qn, ns, bs, bm, hd, sn, sub, ab, col, dd, k0, k1, k2, k3, k5, _, oI, X _ _ ho, .of_isNs (isNs_of_in X hok), ns_of X (.of_isNs (isNs_of_in X hok)) hni, X _ _ eI, eq_of_beq hf, tail_of_in X ht⟩
/-- what is known of the heap behind the top -/
noncomputable def XP (_ : Str → Option Value) (h : Heap) : Prop := ∃ h0 : Heap, headH h0 = true ∧ ∀ b o, h0.get? b = some o → h.get? b = some o
end Mine

namespace Mine
open PySem PySem.Calls PySem.Spec PyProof.Rows PySem.W

noncomputable def topRunT (tb : String → Option Builtin) (p : Program) (w : World) (n₀ : Nat) (ann : Option Value) : Nat → SharedT → Thread → Option SharedT
  | 0, _, _ => none
  | n + 1, s, t => match through t with
    | true => some s
    | false => match stepOk n₀ ann t with
      | false => none
      | true => match stepT (denote tb) p w s t with
        | some (s', t') => topRunT tb p w n₀ ann n s' t'
        | none => none
theorem topRun_of {tb : String → Option Builtin} {p : Program} {w : World} {n₀ : Nat} {ann : Option Value} : ∀ {n : Nat} {s s' : SharedT} {t : Thread}, topRunT tb p w n₀ ann n s t = some s' → topRun tb p w n₀ ann n s.abs t = some s'.abs
  | 0, _, _, _, h => by cases h
  | n + 1, s, s', t, h => by
    unfold topRunT at h
    unfold topRun
    cases ht : through t with
    | true => (first | exact (no ht h).elim | exact (no h ht).elim | obtain rfl := so ht h | (rw [ht] at h; cases h)); rfl
    | false =>
      rw [ht] at h
      cases hk : stepOk n₀ ann t with
      | false => first | exact (no hk h).elim | exact (no h hk).elim | obtain rfl := so hk h | (rw [hk] at h; cases h)
      | true =>
        rw [hk] at h
        cases hs : stepT (denote tb) p w s t with
        | none => first | exact (no hs h).elim | exact (no h hs).elim | obtain rfl := so hs h | (rw [hs] at h; cases h)
        | some r => obtain ⟨s₂, t₂⟩ := r; rw [hs] at h; rw [stepT_spec hs]; exact topRun_of h
/-- the boot's heap as a tree -/
noncomputable def bootT (P : Params) : BT :=
  .node (boot_o_0 P) (.node (boot_o_1 P) (.node (boot_o_3 P) (.node (boot_o_7 P) .nil .nil) .nil) (.node (boot_o_5 P) (.node (boot_o_9 P) .nil .nil) .nil))
    (.node (boot_o_2 P) (.node (boot_o_4 P) (.node (boot_o_8 P) .nil .nil) .nil) (.node (boot_o_6 P) (.node (boot_o_10 P) .nil .nil) .nil))
noncomputable def bootS (w : World) (os : OsState) : SharedT := ⟨bootT w.params, 11, (boot_heap w.params).life, Array.mk [], boot_drawn, boot_toks, os⟩
theorem bootS_abs (w : World) (os : OsState) : (bootS w os).abs = ⟨boot_heap w.params, Array.mk [], boot_drawn, boot_toks, os⟩ := rfl
noncomputable def run0 (p : Program) (w : World) (os : OsState) : Option SharedT := topRunT treeTable p w 11 (some (.ref 6)) 5000 (bootS w os) (topStub p)
noncomputable def keepF {α : Sort _} (_ : α) : Bool := true
theorem run0_keep : keepF run0 = true := by k_qdec
noncomputable def looseN (p : Program) : List Str := p.boundNames.filter fun n => !(n == ("law" : Str))
noncomputable def flags (p : Program) (h0 : Heap) (s : Shared) : Bool := staticsOk (importedModules p.main.body) h0 s.heap && namesBound p s.heap && gensDone s && laidKept h0 s.heap
noncomputable def vw (p : Program) : Program := view p [47]
end Mine

namespace Mine
open PySem PySem.Calls PySem.Spec PyProof.Rows PySem.W
/-- what is seen behind the top -/
noncomputable def obs (p : Program) (w : World) (s : SharedT) := (flags p (boot_heap w.params) s.abs, openSeen (vw p) (looseN p) (importedModules p.main.body) (fun s => headH s.heap) true s.abs)
theorem left_of {pw : Program} (h : ∀ w os, (run0 pw w os).map (obs pw w) = some (true, openGood (vw pw) (looseN pw))) (ho : opening pw = plainProg pw.main.scope.names) (hf : ∀ s, fenceModules? pw s = some s) : LeftO pw (vw pw) (looseN pw) (fun s => headH s.heap) (fun _ => ()) (fun _ => ()) 5000 := fun w => by
  have hb := boot_open (p := pw) (N := 5000) ho rfl hf w
  obtain ⟨s0, h1, h2⟩ := Option.map_eq_some_iff.mp hb
  obtain ⟨heap, gens, drawn, toks, os⟩ := s0
  simp only [Prod.mk.injEq] at h2
  obtain ⟨rfl, rfl, rfl, rfl⟩ := h2
  have hc := h w os
  unfold run0 obs at hc
  obtain ⟨sT, h3, h4⟩ := Option.map_eq_some_iff.mp hc
  have h5 := topRun_of h3
  rw [bootS_abs] at h5
  obtain ⟨h6, h7⟩ := Prod.mk.inj h4
  unfold openEnds
  rw [h1]
  show ((topFrom treeTable pw w 5000 ⟨boot_heap w.params, Array.mk [], boot_drawn, boot_toks, os⟩)).map _ = _
  unfold topFrom
  have g1 : ((boot_heap w.params).isNs mainGlobals && (Array.mk ([] : List GenState)).size == 0) = true := by kernel_rfl
  have g2 : (boot_heap w.params).nsMap mainGlobals "__annotations__" = some (.ref 6) := by kernel_rfl
  have g3 : (boot_heap w.params).objs.size = 11 := by kernel_rfl
  dsimp only
  rw [g1]
  dsimp only
  rw [g2, g3, h5]
  unfold flags at h6
  dsimp only [Option.bind_some]
  rw [h6]
  dsimp only
  rw [Option.map_some, h7]
end Mine

namespace Mine
open PySem PySem.Calls PySem.Spec PyProof.Rows PySem.W
theorem run_ok (w : World) (os : OsState) : (PySem.W.Fast.tw13864702844650992941 pw w os).map (fun s => (flags pw (boot_heap w.params) s.abs, openSeen (vw pw) (looseN pw) (importedModules pw.main.body) (fun s => headH s.heap) true s.abs)) = some (true, openGood (vw pw) (looseN pw)) := by kernel_rfl
theorem run_ok' (w : World) (os : OsState) : (run0 pw w os).map (obs pw w) = some (true, openGood (vw pw) (looseN pw)) := by
  rw [PySem.W.Fast.te13864702844650992941]
  exact run_ok w os
theorem open_ok : opening pw = plainProg pw.main.scope.names := by kernel_rfl
theorem fence_ok (s : Shared) : fenceModules? pw s = some s := by kernel_rfl
theorem left_ok : LeftO pw (vw pw) (looseN pw) (fun s => headH s.heap) (fun _ => ()) (fun _ => ()) 5000 := left_of run_ok' open_ok fence_ok
noncomputable def lawN : Str := Str.ofString "law"
theorem def_some : (defOf (vw pw) lawN).isSome = true := by kernel_rfl
noncomputable def dk : DefRec × List (Str × Expr) := (defOf (vw pw) lawN).get def_some
theorem def_ok : defOf (vw pw) lawN = some (dk.1, dk.2) := (Option.some_get def_some).symm
theorem the_ok : pw.theDef lawN = some (dk.1.params, dk.1.body, dk.1.scope) := by kernel_rfl
theorem kw_ok : kwWritten? dk.1.params.kwonlyargs dk.1.params.kw_defaults = some dk.2 := by kernel_rfl
theorem ok_ok : (chainsOk (vw pw) && opensWell pw && (frees rl.row.toRowW && rl.row.toRowW.within.isEmpty)) = true := by kernel_rfl
theorem bare_ok : pw.bare := ⟨rfl, rfl, rfl, rfl, rfl, by kernel_rfl⟩
theorem prom_ok : rl.row.toRowW.promised := ⟨[.list []], by decide +kernel, by decide +kernel⟩
end Mine

namespace Mine
open PySem PySem.Calls PySem.Spec PyProof.Rows PySem.W
end Mine

namespace Mine
open PySem PySem.Calls PySem.Spec PyProof.Rows PySem.W

-- names and words by number
theorem anm_nodup : anm.Nodup := by decide +kernel
theorem an_inj {i j : Nat} (hi : i < 57) (hj : j < 57) : an i = an j ↔ i = j := by
  have hl : anm.length = 57 := by decide +kernel
  constructor
  · intro h
    unfold an at h
    rw [List.getD_eq_getElem?_getD, List.getD_eq_getElem?_getD, List.getElem?_eq_getElem (by (first | lia | omega)), List.getElem?_eq_getElem (by (first | lia | omega))] at h
    exact (List.getElem_inj anm_nodup).mp h
  · rintro rfl; rfl
theorem sxl_nodup : sxl.Nodup := by decide +kernel
theorem sxl_len : sxl.length = 50 := by decide +kernel
theorem sx_inj {i j : Nat} (hi : i < 50) (hj : j < 50) : sx i = sx j ↔ i = j := by
  have hl := sxl_len
  constructor
  · intro h
    unfold sx at h
    rw [List.getD_eq_getElem?_getD, List.getD_eq_getElem?_getD, List.getElem?_eq_getElem (by (first | lia | omega)), List.getElem?_eq_getElem (by (first | lia | omega))] at h
    exact (List.getElem_inj sxl_nodup).mp h
  · rintro rfl; rfl
theorem sx_mem {i : Nat} (hi : i < 50) : sx i ∈ sxl := by
  have hl := sxl_len
  unfold sx
  rw [List.getD_eq_getElem?_getD, List.getElem?_eq_getElem (by (first | lia | omega))]
  exact List.getElem_mem _
theorem an_beq {i j : Nat} (hi : i < 57) (hj : j < 57) : (an i == an j) = (i == j) := by
  rw [Bool.eq_iff_iff, beq_iff_eq, beq_iff_eq, an_inj hi hj]

-- off some places nothing changes
/-- no traceback entry -/
noncomputable def M.nt : M → Bool
  | .tb _ => false
  | _ => true
noncomputable def Off (l : List Addr) (H H' : HM) : Prop := ∀ b m, m.nt = true → b ∉ l → H b = some m → H' b = some m
/-- nothing but, maybe, a traceback entry lies there -/
noncomputable def Fresh (H : HM) (a : Addr) : Prop := ∀ m, m.nt = true → H a ≠ some m
theorem Fresh.of {H : HM} {a : Addr} (h : H a = none) : Fresh H a := fun m _ e => by first | exact (no h e).elim | exact (no e h).elim | obtain rfl := so h e | (rw [h] at e; cases e)
theorem Fresh.back {l : List Addr} {H H' : HM} {a : Addr} (o : Off l H H') (ha : a ∉ l) (h : Fresh H' a) : Fresh H a := fun m hm e => h m hm (o a m hm ha e)
theorem Off.refl (l : List Addr) (H : HM) : Off l H H := fun _ _ _ _ e => e
theorem Off.trans {l : List Addr} {H₁ H₂ H₃ : HM} (x : Off l H₁ H₂) (y : Off l H₂ H₃) : Off l H₁ H₃ := fun b m hm h e => y b m hm h (x b m hm h e)
theorem Off.sub {l l' : List Addr} {H H' : HM} (x : Off l H H') (h : ∀ a ∈ l, a ∈ l') : Off l' H H' := fun b m hm hb e => x b m hm (fun q => hb (h b q)) e
/-- fresh things do not count -/
theorem Off.less {l l' : List Addr} {H H' : HM} (x : Off l H H') (h : ∀ a ∈ l, a ∈ l' ∨ Fresh H a) : Off l' H H' := fun b m hm hb e => x b m hm (fun q => (h b q).elim hb fun z => z m hm e) e
theorem Off.chain {l l' : List Addr} {H H₁ H₂ : HM} (x : Off l H H₁) (y : Off l' H₁ H₂) (h : ∀ a ∈ l', a ∈ l ∨ Fresh H a) : Off l H H₂ := fun b m hm hb e =>
  y b m hm (fun q => (h b q).elim hb fun z => z m hm e) (x b m hm hb e)
theorem Off.wr {l : List Addr} {H : HM} {a : Addr} (m : M) (h : a ∈ l) : Off l H (upd H a m) := fun b m' _ hb e => by
  unfold Mine.upd; rw [if_neg (by rintro rfl; exact hb h)]; exact e
theorem Off.nw {l : List Addr} {H : HM} {a : Addr} (m : M) (h : H a = none) : Off l H (upd H a m) := fun b m' _ hb e => by
  unfold Mine.upd; rw [if_neg (by rintro rfl; rw [h] at e; cases e)]; exact e
theorem upd_self (H : HM) (a : Addr) (m : M) : upd H a m a = some m := by unfold Mine.upd; rw [if_pos rfl]
theorem upd_ne {H : HM} {a b : Addr} {m : M} (h : b ≠ a) : upd H a m b = H b := by unfold Mine.upd; rw [if_neg h]
noncomputable def M.kd : M → Nat
  | .list _ => 0
  | .dictI _ => 1
  | .dictS _ => 2
  | .dictP _ => 3
  | .inst _ _ => 4
  | .attrs _ => 5
  | .set _ _ => 6
  | .exc _ _ _ => 7
  | .tb _ => 8
  | .fixed _ _ => 9
theorem ne_kd {H : HM} {a b : Addr} {m m' : M} (h : H a = some m) (h' : H b = some m') (k : Nat.beq m.kd m'.kd = false) : a ≠ b := fun q => by
  subst q
  have := so h h'
  subst this
  rw [Nat.beq_refl] at k; cases k
theorem mem1 {α : Type} {P : α → Prop} {a : α} (h1 : P a) : ∀ x ∈ [a], P x := fun _ hx => by rw [List.mem_singleton.mp hx]; exact h1
theorem mem2 {α : Type} {P : α → Prop} {a b : α} (h1 : P a) (h2 : P b) : ∀ x ∈ [a, b], P x := fun _ hx => (List.mem_cons.mp hx).elim (fun q => q ▸ h1) (mem1 h2 _)
theorem Off.wr1 {H : HM} {a : Addr} (m : M) : Off [a] H (upd H a m) := Off.wr _ (List.mem_singleton.mpr rfl)
theorem Off.wrA {l : List Addr} {H : HM} {a : Addr} (m : M) : Off (a :: l) H (upd H a m) := Off.wr _ (.head _)
theorem Off.wrB {l : List Addr} {H : HM} {a b : Addr} (m : M) : Off (b :: a :: l) H (upd H a m) := Off.wr _ (.tail _ (.head _))

-- lists that know no thing twice
noncomputable def addL {α : Type} [DecidableEq α] (l : List α) (x : α) : List α := if x ∈ l then l else l ++ [x]
theorem addL_pre {α : Type} [DecidableEq α] (l : List α) (x : α) : l <+: addL l x := by
  unfold addL; split
  · exact List.prefix_refl _
  · exact List.prefix_append _ _
theorem addL_nodup {α : Type} [DecidableEq α] {l : List α} (x : α) (h : l.Nodup) : (addL l x).Nodup := by
  unfold addL; split
  · exact h
  · rename_i q
    exact List.nodup_append.mpr ⟨h, by simp, by rintro a ha b hb rfl; simp at hb; subst hb; exact q ha⟩
theorem addL_mem {α : Type} [DecidableEq α] (l : List α) (x : α) : x ∈ addL l x := by
  unfold addL; split
  · assumption
  · simp
theorem addL_get {α : Type} [DecidableEq α] [BEq α] [LawfulBEq α] (l : List α) (x : α) : (addL l x)[(addL l x).idxOf x]? = some x := by
  have := addL_mem l x
  rw [List.getElem?_eq_getElem (List.idxOf_lt_length_iff.mpr this), List.getElem_idxOf]
theorem addL_same {α : Type} [DecidableEq α] {l : List α} {x : α} (h : x ∈ l) : addL l x = l := by unfold addL; rw [if_pos h]
/-- pigeons -/
theorem nodup_len {α : Type} : ∀ {l m : List α}, l.Nodup → (∀ x ∈ l, x ∈ m) → l.length ≤ m.length
  | [], _, _, _ => by simp
  | a :: l, m, nd, h => by
    obtain ⟨m1, m2, rfl⟩ := List.append_of_mem (h a (.head _))
    have nd' := List.nodup_cons.mp nd
    have := nodup_len (m := m1 ++ m2) nd'.2 fun x hx => by
      have := h x (.tail _ hx)
      simp only [List.mem_append, List.mem_cons] at this ⊢
      rcases this with q | q | q
      · exact .inl q
      · subst q; exact absurd hx nd'.1
      · exact .inr q
    simp only [List.length_cons, List.length_append] at this ⊢
    (first | lia | omega)
theorem pre_get {α : Type} {l m : List α} {i : Nat} {x : α} (h : l <+: m) (e : l[i]? = some x) : m[i]? = some x := by
  obtain ⟨r, rfl⟩ := h
  have hi : i < l.length := by
    rcases Nat.lt_or_ge i l.length with q | q
    · exact q
    · first | exact (no (List.getElem?_eq_none q) e).elim | exact (no e (List.getElem?_eq_none q)).elim | obtain rfl := so (List.getElem?_eq_none q) e | (rw [List.getElem?_eq_none q] at e; cases e)
  rw [List.getElem?_append_left hi]; exact e
theorem get_inj {α : Type} {l : List α} {i j : Nat} {x : α} (nd : l.Nodup) (h1 : l[i]? = some x) (h2 : l[j]? = some x) : i = j := by
  have h : i < l.length := by
    rcases Nat.lt_or_ge i l.length with q | q
    · exact q
    · first | exact (no (List.getElem?_eq_none q) h1).elim | exact (no h1 (List.getElem?_eq_none q)).elim | obtain rfl := so (List.getElem?_eq_none q) h1 | (rw [List.getElem?_eq_none q] at h1; cases h1)
  exact (List.getElem?_inj h nd).mp (h1.trans h2.symm)

-- the symbols
noncomputable def atL (l : List (Nat × V)) : List (Str × V) := l.map fun p => (an p.1, p.2)
structure Sy where
  o : Addr
  d : Addr
  tx : Addr
  an : Addr
  fs : Addr
  fn : Addr
noncomputable def Sy.mut (y : Sy) : List Addr := [y.tx, y.an, y.fs, y.fn]
noncomputable def Sy.all (y : Sy) : List Addr := [y.o, y.d, y.tx, y.an, y.fs, y.fn]
noncomputable abbrev FR := Nat × Nat
noncomputable def frV (p : FR) : V := .tup [.int p.1, .int p.2]
structure SyAt (H : HM) (y : Sy) (A : List Str) (F : List FR) : Prop where
  o : H y.o = some (.inst 154 y.d)
  d : H y.d = some (.attrs (atL [(7, .ref y.tx), (8, .ref y.an), (9, .ref y.fs), (10, .ref y.fn)]))
  tx : H y.tx = some (.list (A.map .str))
  an : H y.an = some (.dictS (A.zipIdx.map fun p => (p.1, .int p.2)))
  fs : H y.fs = some (.list (F.map frV))
  fn : H y.fn = some (.dictP (F.zipIdx.map fun p => ((p.1.1, p.1.2), .int p.2)))
  nd : y.all.Nodup
structure SyOk (A : List Str) (F : List FR) : Prop where
  a : A.Nodup
  asub : ∀ x ∈ A, x ∈ sxl
  f : F.Nodup
  fsub : ∀ p ∈ F, p.1 < A.length ∧ p.2 ≤ 8
theorem SyOk.alen {A : List Str} {F : List FR} (h : SyOk A F) : A.length ≤ 50 := by
  have := nodup_len h.a h.asub
  rwa [sxl_len] at this
theorem SyOk.flen {A : List Str} {F : List FR} (h : SyOk A F) : F.length ≤ 450 := by
  have ha := h.alen
  let U : List FR := (List.range 450).map fun i => (i / 9, i % 9)
  have : F.length ≤ U.length := nodup_len h.f fun p hp => by
    obtain ⟨h1, h2⟩ := h.fsub p hp
    refine List.mem_map.mpr ⟨9 * p.1 + p.2, List.mem_range.mpr (by (first | lia | omega)), ?_⟩
    rw [show (9 * p.1 + p.2) / 9 = p.1 by (first | lia | omega), show (9 * p.1 + p.2) % 9 = p.2 by (first | lia | omega)]
  simpa [U] using this
theorem SyAt.off {H H' : HM} {y : Sy} {A : List Str} {F : List FR} {l : List Addr} (s : SyAt H y A F) (o : Off l H H') (hd : ∀ a ∈ y.all, a ∉ l) : SyAt H' y A F where
  o := o _ _ rfl (hd _ (by simp [Sy.all])) s.o
  d := o _ _ rfl (hd _ (by simp [Sy.all])) s.d
  tx := o _ _ rfl (hd _ (by simp [Sy.all])) s.tx
  an := o _ _ rfl (hd _ (by simp [Sy.all])) s.an
  fs := o _ _ rfl (hd _ (by simp [Sy.all])) s.fs
  fn := o _ _ rfl (hd _ (by simp [Sy.all])) s.fn
  nd := s.nd
theorem SyAt.upA {H : HM} {y : Sy} {A : List Str} {F : List FR} (s : SyAt H y A F) (A' : List Str) : SyAt (upd (upd H y.tx (.list (A'.map .str))) y.an (.dictS (A'.zipIdx.map fun p => (p.1, .int p.2)))) y A' F := by
  have nd := s.nd
  simp only [Sy.all, List.nodup_cons, List.mem_cons, List.mem_nil_iff, or_false, not_or, List.nodup_nil, and_true, not_false_iff] at nd
  obtain ⟨⟨n1, n2, n3, n4, n5⟩, ⟨n6, n7, n8, n9⟩, ⟨n10, n11, n12⟩, ⟨n13, n14⟩, n15⟩ := nd
  constructor
  · rw [upd_ne n3, upd_ne n2]; exact s.o
  · rw [upd_ne n7, upd_ne n6]; exact s.d
  · rw [upd_ne n10, upd_self]
  · rw [upd_self]
  · rw [upd_ne (Ne.symm n13), upd_ne (Ne.symm n11)]; exact s.fs
  · rw [upd_ne (Ne.symm n14), upd_ne (Ne.symm n12)]; exact s.fn
  · exact s.nd
theorem SyAt.upF {H : HM} {y : Sy} {A : List Str} {F : List FR} (s : SyAt H y A F) (F' : List FR) : SyAt (upd (upd H y.fs (.list (F'.map frV))) y.fn (.dictP (F'.zipIdx.map fun p => ((p.1.1, p.1.2), .int p.2)))) y A F' := by
  have nd := s.nd
  simp only [Sy.all, List.nodup_cons, List.mem_cons, List.mem_nil_iff, or_false, not_or, List.nodup_nil, and_true, not_false_iff] at nd
  obtain ⟨⟨n1, n2, n3, n4, n5⟩, ⟨n6, n7, n8, n9⟩, ⟨n10, n11, n12⟩, ⟨n13, n14⟩, n15⟩ := nd
  constructor
  · rw [upd_ne n5, upd_ne n4]; exact s.o
  · rw [upd_ne n9, upd_ne n8]; exact s.d
  · rw [upd_ne n12, upd_ne n11]; exact s.tx
  · rw [upd_ne n14, upd_ne n13]; exact s.an
  · rw [upd_ne n15, upd_self]
  · rw [upd_self]
  · exact s.nd
-- what the tables of names say
theorem lookup_zip {α : Type} [DecidableEq α] {β : Type} (f : Nat → β) : ∀ (l : List α) (n : Nat) (x : α), ((l.zipIdx n).map fun p => (p.1, f p.2)).lookup x = if x ∈ l then some (f (n + l.idxOf x)) else none
  | [], _, _ => rfl
  | a :: l, n, x => by
    rw [List.zipIdx_cons, List.map_cons, List.lookup_cons]
    by_cases e : x = a
    · subst e; simp
    · have hb : (x == a) = false := beq_eq_false_iff_ne.mpr e
      rw [hb]
      dsimp only
      rw [lookup_zip f l (n + 1) x]
      simp only [List.mem_cons, e, false_or]
      split
      · rw [List.idxOf_cons, show (a == x) = false from beq_eq_false_iff_ne.mpr (Ne.symm e)]
        congr 2
        simp only [cond_false]; (first | lia | omega)
      · rfl
end Mine

namespace Mine
open PySem PySem.Calls PySem.Spec PyProof.Rows PySem.W

-- attributes by number
noncomputable def okA (l : List (Nat × V)) : Bool := l.all fun p => Nat.blt p.1 57
noncomputable def putN : List (Nat × V) → Nat → V → List (Nat × V)
  | [], i, y => [(i, y)]
  | p :: r, i, y => if p.1 = i then (i, y) :: r else p :: putN r i y
theorem lt57 {i : Nat} (h : Nat.blt i 57 = true) : i < 57 := Nat.le_of_ble_eq_true h
theorem atL_lookup : ∀ {l : List (Nat × V)} {i : Nat}, okA l = true → i < 57 → (atL l).lookup (an i) = l.lookup i
  | [], _, _, _ => rfl
  | (j, v) :: l, i, h, hi => by
    simp only [okA, List.all_cons, Bool.and_eq_true] at h
    have hj : j < 57 := lt57 h.1
    show ((an j, v) :: atL l).lookup (an i) = _
    rw [List.lookup_cons, List.lookup_cons, an_beq hi hj, atL_lookup h.2 hi]
theorem putA_atL : ∀ {l : List (Nat × V)} {i : Nat} {y : V}, okA l = true → i < 57 → putA (atL l) (an i) y = atL (putN l i y)
  | [], _, _, _, _ => rfl
  | (j, v) :: l, i, y, h, hi => by
    simp only [okA, List.all_cons, Bool.and_eq_true] at h
    have hj : j < 57 := lt57 h.1
    show putA ((an j, v) :: atL l) (an i) y = _
    unfold putA putN
    simp only [an_inj hj hi]
    by_cases e : j = i
    · simp [e, atL]
    · simp only [e, if_false]; rw [putA_atL h.2 hi]; rfl
noncomputable def methN (C i : Nat) : Option Nat := (methL.find? fun p => p.1.1 == C && p.1.2 == i).map (·.2)
theorem meth_ok {K : Frag} {C i f : Nat} (hi : i < 57) (h : methN C i = some f) : (tab K).meth C (an i) = some f := by
  rw [← h]
  show (methL.find? fun p => p.1.1 == C && an p.1.2 == an i).map (·.2) = _
  unfold methN
  congr 1
  have : ∀ p ∈ methL, p.1.2 < 57 := by decide
  revert this
  generalize methL = l
  intro hl
  induction l with
  | nil => rfl
  | cons p l ih =>
    rw [List.find?_cons, List.find?_cons, an_beq (hl p (.head _)) hi, ih fun q hq => hl q (.tail _ hq)]
theorem atL_get {l : List (Nat × V)} {i : Nat} {o : Option V} (ho : okA l = true) (hi : Nat.blt i 57 = true) (hv : l.lookup i = o) : (atL l).lookup (an i) = o := (atL_lookup ho (lt57 hi)).trans hv
theorem attr_any {l : List (Nat × Nat)} {C i : Nat} (ht : l.contains (C, i) = true) : (l.any fun p => p.1 == C && an p.2 == an i) = true := List.any_eq_true.mpr ⟨(C, i), List.contains_iff_mem.mp ht, by simp⟩
theorem gA_ok {K : Frag} {a d : Addr} {C i : Nat} {l : List (Nat × V)} {v : V} {H : HM} {Q : QV} (ha : H a = some (.inst C d)) (hd : H d = some (.attrs (atL l))) (ho : okA l = true) (hi : Nat.blt i 57 = true) (ht : attrL.contains (C, i) = true) (hv : l.lookup i = some v) (hp : v.noPrim = true) (q : Q v H) : getA (tab K) (.ref a) (an i) H Q :=
  ⟨a, C, d, _, v, rfl, ha, attr_any ht, hd, atL_get ho hi hv, hp, q⟩
theorem sA_ok {K : Frag} {a d : Addr} {C i : Nat} {l : List (Nat × V)} {y : V} {H : HM} {Q : HM → Prop} (ha : H a = some (.inst C d)) (hd : H d = some (.attrs (atL l))) (ho : okA l = true) (hi : Nat.blt i 57 = true) (ht : setaL.contains (C, i) = true) (hl : Nat.ble l.length 400 = true) (q : Q (upd H d (.attrs (atL (putN l i y))))) : sA (tab K) (.ref a) (an i) y H Q :=
  .inl ⟨a, C, d, _, rfl, ha, attr_any ht, hd, by rw [atL, List.length_map]; exact Nat.le_of_ble_eq_true hl, by rw [putA_atL ho (lt57 hi)]; exact q⟩
theorem gM_ok {K : Frag} {a d : Addr} {C i f : Nat} {l : List (Nat × V)} {H : HM} {P : Value → List V → HM → Prop} (ha : H a = some (.inst C d)) (hd : H d = some (.attrs (atL l))) (ho : okA l = true) (hi : Nat.blt i 57 = true) (hm : methN C i = some f) (hv : l.lookup i = none) (q : P (.ref f) [.ref a] H) : gmI (tab K) (an i) (.ref a) H P :=
  ⟨a, C, d, f, _, rfl, ha, hd, meth_ok (lt57 hi) hm, atL_get ho hi hv, q⟩
-- rules
section
variable {prog : Program} {T : Tab} {H : HM} {n : Nat} {X : Addr → HM → Prop} {lo : Lo}
section
variable {Q : QV}
theorem w_const {v : V} (h : Q v H) : wpE prog T n X (.const v) lo H Q := h
theorem w_var {i : Nat} {v : V} (h : lo i = some v) (q : Q v H) : wpE prog T n X (.var i) lo H Q := ⟨v, h, q⟩
theorem w_tup {es : Es} (h : wpL prog T n X es lo H fun xs H1 => xs.length ≤ 1000 ∧ Q (.tup xs) H1) : wpE prog T n X (.tup es) lo H Q := h
theorem w_list {es : Es} (h : wpL prog T n X es lo H fun xs H1 => xs.length ≤ 1000 ∧ ∀ a, H1 a = none → Q (.ref a) (upd H1 a (.list xs))) : wpE prog T n X (.list es) lo H Q := h
theorem w_attr {e : E} {nm : Nat} (h : wpE prog T n X e lo H fun x H1 => getA T x (an nm) H1 Q) : wpE prog T n X (.attr e nm) lo H Q := h
theorem w_call {f : Addr} {es : Es} (h : wpL prog T n X es lo H fun xs H1 => CWX prog T n X (.ref f) xs H1 Q) : wpE prog T n X (.call f es) lo H Q := h
theorem w_bcall {b : BI} {es : Es} (h : wpL prog T n X es lo H fun xs H1 => bQ b xs H1 Q) : wpE prog T n X (.bcall b es) lo H Q := h
theorem w_meth {e : E} {nm : Nat} {es : Es} (h : wpE prog T n X e lo H fun x H1 => gmI T (an nm) x H1 fun f fs H2 => wpL prog T n X es lo H2 fun xs H3 => CWX prog T n X f (fs ++ xs) H3 Q) : wpE prog T n X (.meth e nm es) lo H Q := h
theorem w_append {e x : E} (h : wpE prog T n X e lo H fun a H1 => ∃ d l0, a = .ref d ∧ H1 d = some (.list l0) ∧ wpE prog T n X x lo H1 fun y H2 => ∃ l, H2 d = some (.list l) ∧ l.length ≤ 1000000 ∧ Q .none (upd H2 d (.list (l ++ [y])))) : wpE prog T n X (.append e x) lo H Q := h
theorem w_pop {e : E} (h : wpE prog T n X e lo H fun a H1 => ∃ d l y, a = .ref d ∧ H1 d = some (.list (l ++ [y])) ∧ l.length ≤ 1000000 ∧ Q y (upd H1 d (.list l))) : wpE prog T n X (.pop e) lo H Q := h
theorem w_getS {e k d : E} {m : Addr} {l : List (Str × V)} {x : Str} {dv : V} (he : ∀ P : QV, P (.ref m) H → wpE prog T n X e lo H P) (hm : H m = some (.dictS l)) (hk : ∀ P : QV, P (.str x) H → wpE prog T n X k lo H P) (hd : ∀ P : QV, P dv H → wpE prog T n X d lo H P) (q : Q ((l.lookup x).getD dv) H) : wpE prog T n X (.get e k d) lo H Q := by
  exact he _ ⟨m, rfl, .inl ⟨l, hm, hk _ (hd _ ⟨x, rfl, hm, q⟩)⟩⟩
theorem w_getP {e k d : E} {m : Addr} {l : List ((Int × Int) × V)} {i j : Int} {dv : V} (he : ∀ P : QV, P (.ref m) H → wpE prog T n X e lo H P) (hm : H m = some (.dictP l)) (hk : ∀ P : QV, P (.tup [.int i, .int j]) H → wpE prog T n X k lo H P) (hd : ∀ P : QV, P dv H → wpE prog T n X d lo H P) (q : Q ((l.lookup (i, j)).getD dv) H) : wpE prog T n X (.get e k d) lo H Q := by
  exact he _ ⟨m, rfl, .inr ⟨l, hm, hk _ (hd _ ⟨i, j, rfl, hm, q⟩)⟩⟩
theorem w_add {e x : E} (h : wpE prog T n X e lo H fun a H1 => ∃ d S0 m0, a = .ref d ∧ H1 d = some (.set S0 m0) ∧ wpE prog T n X x lo H1 fun y H2 => ∃ S m i, y = .int i ∧ H2 d = some (.set S m) ∧ m ≤ 4000 ∧ Q .none (upd H2 d (.set (fun j => S j || decide (j = i)) (if S i = true then m else m + 1)))) : wpE prog T n X (.add e x) lo H Q := h
theorem w_bin {op : Operator} {l r : E} (h : wpE prog T n X l lo H fun x H1 => wpE prog T n X r lo H1 fun y H2 => ∃ i j, x = .int i ∧ y = .int j ∧ binV op i j fun m => Q (.int m) H2) : wpE prog T n X (.bin op l r) lo H Q := h
theorem w_cmp {op : CmpOp} {l r : E} (h : wpE prog T n X l lo H fun x H1 => wpE prog T n X r lo H1 fun y H2 => cmpV op x y H2 fun b => Q (.bool b) H2) : wpE prog T n X (.cmp op l r) lo H Q := h
theorem w_and {l r : E} (h : wpE prog T n X l lo H fun x H1 => ∃ b, x = .bool b ∧ if b = true then wpE prog T n X r lo H1 Q else Q (.bool false) H1) : wpE prog T n X (.and l r) lo H Q := h
theorem w_or {l r : E} (h : wpE prog T n X l lo H fun x H1 => ∃ b, x = .bool b ∧ if b = true then Q (.bool true) H1 else wpE prog T n X r lo H1 Q) : wpE prog T n X (.or l r) lo H Q := h
theorem w_ite {t a b : E} (h : wpB prog T n X t lo H fun c H1 => if c = true then wpE prog T n X a lo H1 Q else wpE prog T n X b lo H1 Q) : wpE prog T n X (.ite t a b) lo H Q := h
theorem w_neg {e : E} (h : wpE prog T n X e lo H fun x H1 => ∃ i, x = .int i ∧ Q (.int (-i)) H1) : wpE prog T n X (.neg e) lo H Q := h
theorem w_sub {e i : E} (h : wpE prog T n X e lo H fun x H1 => wpE prog T n X i lo H1 fun y H2 => subV x y H2 fun z => Q z H2) : wpE prog T n X (.sub e i) lo H Q := h
theorem w_lnil {Q : List V → HM → Prop} (h : Q [] H) : wpL prog T n X .nil lo H Q := h
theorem w_lcons {Q : List V → HM → Prop} {e : E} {es : Es} (h : wpE prog T n X e lo H fun x H1 => wpL prog T n X es lo H1 fun xs H2 => Q (x :: xs) H2) : wpL prog T n X (.cons e es) lo H Q := h
theorem w_bcmp {Q : Bool → HM → Prop} {op : CmpOp} {l r : E} (h : wpE prog T n X l lo H fun x H1 => wpE prog T n X r lo H1 fun y H2 => cmpV op x y H2 fun b => Q b H2) : wpB prog T n X (.cmp op l r) lo H Q := h
theorem w_band {Q : Bool → HM → Prop} {l r : E} (h : wpB prog T n X l lo H fun b H1 => if b = true then wpB prog T n X r lo H1 Q else Q false H1) : wpB prog T n X (.and l r) lo H Q := h
theorem w_bor {Q : Bool → HM → Prop} {l r : E} (h : wpB prog T n X l lo H fun b H1 => if b = true then Q true H1 else wpB prog T n X r lo H1 Q) : wpB prog T n X (.or l r) lo H Q := h
theorem w_bnot {Q : Bool → HM → Prop} {e : E} (h : wpB prog T n X e lo H fun b H1 => Q (!b) H1) : wpB prog T n X (.not e) lo H Q := h
theorem w_bconst {Q : Bool → HM → Prop} {b : Bool} (h : Q b H) : wpB prog T n X (.const (.bool b)) lo H Q := ⟨b, rfl, h⟩
theorem w_bcallB {Q : Bool → HM → Prop} {f : Addr} {es : Es} (h : wpL prog T n X es lo H fun xs H1 => CWX prog T n X (.ref f) xs H1 fun r H2 => ∃ b, r = .bool b ∧ Q b H2) : wpB prog T n X (.call f es) lo H Q := h
theorem w_bbcall {Q : Bool → HM → Prop} {b : BI} {es : Es} (h : wpL prog T n X es lo H fun xs H1 => bQ b xs H1 fun r H2 => ∃ b, r = .bool b ∧ Q b H2) : wpB prog T n X (.bcall b es) lo H Q := h
theorem w_bmeth {Q : Bool → HM → Prop} {e : E} {nm : Nat} {es : Es} (h : wpE prog T n X e lo H fun x H1 => gmI T (an nm) x H1 fun f fs H2 => wpL prog T n X es lo H2 fun xs H3 => CWX prog T n X f (fs ++ xs) H3 fun r H4 => ∃ b, r = .bool b ∧ Q b H4) : wpB prog T n X (.meth e nm es) lo H Q := h
theorem w_iseq {Q : List V → (HM → Prop) → HM → Prop} {e : E} (h : wpE prog T n X e lo H fun x H1 => SeqSrc x H1 fun l fix => Q l fix H1) : wpI prog T n X (.seq e) lo H Q := h
theorem w_irange {Q : List V → (HM → Prop) → HM → Prop} {es : Es} (h : wpL prog T n X es lo H fun xs H1 => rangeArgs xs fun items => Q items (fun _ => True) H1) : wpI prog T n X (.range es) lo H Q := h
end
variable {Q : QS}
noncomputable def seqQ (prog : Program) (T : Tab) (n : Nat) (X : Addr → HM → Prop) (ss : Ss) (Q : QS) : QS := fun f lo1 H1 => match f with
  | .next => wpSs prog T n X ss lo1 H1 Q
  | f => Q f lo1 H1
theorem w_nil (h : Q .next lo H) : wpSs prog T n X .nil lo H Q := h
theorem w_cons {s : S} {ss : Ss} (h : wpS prog T n X s lo H (seqQ prog T n X ss Q)) : wpSs prog T n X (.cons s ss) lo H Q := h
theorem q_next {ss : Ss} (h : wpSs prog T n X ss lo H Q) : seqQ prog T n X ss Q .next lo H := h
theorem q_ret {ss : Ss} {v : V} (h : Q (.ret v) lo H) : seqQ prog T n X ss Q (.ret v) lo H := h
theorem q_cont {ss : Ss} (h : Q .cont lo H) : seqQ prog T n X ss Q .cont lo H := h
theorem w_asgn {x : Nat} {e : E} (h : wpE prog T n X e lo H fun v H1 => Q .next (upN lo x v) H1) : wpS prog T n X (.asgn x e) lo H Q := h
theorem w_asgnA {o e : E} {nm : Nat} (h : wpE prog T n X e lo H fun v H1 => wpE prog T n X o lo H1 fun x H2 => sA T x (an nm) v H2 fun H3 => Q .next lo H3) : wpS prog T n X (.asgnA o nm e) lo H Q := h
theorem w_asgnS {o i e : E} (h : wpE prog T n X e lo H fun v H1 => wpE prog T n X o lo H1 fun x H2 => wpE prog T n X i lo H2 fun y H3 => setV x y v H3 fun H4 => Q .next lo H4) : wpS prog T n X (.asgnS o i e) lo H Q := h
theorem w_unpack {x y : Nat} {e : E} (h : wpE prog T n X e lo H fun v H1 => ∃ a b, v = .tup [a, b] ∧ Q .next (upN (upN lo x a) y b) H1) : wpS prog T n X (.unpack x y e) lo H Q := h
theorem w_augN {x : Nat} {e : E} {i : Int} (hi : lo x = some (.int i)) (h : wpE prog T n X e lo H fun v H1 => ∃ j, v = .int j ∧ Q .next (upN lo x (.int (i + j))) H1) : wpS prog T n X (.augN x e) lo H Q := ⟨i, hi, h⟩
theorem w_augS {o i e : E} (h : wpE prog T n X o lo H fun x H1 => wpE prog T n X i lo H1 fun y H2 => ∃ a l j m, x = .ref a ∧ H2 a = some (.list l) ∧ y = .int j ∧ 0 ≤ j ∧ j < 1000000 ∧ l[j.toNat]? = some (.int m) ∧ wpE prog T n X e lo H2 fun z H3 => ∃ d, z = .int d ∧ setV (.ref a) (.int j) (.int (m + d)) H3 fun H4 => Q .next lo H4) : wpS prog T n X (.augS o i e) lo H Q := h
theorem w_ret {e : E} (h : wpE prog T n X e lo H fun v H1 => Q (.ret v) lo H1) : wpS prog T n X (.ret e) lo H Q := h
theorem w_ret0 (h : Q (.ret .none) lo H) : wpS prog T n X .ret0 lo H Q := h
theorem w_expr {e : E} (h : wpE prog T n X e lo H fun _ H1 => Q .next lo H1) : wpS prog T n X (.expr e) lo H Q := h
theorem w_cont (h : Q .cont lo H) : wpS prog T n X .cont lo H Q := h
theorem w_if {t : E} {a b : Ss} (h : wpB prog T n X t lo H fun c H1 => if c = true then wpSs prog T n X a lo H1 Q else wpSs prog T n X b lo H1 Q) : wpS prog T n X (.ite t a b) lo H Q := h
theorem w_loop {x : Nat} {it : It} {b : Ss} (h : wpI prog T n X it lo H fun items fix H1 => ∃ J : Nat → Lo → HM → Prop, J 0 lo H1 ∧ (∀ i lo H, J i lo H → fix H) ∧
      (∀ i y lo H, J i lo H → items[i]? = some y → wpSs prog T n X b (upN lo x y) H fun f lo2 H2 => match f with
        | .next | .cont => J (i + 1) lo2 H2
        | .brk => Q .next lo2 H2
        | .ret v => Q (.ret v) lo2 H2) ∧
      (∀ lo H, J items.length lo H → Q .next lo H)) : wpS prog T n X (.loop x it b) lo H Q := h
theorem w_whl {t : E} {b : Ss} (h : ∃ I : Nat → Lo → HM → Prop, (∃ m, I m lo H) ∧ ∀ m lo H, I m lo H → wpB prog T n X t lo H fun c H1 =>
      if c = true then wpSs prog T n X b lo H1 fun f lo2 H2 => match f with
        | .next | .cont => ∃ m', m' < m ∧ I m' lo2 H2
        | .brk => Q .next lo2 H2
        | .ret v => Q (.ret v) lo2 H2
      else Q .next lo H1) : wpS prog T n X (.whl t b) lo H Q := h
theorem w_delF {e i : E} (h : wpE prog T n X e lo H fun x H1 => wpE prog T n X i lo H1 fun y H2 => ∃ l xs b, x = .ref l ∧ H2 l = some (.list xs) ∧ xs.length ≤ 1000000 ∧ y = .int b ∧ 0 ≤ b ∧ b ≤ xs.length ∧ Q .next lo (upd H2 l (.list (xs.take b.toNat)))) : wpS prog T n X (.delF e i) lo H Q := h
theorem w_asgnC {z x : Nat} {fr : List Nat} {it : It} {test : Option'} {elt : E} (h : wpE prog T n X (.comp x fr it test elt) lo H fun v H1 => Q .next (upN lo z v) H1) : wpS prog T n X (.asgnC z x fr it test elt) lo H Q := h
theorem w_raise {e : E} (h : wpE prog T n X e lo H fun x H1 => ∃ a d, x = .ref a ∧ H1 a = some (.exc T.exc d none) ∧ X a H1) : wpS prog T n X (.raise e) lo H Q := h
/-- a branch -/
theorem b_if {b : Bool} {P R : Prop} (ht : b = true → P) (hf : b = false → R) : if b = true then P else R := by
  cases b with
  | true => rw [if_pos rfl]; exact ht rfl
  | false => rw [if_neg (by decide)]; exact hf rfl
theorem b_ifd {p : Prop} [Decidable p] {P R : Prop} (ht : p → P) (hf : ¬ p → R) : if decide p = true then P else R := by
  by_cases h : p
  · rw [if_pos (decide_eq_true h)]; exact ht h
  · rw [if_neg (by simpa using h)]; exact hf h
end
theorem v_ble {n m : Nat} (h : true = Nat.ble n m) : Nat.ble n m = true := h.symm
theorem bi2 {i j : Int} {P : Int → Int → Prop} (q : P i j) : ∃ i' j', V.int i = .int i' ∧ V.int j = .int j' ∧ P i' j' := ⟨_, _, rfl, rfl, q⟩
theorem ap1 {H : HM} {d : Addr} {l0 : List V} {P : Addr → Prop} (h : H d = some (.list l0)) (q : P d) : ∃ d' l0', V.ref d = .ref d' ∧ H d' = some (.list l0') ∧ P d' := ⟨_, _, rfl, h, q⟩
theorem ap2 {H : HM} {d : Addr} {l : List V} {P : List V → Prop} (h : H d = some (.list l)) (hl : l.length ≤ 1000000) (q : P l) : ∃ l, H d = some (.list l) ∧ l.length ≤ 1000000 ∧ P l := ⟨_, h, hl, q⟩
theorem ex1 {α β : Type} {f : α → β} {a : α} {P : α → Prop} (q : P a) : ∃ a', f a = f a' ∧ P a' := ⟨_, rfl, q⟩
theorem t_ok {n : Nat} {P : Prop} (h : Nat.ble n 1000 = true) (q : P) : n ≤ 1000 ∧ P := ⟨Nat.le_of_ble_eq_true h, q⟩
-- operands that are variables or constants: told without what follows
inductive Vl (lo : Lo) : E → V → Prop
  | var {i : Nat} {v : V} (h : lo i = some v) : Vl lo (.var i) v
  | const {v : V} : Vl lo (.const v) v
inductive VlL (lo : Lo) : Es → List V → Prop
  | nil : VlL lo .nil []
  | cons {e : E} {es : Es} {x : V} {xs : List V} (h : Vl lo e x) (t : VlL lo es xs) : VlL lo (.cons e es) (x :: xs)
/-- an attribute that reads plainly -/
inductive GetA (H : HM) (a : Addr) (i : Nat) (v : V) : Prop
  | ga {C d : Addr} {l : List (Nat × V)} (ha : H a = some (.inst C d)) (hd : H d = some (.attrs (atL l))) (ho : okA l = true) (hi : Nat.blt i 57 = true) (ht : attrL.contains (C, i) = true) (hv : l.lookup i = some v) (hp : v.noPrim = true) : GetA H a i v
inductive GetM (H : HM) (a : Addr) (i f : Nat) : Prop
  | gm {C d : Addr} {l : List (Nat × V)} (ha : H a = some (.inst C d)) (hd : H d = some (.attrs (atL l))) (ho : okA l = true) (hi : Nat.blt i 57 = true) (hm : methN C i = some f) (hv : l.lookup i = none) : GetM H a i f
theorem v_var {lo : Lo} {i : Nat} {v : V} (h : lo i = some v) : Vl lo (.var i) v := .var h
theorem v_const {lo : Lo} {v : V} : Vl lo (.const v) v := .const
theorem v_nil {lo : Lo} : VlL lo .nil [] := .nil
theorem v_cons {lo : Lo} {e : E} {es : Es} {x : V} {xs : List V} (h : Vl lo e x) (t : VlL lo es xs) : VlL lo (.cons e es) (x :: xs) := .cons h t
theorem v_ga {H : HM} {a C d : Addr} {i : Nat} {v : V} {l : List (Nat × V)} (ha : H a = some (.inst C d)) (hd : H d = some (.attrs (atL l))) (ho : okA l = true) (hi : Nat.blt i 57 = true) (ht : attrL.contains (C, i) = true) (hv : l.lookup i = some v) (hp : v.noPrim = true) : GetA H a i v := .ga ha hd ho hi ht hv hp
theorem v_gm {H : HM} {a C d : Addr} {i f : Nat} {l : List (Nat × V)} (ha : H a = some (.inst C d)) (hd : H d = some (.attrs (atL l))) (ho : okA l = true) (hi : Nat.blt i 57 = true) (hm : methN C i = some f) (hv : l.lookup i = none) : GetM H a i f := .gm ha hd ho hi hm hv
theorem v_vl {lo : Lo} {e : E} {v : V} (h : Vl lo e v) : Vl lo e v := h
theorem v_vll {lo : Lo} {e : Es} {v : List V} (h : VlL lo e v) : VlL lo e v := h
theorem v_gga {H : HM} {a : Addr} {i : Nat} {v : V} (h : GetA H a i v) : GetA H a i v := h
theorem v_ggm {H : HM} {a : Addr} {i f : Nat} (h : GetM H a i f) : GetM H a i f := h
section
variable {prog : Program} {T : Tab} {H : HM} {n : Nat} {X : Addr → HM → Prop} {lo : Lo}
theorem v_e {Q : QV} {e : E} {v : V} (h : Vl lo e v) (q : Q v H) : wpE prog T n X e lo H Q := by
  induction h with
  | var h => exact ⟨_, h, q⟩
  | const => exact q
theorem v_l {es : Es} {xs : List V} (h : VlL lo es xs) : ∀ {Q : List V → HM → Prop}, Q xs H → wpL prog T n X es lo H Q := by
  induction h with
  | nil => exact fun q => q
  | cons h _ ih => exact fun q => v_e h (ih q)
section
variable {Q : QV} {e i l r : E} {x y c : V} {es : Es} {xs : List V} {QB : Bool → HM → Prop} {op : CmpOp}
theorem v_sub (hx : Vl lo e x) (hy : Vl lo i y) (q : subV x y H fun z => Q z H) : wpE prog T n X (.sub e i) lo H Q := w_sub (v_e hx (v_e hy q))
theorem v_subC (h : wpE prog T n X e lo H fun x H1 => subV x c H1 fun z => Q z H1) : wpE prog T n X (.sub e (.const c)) lo H Q := h
theorem v_bin {o : Operator} (hx : Vl lo l x) (hy : Vl lo r y) (q : ∃ i j, x = .int i ∧ y = .int j ∧ binV o i j fun m => Q (.int m) H) : wpE prog T n X (.bin o l r) lo H Q := w_bin (v_e hx (v_e hy q))
theorem v_binC {o : Operator} (h : wpE prog T n X l lo H fun x H1 => ∃ i j, x = .int i ∧ c = .int j ∧ binV o i j fun m => Q (.int m) H1) : wpE prog T n X (.bin o l (.const c)) lo H Q := h
theorem v_cmp (hx : Vl lo l x) (hy : Vl lo r y) (q : cmpV op x y H fun b => Q (.bool b) H) : wpE prog T n X (.cmp op l r) lo H Q := w_cmp (v_e hx (v_e hy q))
theorem v_bcmp (hx : Vl lo l x) (hy : Vl lo r y) (q : cmpV op x y H fun b => QB b H) : wpB prog T n X (.cmp op l r) lo H QB := w_bcmp (v_e hx (v_e hy q))
theorem v_bcmpC (h : wpE prog T n X l lo H fun x H1 => cmpV op x c H1 fun b => QB b H1) : wpB prog T n X (.cmp op l (.const c)) lo H QB := h
theorem v_attr {nm : Nat} (hx : Vl lo e x) (q : getA T x (an nm) H Q) : wpE prog T n X (.attr e nm) lo H Q := w_attr (v_e hx q)
theorem v_tup (h : VlL lo es xs) (hl : Nat.ble xs.length 1000 = true) (q : Q (.tup xs) H) : wpE prog T n X (.tup es) lo H Q := w_tup (v_l h ⟨Nat.le_of_ble_eq_true hl, q⟩)
theorem v_list (h : VlL lo es xs) (hl : Nat.ble xs.length 1000 = true) (q : ∀ a, H a = none → Q (.ref a) (upd H a (.list xs))) : wpE prog T n X (.list es) lo H Q := w_list (v_l h ⟨Nat.le_of_ble_eq_true hl, q⟩)
theorem v_call {f : Addr} (h : VlL lo es xs) (q : CWX prog T n X (.ref f) xs H Q) : wpE prog T n X (.call f es) lo H Q := w_call (v_l h q)
theorem v_bcall {b : BI} (h : VlL lo es xs) (q : bQ b xs H Q) : wpE prog T n X (.bcall b es) lo H Q := w_bcall (v_l h q)
theorem v_meth {nm : Nat} (hx : Vl lo e x) (q : gmI T (an nm) x H fun f fs H2 => wpL prog T n X es lo H2 fun xs H3 => CWX prog T n X f (fs ++ xs) H3 Q) : wpE prog T n X (.meth e nm es) lo H Q := w_meth (v_e hx q)
theorem v_append (hx : Vl lo e x) (q : ∃ d l0, x = .ref d ∧ H d = some (.list l0) ∧ wpE prog T n X i lo H fun y H2 => ∃ l, H2 d = some (.list l) ∧ l.length ≤ 1000000 ∧ Q .none (upd H2 d (.list (l ++ [y])))) : wpE prog T n X (.append e i) lo H Q := w_append (v_e hx q)
theorem v_neg (hx : Vl lo e x) (q : ∃ i, x = .int i ∧ Q (.int (-i)) H) : wpE prog T n X (.neg e) lo H Q := w_neg (v_e hx q)
theorem v_iseq {Q : List V → (HM → Prop) → HM → Prop} (hx : Vl lo e x) (q : SeqSrc x H fun l fix => Q l fix H) : wpI prog T n X (.seq e) lo H Q := w_iseq (v_e hx q)
theorem v_lL {Q : List V → HM → Prop} (hx : Vl lo e x) (h : wpL prog T n X es lo H fun xs H1 => Q (x :: xs) H1) : wpL prog T n X (.cons e es) lo H Q := w_lcons (v_e hx h)
theorem v_subL (hx : Vl lo e x) (h : wpE prog T n X i lo H fun y H2 => subV x y H2 fun z => Q z H2) : wpE prog T n X (.sub e i) lo H Q := w_sub (v_e hx h)
theorem v_binL {o : Operator} (hx : Vl lo l x) (h : wpE prog T n X r lo H fun y H2 => ∃ i j, x = .int i ∧ y = .int j ∧ binV o i j fun m => Q (.int m) H2) : wpE prog T n X (.bin o l r) lo H Q := w_bin (v_e hx h)
theorem v_cmpL (hx : Vl lo l x) (h : wpE prog T n X r lo H fun y H2 => cmpV op x y H2 fun b => Q (.bool b) H2) : wpE prog T n X (.cmp op l r) lo H Q := w_cmp (v_e hx h)
theorem v_bcmpL (hx : Vl lo l x) (h : wpE prog T n X r lo H fun y H2 => cmpV op x y H2 fun b => QB b H2) : wpB prog T n X (.cmp op l r) lo H QB := w_bcmp (v_e hx h)
theorem v_l1 {Q : List V → HM → Prop} (h : wpE prog T n X e lo H fun x H1 => Q [x] H1) : wpL prog T n X (.cons e .nil) lo H Q := h
end
section
variable {Q : QS} {ss : Ss} {e : E} {v : V}
theorem c_ret (hx : Vl lo e v) (q : Q (.ret v) lo H) : wpSs prog T n X (.cons (.ret e) ss) lo H Q := w_cons (w_ret (v_e hx (q_ret q)))
theorem c_retE (h : wpE prog T n X e lo H fun v H1 => Q (.ret v) lo H1) : wpSs prog T n X (.cons (.ret e) ss) lo H Q := h
theorem c_asgnV {x : Nat} (hx : Vl lo e v) (q : seqQ prog T n X ss Q .next (upN lo x v) H) : wpSs prog T n X (.cons (.asgn x e) ss) lo H Q := w_cons (w_asgn (v_e hx q))
theorem c_asgn {x : Nat} (h : wpE prog T n X e lo H fun v H1 => seqQ prog T n X ss Q .next (upN lo x v) H1) : wpSs prog T n X (.cons (.asgn x e) ss) lo H Q := h
theorem c_expr (h : wpE prog T n X e lo H fun _ H1 => seqQ prog T n X ss Q .next lo H1) : wpSs prog T n X (.cons (.expr e) ss) lo H Q := h
theorem c_if {a b : Ss} (h : wpB prog T n X e lo H fun c H1 => if c = true then wpSs prog T n X a lo H1 (seqQ prog T n X ss Q) else wpSs prog T n X b lo H1 (seqQ prog T n X ss Q)) : wpSs prog T n X (.cons (.ite e a b) ss) lo H Q := h
end
section
variable {K : Frag} {a : Addr} {i f : Nat} {v : V} {Q : QV} {e : E} {es : Es} {xs : List V}
theorem g_getA (g : GetA H a i v) (q : Q v H) : getA (tab K) (.ref a) (an i) H Q := by
  induction g with | ga ha hd ho hi ht hv hp => exact gA_ok ha hd ho hi ht hv hp q
theorem g_getM {P : Value → List V → HM → Prop} (g : GetM H a i f) (q : P (.ref f) [.ref a] H) : gmI (tab K) (an i) (.ref a) H P := by
  induction g with | gm ha hd ho hi hm hv => exact gM_ok ha hd ho hi hm hv q
theorem v_getA (hx : Vl lo e (.ref a)) (g : GetA H a i v) (q : Q v H) : wpE prog (tab K) n X (.attr e i) lo H Q := v_attr hx (g_getA g q)
theorem v_getM (hx : Vl lo e (.ref a)) (g : GetM H a i f) (q : wpL prog (tab K) n X es lo H fun xs H3 => CWX prog (tab K) n X (.ref f) (.ref a :: xs) H3 Q) : wpE prog (tab K) n X (.meth e i es) lo H Q := v_meth hx (g_getM g q)
theorem v_getMV (hx : Vl lo e (.ref a)) (hl : VlL lo es xs) (g : GetM H a i f) (q : CWX prog (tab K) n X (.ref f) (.ref a :: xs) H Q) : wpE prog (tab K) n X (.meth e i es) lo H Q := v_getM hx g (v_l hl q)
end
-- guards: the goal's head
section
variable {QS' : QS} {QV' : QV} {QL : List V → HM → Prop} {QB : Bool → HM → Prop} {QI : List V → (HM → Prop) → HM → Prop} {ss : Ss} {st : S} {e : E} {es : Es} {it : It} {fl : Fl} {op : CmpOp} {x y : V} {QC : Bool → Prop}
theorem g_Ss (h : wpSs prog T n X ss lo H QS') : wpSs prog T n X ss lo H QS' := h
theorem g_S (h : wpS prog T n X st lo H QS') : wpS prog T n X st lo H QS' := h
theorem g_q (h : seqQ prog T n X ss QS' fl lo H) : seqQ prog T n X ss QS' fl lo H := h
theorem g_E (h : wpE prog T n X e lo H QV') : wpE prog T n X e lo H QV' := h
theorem g_L (h : wpL prog T n X es lo H QL) : wpL prog T n X es lo H QL := h
theorem g_B (h : wpB prog T n X e lo H QB) : wpB prog T n X e lo H QB := h
theorem g_I (h : wpI prog T n X it lo H QI) : wpI prog T n X it lo H QI := h
theorem g_c (h : cmpV op x y H QC) : cmpV op x y H QC := h
end
theorem g_0 {P : Prop} (h : P) : P := h
end
end Mine

set_option maxHeartbeats 1000000
namespace Mine
open PySem PySem.Calls PySem.Spec PyProof.Rows PySem.W
set_option maxHeartbeats 1000000

theorem cm_eq {H : HM} {x y : V} {Q : Bool → Prop} (h : eqG x y H Q) : cmpV .Eq x y H Q := h
theorem cm_ne {H : HM} {x y : V} {Q : Bool → Prop} (h : eqG x y H fun b => Q (!b)) : cmpV .NotEq x y H Q := h
theorem cm_in {H : HM} {x y : V} {Q : Bool → Prop} (h : inV x y H Q) : cmpV .In x y H Q := h
theorem cm_ni {H : HM} {x y : V} {Q : Bool → Prop} (h : inV x y H fun b => Q (!b)) : cmpV .NotIn x y H Q := h
theorem bn_add {i j : Int} {Q : Int → Prop} (h : Q (i + j)) : binV .Add i j Q := h
theorem bn_sub {i j : Int} {Q : Int → Prop} (h : Q (i - j)) : binV .Sub i j Q := h
set_option compiler.extract_closed false
local macro_rules | `(tactic| walk_at $k) => do
  unless k.getString.length == 1 do Lean.Macro.throwUnsupported
  let f (t : Lean.Syntax) (s : String) (y : Lean.Syntax) := t.setArg 1 (Lean.mkNullNode ((s.splitOn " ").toArray.map fun w => t[1][0].rewriteBottomUp fun s => bif s.getId.eraseMacroScopes == `x then Lean.mkIdent (.mkSimple w) else bif s.isOfKind ``Lean.Parser.Tactic.skip then y else s))
  let t ← `(tactic| first | (with_reducible apply x) <;> first | assumption | rfl | walk_at "v")
  let v := f t "v_const v_var v_nil v_cons v_ga v_gm v_ble" t
  if k.getString == "v" then pure v else
  let u ← `(tactic| first | with_reducible apply x)
  let t ← `(tactic| first | (with_reducible apply x); (repeat $(⟨v⟩):tactic); fail_if_success $(⟨f u "v_vl v_vll v_gga v_ggm v_ble" u⟩):tactic)
  let g ← `(tactic| first | (fail_if_success fail_if_success with_reducible apply x); skip)
  let a := ("g_Ss c_ret c_asgnV c_retE c_asgn c_expr c_if w_cons w_nil;g_E +v_getMV +v_getM +v_getA v_sub v_bin v_cmp v_call v_bcall -v_tup -v_list v_attr v_meth v_append v_neg v_subL v_binL v_cmpL v_e w_tup w_list w_attr w_call w_bcall w_meth w_append w_pop w_add v_binC w_bin w_cmp w_and w_or w_ite w_neg v_subC w_sub;g_L v_l v_lL w_lnil v_l1 w_lcons;g_q q_next q_ret q_cont;g_B v_bcmp v_bcmpL v_bcmpC w_bcmp w_band w_bor w_bnot w_bconst w_bcallB w_bbcall w_bmeth;g_S w_asgn w_ret w_ret0 w_expr w_cont w_if w_raise w_asgnA w_asgnS w_unpack w_augS w_loop w_whl w_delF w_asgnC;g_I v_iseq w_iseq w_irange;g_c cm_eq cm_ne cm_in cm_ni;g_0 +g_getA +g_getM bn_add bn_sub -t_ok".splitOn ";").map fun s =>
    let l := (s.splitOn " ").filterMap fun w => bif w.startsWith "+" then (bif k.getString == "S" then none else some ((w.drop 1).toString)) else bif w.startsWith "-" then (bif k.getString == "T" then none else some ((w.drop 1).toString)) else some w
    (f g (l.headD "") (f t (" ".intercalate (l.drop 1)) t))[1][0]
  `(tactic| repeat $(⟨g.raw.setArg 1 (Lean.mkNullNode a.toArray)⟩):tactic)

section
variable {prog : Program} {K : Frag} {H : HM} {Q : QV} {n : Nat} {y : Sy} {A : List Str} {F : List FR}
theorem zip_any {α : Type} [DecidableEq α] {β : Type} (f : Nat → β) (l : List α) (m : Nat) {x : α} (h : x ∉ l) : ((l.zipIdx m).map fun p => (p.1, f p.2)).any (fun kv => kv.1 = x) = false := by
  rw [List.any_eq_false]
  intro p hp
  obtain ⟨q, hq, rfl⟩ := List.mem_map.mp hp
  have := List.fst_mem_of_mem_zipIdx hq
  simp only [decide_eq_true_eq]
  rintro rfl
  exact h this
theorem kst_zip {α : Type} [DecidableEq α] {l : List α} {x : α} (h : x ∉ l) : kst (l.zipIdx.map fun p => (p.1, V.int p.2)) x (.int l.length) = ((l ++ [x]).zipIdx.map fun p => (p.1, V.int p.2)) := by
  unfold kst
  rw [zip_any (fun i : Nat => V.int i) l 0 h, if_neg (by decide), List.zipIdx_append, List.map_append]
  simp
theorem SyOk.addA (ok : SyOk A F) {x : Str} (hx : x ∈ sxl) : SyOk (addL A x) F where
  a := addL_nodup x ok.a
  asub z hz := by
    unfold addL at hz; split at hz
    · exact ok.asub z hz
    · simp only [List.mem_append, List.mem_singleton] at hz
      rcases hz with q | rfl
      · exact ok.asub z q
      · exact hx
  f := ok.f
  fsub p hp := ⟨Nat.lt_of_lt_of_le (ok.fsub p hp).1 (addL_pre A x).length_le, (ok.fsub p hp).2⟩
theorem SyOk.addF (ok : SyOk A F) {p : FR} (h1 : p.1 < A.length) (h2 : p.2 ≤ 8) : SyOk A (addL F p) where
  a := ok.a
  asub := ok.asub
  f := addL_nodup p ok.f
  fsub z hz := by
    unfold addL at hz; split at hz
    · exact ok.fsub z hz
    · simp only [List.mem_append, List.mem_singleton] at hz
      rcases hz with q | rfl
      · exact ok.fsub z q
      · exact ⟨h1, h2⟩
theorem c_atom (Fn : Fns K) (s : SyAt H y A F) (ok : SyOk A F) {x : Str} (hx : x ∈ sxl)
    (hq : ∀ H', SyAt H' y (addL A x) F → SyOk (addL A x) F → Off y.mut H H' → Q (.int ((addL A x).idxOf x)) H') : CC prog (tab K) (n + 1) (.ref 88) [.ref y.o, .str x] H Q := by
  refine cc_fn Fn.f_Symbols_atom rfl ?_
  unfold s_Symbols_atom
  have al := ok.alen
  have so := s.o
  have sd := s.d
  walk_at "S"
  refine w_getS (m := y.an) (x := x) (dv := .int (-1)) (fun P h => ?_) s.an (fun P h => ?_) (fun P h => ?_) ?_
  · walk_at "R"; exact h
  · walk_at "R"; exact h
  · walk_at "R"; exact ⟨1, rfl, h⟩
  · rw [lookup_zip (fun i => V.int i)]
    by_cases hm : x ∈ A
    · rw [if_pos hm]
      walk_at "S"
      refine bi2 (b_ifd (fun _ => ?_) fun q => absurd (by (first | lia | omega)) q)
      walk_at "S"
      have := hq H (by rw [addL_same hm]; exact s) (by rw [addL_same hm]; exact ok) (Off.refl _ _)
      rw [addL_same hm] at this
      simpa using this
    · rw [if_neg hm]
      walk_at "S"
      refine bi2 (b_ifd (fun q => absurd q (by simp)) fun _ => ?_)
      walk_at "R"
      refine bQ.lenL s.tx (List.length_map _) (by (first | lia | omega)) ?_
      walk_at "R"
      refine ap1 s.tx ?_
      walk_at "S"
      refine ap2 s.tx (by simp; (first | lia | omega)) ?_
      have e1 : A.map V.str ++ [.str x] = (A ++ [x]).map V.str := by simp
      rw [e1]
      have nd := s.nd
      simp only [Sy.all, List.nodup_cons, List.mem_cons, List.mem_nil_iff, or_false, not_or, List.nodup_nil, and_true, not_false_iff] at nd
      obtain ⟨⟨n1, n2, n3, n4, n5⟩, ⟨n6, n7, n8, n9⟩, ⟨n10, n11, n12⟩, ⟨n13, n14⟩, n15⟩ := nd
      have so' : upd H y.tx (.list ((A ++ [x]).map V.str)) y.o = some (.inst 154 y.d) := by rw [upd_ne n2]; exact so
      have sd' : upd H y.tx (.list ((A ++ [x]).map V.str)) y.d = some (.attrs (atL [(7, .ref y.tx), (8, .ref y.an), (9, .ref y.fs), (10, .ref y.fn)])) := by rw [upd_ne n6]; exact sd
      walk_at "R"
      have sa' : upd H y.tx (.list ((A ++ [x]).map V.str)) y.an = some (.dictS (A.zipIdx.map fun p => (p.1, .int p.2))) := by rw [upd_ne (Ne.symm n10)]; exact s.an
      refine setV.dictS sa' (by simp; (first | lia | omega)) ?_
      rw [kst_zip hm]
      walk_at "S"
      have e : addL A x = A ++ [x] := by unfold addL; rw [if_neg hm]
      have := hq _ (by rw [e]; exact s.upA _) (ok.addA hx) (Off.trans (Off.wr _ (by simp [Sy.mut])) (Off.wr _ (by simp [Sy.mut])))
      rw [e, List.idxOf_append, if_neg hm] at this
      simpa using this
theorem c_text (Fn : Fns K) (s : SyAt H y A F) {k : Nat} {x : Str} (hk : A[k]? = some x) (hb : k < 1000) (hq : Q (.str x) H) : CC prog (tab K) (n + 1) (.ref 95) [.ref y.o, .int k] H Q := by
  refine cc_fn Fn.f_Symbols_text rfl ?_
  unfold s_Symbols_text
  have so := s.o
  have sd := s.d
  walk_at "R"
  exact subV.list (z := .str x) s.tx (by (first | lia | omega)) (by (first | lia | omega)) (by simp [hk]) hq
theorem c_functor (Fn : Fns K) (s : SyAt H y A F) (ok : SyOk A F) {p : FR} (h1 : p.1 < A.length) (h2 : p.2 ≤ 8)
    (hq : ∀ H', SyAt H' y A (addL F p) → SyOk A (addL F p) → Off y.mut H H' → Q (.int ((addL F p).idxOf p)) H') : CC prog (tab K) (n + 1) (.ref 102) [.ref y.o, .int p.1, .int p.2] H Q := by
  refine cc_fn Fn.f_Symbols_functor rfl ?_
  unfold s_Symbols_functor
  have fl := ok.flen
  have so := s.o
  have sd := s.d
  walk_at "S"
  walk_at "S"
  refine w_getP (m := y.fn) (i := p.1) (j := p.2) (dv := .int (-1)) (fun P h => ?_) s.fn (fun P h => ?_) (fun P h => ?_) ?_
  · walk_at "R"; exact h
  · walk_at "R"; exact h
  · walk_at "R"; exact ⟨1, rfl, h⟩
  · have lk : ∀ {l : List FR} {m : Nat}, ((l.zipIdx m).map fun p => (((p.1.1 : Int), (p.1.2 : Int)), V.int p.2)).lookup ((p.1 : Int), (p.2 : Int)) = if p ∈ l then some (.int ((m + l.idxOf p : Nat) : Int)) else none := by
      intro l
      induction l with
      | nil => intro m; rfl
      | cons a l ih =>
        intro m
        rw [List.zipIdx_cons, List.map_cons, List.lookup_cons]
        by_cases e : p = a
        · subst e; simp
        · have hb : (((p.1 : Int), (p.2 : Int)) == ((a.1 : Int), (a.2 : Int))) = false := by
            refine beq_eq_false_iff_ne.mpr fun q => e ?_
            simp only [Prod.mk.injEq, Int.natCast_inj] at q
            exact Prod.ext q.1 q.2
          rw [hb]
          dsimp only
          rw [ih]
          simp only [List.mem_cons, e, false_or]
          split
          · rw [List.idxOf_cons, show (a == p) = false from beq_eq_false_iff_ne.mpr (Ne.symm e)]
            congr 2
            simp only [cond_false]; (first | lia | omega)
          · rfl
    rw [lk]
    by_cases hm : p ∈ F
    · rw [if_pos hm]
      walk_at "S"
      refine bi2 (b_ifd (fun _ => ?_) fun q => absurd (by (first | lia | omega)) q)
      walk_at "S"
      have := hq H (by rw [addL_same hm]; exact s) (by rw [addL_same hm]; exact ok) (Off.refl _ _)
      rw [addL_same hm] at this
      simpa using this
    · have lk0 := @lk F 0
      rw [if_neg hm] at lk0 ⊢
      walk_at "S"
      refine bi2 (b_ifd (fun q => absurd q (by simp)) fun _ => ?_)
      walk_at "R"
      refine bQ.lenL s.fs (List.length_map _) (by (first | lia | omega)) ?_
      walk_at "R"
      refine ap1 s.fs ?_
      walk_at "S"
      refine ap2 s.fs (by simp; (first | lia | omega)) ?_
      have e1 : F.map frV ++ [.tup [.int p.1, .int p.2]] = (F ++ [p]).map frV := by simp [frV]
      rw [e1]
      have nd := s.nd
      simp only [Sy.all, List.nodup_cons, List.mem_cons, List.mem_nil_iff, or_false, not_or, List.nodup_nil, and_true, not_false_iff] at nd
      obtain ⟨⟨n1, n2, n3, n4, n5⟩, ⟨n6, n7, n8, n9⟩, ⟨n10, n11, n12⟩, ⟨n13, n14⟩, n15⟩ := nd
      have so' : upd H y.fs (.list ((F ++ [p]).map frV)) y.o = some (.inst 154 y.d) := by rw [upd_ne n4]; exact so
      have sd' : upd H y.fs (.list ((F ++ [p]).map frV)) y.d = some (.attrs (atL [(7, .ref y.tx), (8, .ref y.an), (9, .ref y.fs), (10, .ref y.fn)])) := by rw [upd_ne n8]; exact sd
      walk_at "R"
      have sa' : upd H y.fs (.list ((F ++ [p]).map frV)) y.fn = some (.dictP (F.zipIdx.map fun p => ((p.1.1, p.1.2), .int p.2))) := by rw [upd_ne (Ne.symm n15)]; exact s.fn
      refine setV.dictP sa' (by simp; (first | lia | omega)) lk0 ?_
      walk_at "S"
      have e : addL F p = F ++ [p] := by unfold addL; rw [if_neg hm]
      have := hq _ (by rw [e]; exact s.upF _) (ok.addF h1 h2) (Off.trans (Off.wr _ (by simp [Sy.mut])) (Off.wr _ (by simp [Sy.mut])))
      rw [e, List.idxOf_append, if_neg hm] at this
      simpa [List.zipIdx_append] using this
theorem c_name (Fn : Fns K) (s : SyAt H y A F) {k : Nat} {p : FR} (hk : F[k]? = some p) (hb : k < 1000) (hq : Q (.int p.1) H) : CC prog (tab K) (n + 1) (.ref 116) [.ref y.o, .int k] H Q := by
  refine cc_fn Fn.f_Symbols_name rfl ?_
  unfold s_Symbols_name
  have so := s.o
  have sd := s.d
  walk_at "R"
  refine subV.list (z := frV p) s.fs (by (first | lia | omega)) (by (first | lia | omega)) (by simp [hk]) ?_
  walk_at "S"
  exact .tup (by (first | lia | omega)) (by (first | lia | omega)) rfl hq
theorem c_arity (Fn : Fns K) (s : SyAt H y A F) {k : Nat} {p : FR} (hk : F[k]? = some p) (hb : k < 1000) (hq : Q (.int p.2) H) : CC prog (tab K) (n + 1) (.ref 123) [.ref y.o, .int k] H Q := by
  refine cc_fn Fn.f_Symbols_arity rfl ?_
  unfold s_Symbols_arity
  have so := s.o
  have sd := s.d
  walk_at "R"
  refine subV.list (z := frV p) s.fs (by (first | lia | omega)) (by (first | lia | omega)) (by simp [hk]) ?_
  walk_at "S"
  exact .tup (by (first | lia | omega)) (by (first | lia | omega)) rfl hq
/-- the functor of a word -/
noncomputable def fnA (A : List Str) (x : Str) : Nat := (addL A x).idxOf x
theorem fnA_lt (A : List Str) (x : Str) : fnA A x < (addL A x).length := List.idxOf_lt_length_iff.mpr (addL_mem A x)
theorem c_func (Fn : Fns K) (s : SyAt H y A F) (ok : SyOk A F) {x : Str} (hx : x ∈ sxl) {r : Nat} (hr : r ≤ 8)
    (hq : ∀ H', SyAt H' y (addL A x) (addL F (fnA A x, r)) → SyOk (addL A x) (addL F (fnA A x, r)) → Off y.mut H H' → Q (.int ((addL F (fnA A x, r)).idxOf (fnA A x, r))) H') : CC prog (tab K) (n + 2) (.ref 109) [.ref y.o, .str x, .int r] H Q := by
  refine cc_fn Fn.f_Symbols_func rfl ?_
  unfold s_Symbols_func
  have so := s.o
  have sd := s.d
  walk_at "R"
  refine (c_atom Fn s ok hx fun H1 s1 ok1 o1 => ?_).x
  walk_at "S"
  exact (c_functor (p := (fnA A x, r)) Fn s1 ok1 (fnA_lt A x) hr fun H2 s2 ok2 o2 => hq H2 s2 ok2 (o1.trans o2)).x
end

set_option maxHeartbeats 1000000

noncomputable def fixA : List Str := (List.range 29).map sx
noncomputable def fixF : List FR := [(1, 2), (7, 2), (9, 2), (10, 2), (11, 1), (12, 2), (12, 1), (13, 1), (14, 2), (2, 1), (20, 2), (21, 2), (3, 1), (3, 2), (4, 2), (6, 2), (22, 2), (26, 1), (27, 3), (28, 1), (15, 0), (16, 0), (17, 0), (18, 0), (19, 1), (19, 2), (19, 3), (19, 4), (19, 5), (19, 6), (19, 7), (19, 8)]
noncomputable def esOf : List V → Es
  | [] => .nil
  | v :: r => .cons (.const v) (esOf r)
noncomputable def esP : List FR → Es
  | [] => .nil
  | p :: r => .cons (.tup (.cons (.const (.str (sx p.1))) (.cons (.const (.int p.2)) .nil))) (esP r)
noncomputable def wdV (p : FR) : V := .tup [.str (sx p.1), .int p.2]
theorem fixA_nd : fixA.Nodup := by
  unfold fixA
  refine List.pairwise_map.mpr ?_
  refine List.Pairwise.imp_of_mem (R := fun a b => a ≠ b) (fun {a b} ha hb h e => h ?_) List.nodup_range
  exact (sx_inj (by have := List.mem_range.mp ha; (first | lia | omega)) (by have := List.mem_range.mp hb; (first | lia | omega))).mp e
theorem fixA_get {i : Nat} (h : i < 29) : fixA[i]? = some (sx i) := by
  unfold fixA; simp [h]
theorem fixA_len : fixA.length = 29 := by simp [fixA]
theorem fixA_mem {i : Nat} (h : i < 29) : sx i ∈ fixA := List.mem_of_getElem? (fixA_get h)
theorem fixA_idx {i : Nat} (h : i < 29) : fixA.idxOf (sx i) = i := by
  have h1 := addL_get fixA (sx i)
  rw [addL_same (fixA_mem h)] at h1
  exact get_inj fixA_nd h1 (fixA_get h)
theorem take_add {α : Type} [DecidableEq α] {l : List α} {i : Nat} {x : α} (nd : l.Nodup) (h : l[i]? = some x) : addL (l.take i) x = l.take (i + 1) := by
  have hi : i < l.length := by
    rcases Nat.lt_or_ge i l.length with q | q
    · exact q
    · first | exact (no (List.getElem?_eq_none q) h).elim | exact (no h (List.getElem?_eq_none q)).elim | obtain rfl := so (List.getElem?_eq_none q) h | (rw [List.getElem?_eq_none q] at h; cases h)
  have e : l.take (i + 1) = l.take i ++ [x] := by rw [List.take_succ, h]; rfl
  have hn : x ∉ l.take i := fun hm => by
    obtain ⟨j, hj⟩ := List.mem_iff_getElem?.mp hm
    have hj' : j < i := by
      rcases Nat.lt_or_ge j i with q | q
      · exact q
      · rw [List.getElem?_take, if_neg (by (first | lia | omega))] at hj; cases hj
    rw [List.getElem?_take, if_pos hj'] at hj
    exact absurd (get_inj nd hj h) (by (first | lia | omega))
  unfold addL
  rw [if_neg hn, e]
section
variable {prog : Program} {K : Frag} {H : HM} {Q : QV} {n : Nat}
theorem w_esOf {T : Tab} {X : Addr → HM → Prop} {lo : Lo} : ∀ {vs : List V} {Q : List V → HM → Prop}, Q vs H → wpL prog T n X (esOf vs) lo H Q
  | [], _, h => h
  | v :: r, _, h => w_lcons (w_const (w_esOf (vs := r) h))
theorem w_esP {T : Tab} {X : Addr → HM → Prop} {lo : Lo} : ∀ {vs : List FR} {Q : List V → HM → Prop}, Q (vs.map wdV) H → wpL prog T n X (esP vs) lo H Q
  | [], _, h => h
  | v :: r, _, h => w_lcons (w_tup (w_lcons (w_const (w_lcons (w_const (w_lnil ⟨by simp, w_esP (vs := r) h⟩))))))
theorem c_fixed_atoms (Fn : Fns K) (hq : Q (.tup (fixA.map .str)) H) : CC prog (tab K) (n + 1) (.ref 60) [] H Q := by
  refine cc_fn Fn.f_fixed_atoms rfl ?_
  rw [show s_fixed_atoms = .cons (.ret (.tup (esOf (fixA.map .str)))) .nil from rfl]
  walk_at "S"
  exact w_esOf ⟨by rw [List.length_map, fixA_len]; decide, hq⟩
theorem c_fixed_functors (Fn : Fns K) (hq : Q (.tup (fixF.map wdV)) H) : CC prog (tab K) (n + 1) (.ref 67) [] H Q := by
  refine cc_fn Fn.f_fixed_functors rfl ?_
  rw [show s_fixed_functors = .cons (.ret (.tup (esP fixF))) .nil from rfl]
  walk_at "S"
  exact w_esP ⟨by rw [List.length_map]; decide, hq⟩
theorem nw {a b : Addr} {m m' : M} (ha : H a = none) (hb : H b = some m') : upd H a m b = some m' := by
  rw [upd_ne (by rintro rfl; rw [ha] at hb; cases hb)]; exact hb
theorem ne_new {a b : Addr} {m : M} (ha : H a = none) (hb : H b = some m) : a ≠ b := by rintro rfl; first | exact (no ha hb).elim | exact (no hb ha).elim | obtain rfl := so ha hb | (rw [ha] at hb; cases hb)
theorem none_of {a b : Addr} {m : M} (h : upd H a m b = none) : H b = none ∧ b ≠ a := by
  by_cases e : b = a
  · subst e; first | exact (no upd_self h).elim | exact (no h upd_self).elim | obtain rfl := so upd_self h | (rw [upd_self] at h; cases h)
  · rw [upd_ne e] at h; exact ⟨h, e⟩
theorem Sy.mut_all {P : Addr → Prop} {y : Sy} (h1 : P y.tx) (h2 : P y.an) (h3 : P y.fs) (h4 : P y.fn) : ∀ a ∈ y.mut, P a := fun a ha => by
  simp only [Sy.mut, List.mem_cons, List.mem_nil_iff, or_false] at ha
  rcases ha with rfl | rfl | rfl | rfl <;> assumption
theorem Sy.all_all {P : Addr → Prop} {y : Sy} (h1 : P y.o) (h2 : P y.d) (h3 : ∀ a ∈ y.mut, P a) : ∀ a ∈ y.all, P a := fun a ha => by
  simp only [Sy.all, List.mem_cons, List.mem_nil_iff, or_false] at ha
  rcases ha with rfl | rfl | ha
  · exact h1
  · exact h2
  · exact h3 a (by simpa [Sy.mut] using ha)
theorem c_Symbols_init (Fn : Fns K) {x dx : Addr} (hx : H x = some (.inst 154 dx)) (hdx : H dx = some (.attrs (atL [])))
    (hq : ∀ y H', y.o = x → y.d = dx → SyAt H' y fixA fixF → Off [dx] H H' → (∀ a ∈ y.mut, Fresh H a) → Q .none H') : CC prog (tab K) (n + 3) (.ref 81) [.ref x] H Q := by
  refine cc_fn Fn.f_Symbols_init rfl ?_
  unfold s_Symbols_init
  walk_at "S"
  refine fun a1 h1 => ?_
  have hx1 := nw (m := .list []) h1 hx
  have hd1 := nw (m := .list []) h1 hdx
  have l1 := upd_self H a1 (.list [])
  walk_at "S"
  refine sA_ok hx1 hd1 (by rfl) (by rfl) (by rfl) (by rfl) ?_
  have n1 := ne_new h1 hdx
  have n1' := ne_new h1 hx
  have nx : x ≠ dx := ne_kd hx hdx rfl
  replace hx1 : _ := (upd_ne (m := .attrs (atL (putN [] 7 (.ref a1)))) nx).trans hx1
  replace l1 : _ := (upd_ne (m := .attrs (atL (putN [] 7 (.ref a1)))) n1).trans l1
  replace hd1 : _ := upd_self (upd H a1 (.list [])) dx (.attrs (atL (putN [] 7 (.ref a1))))
  have o1 : Off [dx] H (upd (upd H a1 (.list [])) dx (.attrs (atL (putN [] 7 (.ref a1))))) := (Off.nw _ h1).trans (Off.wr1 _)
  generalize upd (upd H a1 (.list [])) dx (.attrs (atL (putN [] 7 (.ref a1)))) = H1 at *
  walk_at "S"
  refine fun a2 h2 => ?_
  have hx2 := nw (m := .dictS []) h2 hx1
  have hd2 := nw (m := .dictS []) h2 hd1
  have k2 := nw (m := .dictS []) h2 l1
  have l2 := upd_self H1 a2 (.dictS [])
  have n2 := ne_new h2 hd1
  have n12 := ne_new h2 l1
  walk_at "S"
  refine sA_ok hx2 hd2 (by rfl) (by rfl) (by rfl) (by rfl) ?_
  replace hx2 := (upd_ne (m := .attrs (atL (putN (putN [] 7 (.ref a1)) 8 (.ref a2)))) nx).trans hx2
  replace l2 := (upd_ne (m := .attrs (atL (putN (putN [] 7 (.ref a1)) 8 (.ref a2)))) n2).trans l2
  replace k2 := (upd_ne (m := .attrs (atL (putN (putN [] 7 (.ref a1)) 8 (.ref a2)))) n1).trans k2
  replace hd2 := upd_self (upd H1 a2 (.dictS [])) dx (.attrs (atL (putN (putN [] 7 (.ref a1)) 8 (.ref a2))))
  have o2 : Off [dx] H1 (upd (upd H1 a2 (.dictS [])) dx (.attrs (atL (putN (putN [] 7 (.ref a1)) 8 (.ref a2))))) := (Off.nw _ h2).trans (Off.wr1 _)
  generalize upd (upd H1 a2 (.dictS [])) dx (.attrs (atL (putN (putN [] 7 (.ref a1)) 8 (.ref a2)))) = H2 at *
  walk_at "S"
  refine fun a3 h3 => ?_
  have hx3 := nw (m := .list []) h3 hx2
  have hd3 := nw (m := .list []) h3 hd2
  have j3 := nw (m := .list []) h3 k2
  have k3 := nw (m := .list []) h3 l2
  have l3 := upd_self H2 a3 (.list [])
  have n3 := ne_new h3 hd2
  have n13 := ne_new h3 k2
  have n23 := ne_new h3 l2
  walk_at "S"
  refine sA_ok hx3 hd3 (by rfl) (by rfl) (by rfl) (by rfl) ?_
  replace hx3 := (upd_ne (m := .attrs (atL (putN (putN (putN [] 7 (.ref a1)) 8 (.ref a2)) 9 (.ref a3)))) nx).trans hx3
  replace l3 := (upd_ne (m := .attrs (atL (putN (putN (putN [] 7 (.ref a1)) 8 (.ref a2)) 9 (.ref a3)))) n3).trans l3
  replace k3 := (upd_ne (m := .attrs (atL (putN (putN (putN [] 7 (.ref a1)) 8 (.ref a2)) 9 (.ref a3)))) n2).trans k3
  replace j3 := (upd_ne (m := .attrs (atL (putN (putN (putN [] 7 (.ref a1)) 8 (.ref a2)) 9 (.ref a3)))) n1).trans j3
  replace hd3 := upd_self (upd H2 a3 (.list [])) dx (.attrs (atL (putN (putN (putN [] 7 (.ref a1)) 8 (.ref a2)) 9 (.ref a3))))
  have o3 : Off [dx] H2 (upd (upd H2 a3 (.list [])) dx (.attrs (atL (putN (putN (putN [] 7 (.ref a1)) 8 (.ref a2)) 9 (.ref a3))))) := (Off.nw _ h3).trans (Off.wr1 _)
  generalize upd (upd H2 a3 (.list [])) dx (.attrs (atL (putN (putN (putN [] 7 (.ref a1)) 8 (.ref a2)) 9 (.ref a3)))) = H3 at *
  walk_at "S"
  refine fun a4 h4 => ?_
  have hx4 := nw (m := .dictP []) h4 hx3
  have hd4 := nw (m := .dictP []) h4 hd3
  have i4 := nw (m := .dictP []) h4 j3
  have j4 := nw (m := .dictP []) h4 k3
  have k4 := nw (m := .dictP []) h4 l3
  have l4 := upd_self H3 a4 (.dictP [])
  have n4 := ne_new h4 hd3
  have n14 := ne_new h4 j3
  have n24 := ne_new h4 k3
  have n34 := ne_new h4 l3
  walk_at "S"
  refine sA_ok hx4 hd4 (by rfl) (by rfl) (by rfl) (by rfl) ?_
  rw [show putN (putN (putN (putN [] 7 (.ref a1)) 8 (.ref a2)) 9 (.ref a3)) 10 (.ref a4) = [(7, .ref a1), (8, .ref a2), (9, .ref a3), (10, .ref a4)] from rfl]
  have s4 : SyAt (upd (upd H3 a4 (.dictP [])) dx (.attrs (atL [(7, .ref a1), (8, .ref a2), (9, .ref a3), (10, .ref a4)]))) ⟨x, dx, a1, a2, a3, a4⟩ [] [] := {
    o := (upd_ne nx).trans hx4
    d := upd_self _ _ _
    tx := (upd_ne n1).trans i4
    an := (upd_ne n2).trans j4
    fs := (upd_ne n3).trans k4
    fn := (upd_ne n4).trans l4
    nd := by
      simp only [Sy.all, List.nodup_cons, List.mem_cons, List.mem_nil_iff, or_false, not_or, List.nodup_nil, and_true, not_false_iff]
      exact ⟨⟨nx, ne_new (m := .inst 154 dx) (a := a1) h1 hx |>.symm, (ne_new h2 hx1).symm, (ne_new h3 hx2).symm, (ne_new h4 hx3).symm⟩, ⟨n1.symm, n2.symm, n3.symm, n4.symm⟩, ⟨n12.symm, n13.symm, n14.symm⟩, ⟨n23.symm, n24.symm⟩, n34.symm⟩ }
  have o4 : Off [dx] H3 (upd (upd H3 a4 (.dictP [])) dx (.attrs (atL [(7, .ref a1), (8, .ref a2), (9, .ref a3), (10, .ref a4)]))) := (Off.nw _ h4).trans (Off.wr1 _)
  have oo := (o1.trans o2).trans (o3.trans o4)
  have nn : ∀ (a : Addr) (Hi : HM), Off [dx] H Hi → a ≠ dx → Hi a = none → Fresh H a := fun a Hi o hne h => (Fresh.of h).back o (by simp [hne])
  have fresh : ∀ a ∈ (⟨x, dx, a1, a2, a3, a4⟩ : Sy).mut, Fresh H a := by
    exact Sy.mut_all (.of h1) (nn _ _ o1 n2 h2) (nn _ _ (o1.trans o2) n3 h3) (nn _ _ ((o1.trans o2).trans o3) n4 h4)
  generalize hy : (⟨x, dx, a1, a2, a3, a4⟩ : Sy) = y at *
  have yo : y.o = x := by subst hy; rfl
  have yd : y.d = dx := by subst hy; rfl
  generalize upd (upd H3 a4 (.dictP [])) dx (.attrs (atL [(7, .ref a1), (8, .ref a2), (9, .ref a3), (10, .ref a4)])) = H4 at *
  clear hx1 hx2 hx3 hx4 hd1 hd2 hd3 hd4 l1 l2 l3 l4 k2 k3 k4 j3 j4 i4 h2 h3 h4 n1 n2 n3 n4 n12 n13 n14 n23 n24 n34 o1 o2 o3 o4 hy nx n1'
  walk_at "S"
  refine (c_fixed_atoms Fn ?_).x
  refine .tup ⟨fun i lo H' => lo 0 = some (.ref y.o) ∧ SyAt H' y (fixA.take i) [] ∧ Off y.mut H4 H', ⟨congrArg (fun a => some (V.ref a)) yo.symm, s4, Off.refl _ _⟩, fun _ _ _ _ => trivial, fun i v lo H5 z0 hv => ?_, fun lo H5 z0 => ?_⟩
  · have e0 := z0.1
    have s5 := z0.2.1
    have o5 := z0.2.2
    clear z0
    rw [List.getElem?_map] at hv
    obtain ⟨w, hw, rfl⟩ := Option.map_eq_some_iff.mp hv
    have hi : i < 29 := by have := (List.getElem?_eq_some_iff.mp hw).1; rwa [fixA_len] at this
    have hw' := fixA_get hi
    rw [hw] at hw'; cases hw'
    have so := s5.o
    have sd := s5.d
    have ok5 : SyOk (fixA.take i) [] := ⟨fixA_nd.sublist (List.take_sublist _ _), fun z hz => by
      have := List.mem_of_mem_take hz
      unfold fixA at this
      obtain ⟨j, hj, rfl⟩ := List.mem_map.mp this
      exact sx_mem (by have := List.mem_range.mp hj; (first | lia | omega)), by simp, by simp⟩
    walk_at "S"
    walk_at "R"
    refine (c_atom Fn s5 ok5 (sx_mem (by (first | lia | omega))) fun H6 s6 _ o6 => ?_).x
    walk_at "S"
    rw [take_add fixA_nd hw] at s6
    exact ⟨e0, s6, o5.trans o6⟩
  · have e0 := z0.1
    have s5 := z0.2.1
    have o5 := z0.2.2
    clear z0
    rw [List.length_map, List.take_length] at s5
    have okA5 : SyOk fixA [] := ⟨fixA_nd, fun z hz => by
      unfold fixA at hz
      obtain ⟨j, hj, rfl⟩ := List.mem_map.mp hz
      exact sx_mem (by have := List.mem_range.mp hj; (first | lia | omega)), by simp, by simp⟩
    walk_at "S"
    refine (c_fixed_functors Fn ?_).x
    refine .tup ⟨fun i lo H' => lo 0 = some (.ref y.o) ∧ SyAt H' y fixA (fixF.take i) ∧ Off y.mut H4 H', ⟨e0, s5, o5⟩, fun _ _ _ _ => trivial, fun i v lo H6 z1 hv => ?_, fun lo H6 z1 => ?_⟩
    · have e0 := z1.1
      have s6 := z1.2.1
      have o6 := z1.2.2
      clear z1
      rw [List.getElem?_map] at hv
      obtain ⟨p, hp, rfl⟩ := Option.map_eq_some_iff.mp hv
      have so := s6.o
      have sd := s6.d
      have hpb : p.1 < 29 ∧ p.2 ≤ 8 := by
        have : ∀ p ∈ fixF, p.1 < 29 ∧ p.2 ≤ 8 := by decide
        exact this p (List.mem_of_getElem? hp)
      have ok6 : SyOk fixA (fixF.take i) := ⟨okA5.a, okA5.asub, (by decide : fixF.Nodup).sublist (List.take_sublist _ _), fun q hq => by
        have : ∀ p ∈ fixF, p.1 < 29 ∧ p.2 ≤ 8 := by decide
        have := this q (List.mem_of_mem_take hq)
        rw [fixA_len]; exact this⟩
      walk_at "S"
      walk_at "R"
      refine .tup (z := .str (sx p.1)) (by decide) (by decide) rfl ?_
      walk_at "S"
      refine .tup (z := .int p.2) (by decide) (by decide) rfl ?_
      walk_at "S"
      refine (c_func Fn s6 ok6 (sx_mem (by (first | lia | omega))) hpb.2 fun H7 s7 _ o7 => ?_).x
      walk_at "S"
      have e : fnA fixA (sx p.1) = p.1 := by unfold fnA; rw [addL_same (fixA_mem hpb.1), fixA_idx hpb.1]
      rw [e, addL_same (fixA_mem hpb.1), take_add (by decide) hp] at s7
      exact ⟨e0, s7, o6.trans o7⟩
    · have e0 := z1.1
      have s6 := z1.2.1
      have o6 := z1.2.2
      clear z1
      rw [List.length_map, List.take_length] at s6
      walk_at "S"
      exact hq y H6 yo yd s6 (oo.chain o6 fun a ha => .inr (fresh a ha)) fresh
theorem c_Symbols (Fn : Fns K) (hq : ∀ y H', SyAt H' y fixA fixF → Off [] H H' → (∀ a ∈ y.all, Fresh H a) → Q (.ref y.o) H') : CC prog (tab K) (n + 4) (.ref 154) [] H Q := by
  refine cc_make (fI := 81) rfl fun x dx h1 h2 hne => ?_
  refine c_Symbols_init Fn (dx := dx) (upd_self _ _ _) ((upd_ne (Ne.symm hne)).trans (upd_self _ _ _)) fun y H' e1 e2 s o fr => ⟨rfl, ?_⟩
  subst e1 e2
  have hdx : upd H y.d (.attrs []) y.o = none := by rw [upd_ne hne]; exact h1
  have oo : Off [] H (upd (upd H y.d (.attrs [])) y.o (.inst 154 y.d)) := (Off.nw _ h2).trans (Off.nw _ hdx)
  refine hq y H' s (oo.chain o fun a ha => .inr ?_) fun a ha => ?_
  · simp only [List.mem_singleton] at ha; subst ha; exact .of h2
  · simp only [Sy.all, List.mem_cons, List.mem_nil_iff, or_false] at ha
    rcases ha with rfl | rfl | ha
    · exact .of h1
    · exact .of h2
    · exact (fr a (by simpa [Sy.mut] using ha)).back oo (by simp)
end

set_option maxHeartbeats 1000000

/-- terms -/
inductive Tm where
  | a (n : Nat)
  | v (n : Nat)
  | i (n : Nat)
  | s (f : Nat) (l : List Tm)
mutual
noncomputable def tmV : Tm → V
  | .a n => .tup [.str (sx 30), .int n]
  | .v n => .tup [.str (sx 36), .int n]
  | .i n => .tup [.str (sx 37), .int n]
  | .s f l => .tup [.str (sx 29), .int f, .tup (tmVs l)]
noncomputable def tmVs : List Tm → List V
  | [] => []
  | t :: l => tmV t :: tmVs l
end
theorem tmVs_map : ∀ l : List Tm, tmVs l = l.map tmV
  | [] => rfl
  | t :: l => by rw [tmVs, tmVs_map l]; rfl
noncomputable def IsF (A : List Str) (F : List FR) (k : Nat) (x : Str) (r : Nat) : Prop := ∃ a, F[k]? = some (a, r) ∧ A[a]? = some x
theorem IsF.mono {A A' : List Str} {F F' : List FR} {k : Nat} {x : Str} {r : Nat} (h : IsF A F k x r) (ha : A <+: A') (hf : F <+: F') : IsF A' F' k x r := by
  obtain ⟨a, h1, h2⟩ := h; exact ⟨a, pre_get hf h1, pre_get ha h2⟩
theorem IsF.inj {A : List Str} {F : List FR} {k k' : Nat} {x : Str} {r : Nat} (ok : SyOk A F) (h : IsF A F k x r) (h' : IsF A F k' x r) : k = k' := by
  obtain ⟨a, h1, h2⟩ := h
  obtain ⟨a', h1', h2'⟩ := h'
  obtain rfl := get_inj ok.a h2 h2'
  exact get_inj ok.f h1 h1'
noncomputable def ballT (t : Tm) : Tm := .s 16 [t, .a 25]
/-- an error's object -/
structure ErrAt (H H' : HM) (e : Addr) (b : V) : Prop where
  at_ : ∃ d tb, H' e = some (.exc 51 (some d) tb) ∧ H' d = some (.attrs [(Str.ofString "ball", b)]) ∧ Fresh H d
  fr : Fresh H e
/-- the arguments read so far -/
inductive FoI (kd : Str) (cu : List V) (A : List Str) : List V → Nat → Prop
  | z : FoI kd cu A [] 0
  | a {kc : Nat} (h : A[kc]? = some kd) : FoI kd cu A [.tup [.str (sx 30), .int (kc : Nat)]] 1
  | b {kc : Nat} (h : A[kc]? = some kd) : FoI kd cu A [.tup [.str (sx 30), .int (kc : Nat)], .tup cu] 2
theorem FoI.out {kd : Str} {cu : List V} {A : List Str} {l : List V} (h : FoI kd cu A l 2) : ∃ kc : Nat, A[kc]? = some kd ∧ l = [.tup [.str (sx 30), .int (kc : Nat)], .tup cu] := by
  cases h with | b h => exact ⟨_, h, rfl⟩
inductive FoJ (A : List Str) (F : List FR) (y : Sy) (nm kd : Str) (cu : List V) (D : Addr) (H0 : HM) (i : Nat) (lo : Lo) (H' : HM) : Prop
  | mk (A' : List Str) (l : List V) (l0 : lo 0 = some (.ref y.o)) (l1 : lo 1 = some (.str nm)) (l3 : lo 3 = some (.ref D)) (p : A <+: A') (s : SyAt H' y A' F) (ok : SyOk A' F) (hd : H' D = some (.list l)) (o : Off (D :: y.mut) H0 H') (hi : FoI kd cu A' l i) : FoJ A F y nm kd cu D H0 i lo H'
section
variable {prog : Program} {K : Frag} {H : HM} {Q : QV} {n : Nat} {y : Sy} {A : List Str} {F : List FR}
theorem r_atom (Fn : Fns K) (s : SyAt H y A F) (ok : SyOk A F) {x : Str} (hx : x ∈ sxl)
    (hq : ∀ H' A' k, A <+: A' → SyAt H' y A' F → SyOk A' F → Off y.mut H H' → A'[k]? = some x → Q (.int (k : Nat)) H') : CC prog (tab K) (n + 1) (.ref 88) [.ref y.o, .str x] H Q :=
  c_atom Fn s ok hx fun H' s' ok' o' => hq H' _ _ (addL_pre A x) s' ok' o' (addL_get A x)
theorem r_func (Fn : Fns K) (s : SyAt H y A F) (ok : SyOk A F) {x : Str} (hx : x ∈ sxl) {r : Nat} (hr : r ≤ 8)
    (hq : ∀ H' A' F' k, A <+: A' → F <+: F' → SyAt H' y A' F' → SyOk A' F' → Off y.mut H H' → IsF A' F' k x r → Q (.int (k : Nat)) H') : CC prog (tab K) (n + 2) (.ref 109) [.ref y.o, .str x, .int r] H Q :=
  c_func Fn s ok hx hr fun H' s' ok' o' => hq H' _ _ _ (addL_pre A x) (addL_pre F _) s' ok' o' ⟨_, addL_get F _, addL_get A x⟩
theorem c_err_init (Fn : Fns K) {e : Addr} {b : V} (he : H e = some (.exc 51 none none))
    (hq : ∀ d H', H d = none → H' e = some (.exc 51 (some d) none) → H' d = some (.attrs [(Str.ofString "ball", b)]) → Off [e] H H' → Q .none H') : CC prog (tab K) (n + 1) (.ref 48) [.ref e, b] H Q := by
  refine cc_fn Fn.f_PrologError_init rfl ?_
  unfold s_PrologError_init
  walk_at "S"
  refine .inr ⟨e, none, rfl, he, by decide +kernel, fun d hd hne => ?_⟩
  walk_at "S"
  rw [show an 27 = Str.ofString "ball" by decide +kernel]
  exact hq d _ hd (upd_self _ _ _) ((upd_ne hne).trans (upd_self _ _ _)) ((Off.nw _ hd).trans (Off.wr _ (by simp)))
theorem c_err (Fn : Fns K) (hM : ExcMk K 51 48) {b : V} (hq : ∀ e H', H' e ≠ none → (∃ d, H' e = some (.exc 51 (some d) none)) → ErrAt H H' e b → Off [] H H' → Q (.ref e) H') : CW prog (tab K) (n + 2) (.ref 51) [b] H Q :=
  cw_exc (T := tab K) hM (by simp) fun e he => (c_err_init Fn (upd_self _ _ _) fun d H' hd h1 h2 o => ⟨rfl, by
    have o1 : Off [] H (upd H e (.exc 51 none none)) := Off.nw _ he
    exact hq e H' (by rw [h1]; simp) ⟨d, h1⟩ ⟨⟨d, none, h1, h2, (Fresh.of hd).back o1 (by simp)⟩, .of he⟩ (o1.chain o fun a ha => .inr (by simp at ha; subst ha; exact .of he))⟩).cw
theorem c_system_error (Fn : Fns K) (hM : ExcMk K 51 48) {t : Tm} (hq : ∀ e H', (∃ d, H' e = some (.exc 51 (some d) none)) → ErrAt H H' e (tmV (ballT t)) → Off [] H H' → Q (.ref e) H') : CC prog (tab K) (n + 3) (.ref 165) [tmV t] H Q := by
  refine cc_fn Fn.f_system_error rfl ?_
  unfold s_system_error
  walk_at "S"
  walk_at "S"
  walk_at "S"
  walk_at "S"
  exact (c_err Fn hM fun e H' _ h1 h2 o => hq e H' h1 h2 o).x
theorem c_inst (Fn : Fns K) (hM : ExcMk K 51 48) (s : SyAt H y A F) (ok : SyOk A F)
    (hq : ∀ e H' A' k, A <+: A' → SyAt H' y A' F → SyOk A' F → Off y.mut H H' → A'[k]? = some (sx 31) → (∃ d, H' e = some (.exc 51 (some d) none)) → ErrAt H H' e (tmV (ballT (.a k))) → Q (.ref e) H') : CC prog (tab K) (n + 4) (.ref 179) [.ref y.o] H Q := by
  refine cc_fn Fn.f_instantiation_error rfl ?_
  unfold s_instantiation_error
  have so := s.o
  have sd := s.d
  walk_at "R"
  refine (r_atom Fn s ok (sx_mem (by (first | lia | omega))) fun H1 A1 k p1 s1 ok1 o1 hk => ?_).x
  walk_at "S"
  walk_at "S"
  refine (c_system_error (t := .a k) Fn hM fun e H2 h1 h2 o2 => ?_).x
  walk_at "S"
  have hmut : ∀ a ∈ y.all, a ∉ ([] : List Addr) := fun _ _ => by simp
  obtain ⟨⟨d, tb, e1, e2, e3⟩, e4⟩ := h2
  have nm : ∀ {b : Addr}, Fresh H1 b → Fresh H b := fun {b} hb m hm e => by
    by_cases q : b ∈ y.mut
    · simp only [Sy.mut, List.mem_cons, List.mem_nil_iff, or_false] at q
      rcases q with rfl | rfl | rfl | rfl
      · exact hb _ rfl s1.tx
      · exact hb _ rfl s1.an
      · exact hb _ rfl s1.fs
      · exact hb _ rfl s1.fn
    · exact hb m hm (o1 b m hm q e)
  exact hq e H2 A1 k p1 (s1.off o2 hmut) ok1 (o1.trans (o2.sub (by simp))) hk h1 ⟨⟨d, tb, e1, e2, nm e3⟩, nm e4⟩
/-- what is fresh behind a change of the symbols was fresh before it -/
theorem fresh_mut {H H1 : HM} (s1 : SyAt H1 y A F) (o1 : Off y.mut H H1) {b : Addr} (hb : Fresh H1 b) : Fresh H b := fun m hm e => by
  by_cases q : b ∈ y.mut
  · simp only [Sy.mut, List.mem_cons, List.mem_nil_iff, or_false] at q
    rcases q with rfl | rfl | rfl | rfl
    · exact hb _ rfl s1.tx
    · exact hb _ rfl s1.an
    · exact hb _ rfl s1.fs
    · exact hb _ rfl s1.fn
  · exact hb m hm (o1 b m hm q e)
theorem ErrAt.mut {H H1 H2 : HM} {e : Addr} {b : V} (s1 : SyAt H1 y A F) (o1 : Off y.mut H H1) (h : ErrAt H1 H2 e b) : ErrAt H H2 e b := by
  obtain ⟨⟨d, tb, e1, e2, e3⟩, e4⟩ := h
  exact ⟨⟨d, tb, e1, e2, fresh_mut s1 o1 e3⟩, fresh_mut s1 o1 e4⟩
theorem c_formal_of (Fn : Fns K) (s : SyAt H y A F) (ok : SyOk A F) {nm kd : Str} (hn : nm ∈ sxl) (hk : kd ∈ sxl) {cu : List V}
    (hq : ∀ H' A' F' kf kc, A <+: A' → F <+: F' → SyAt H' y A' F' → SyOk A' F' → Off y.mut H H' → IsF A' F' kf nm 2 → A'[kc]? = some kd → Q (.tup [.str (sx 29), .int (kf : Nat), .tup [.tup [.str (sx 30), .int (kc : Nat)], .tup cu]]) H') :
    CC prog (tab K) (n + 3) (.ref 172) [.ref y.o, .str nm, .tup [.str kd, .tup cu]] H Q := by
  refine cc_fn Fn.f_formal_of rfl ?_
  unfold s_formal_of
  walk_at "S"
  refine fun D hD => ?_
  have s0 : SyAt (upd H D (.list [])) y A F := s.off (Off.nw (l := []) _ hD) fun _ _ => by simp
  have o0 : Off y.mut H (upd H D (.list [])) := Off.nw _ hD
  have d0 := upd_self H D (.list [])
  have dm : ∀ a ∈ y.mut, a ≠ D := Sy.mut_all (ne_new hD s.tx).symm (ne_new hD s.an).symm (ne_new hD s.fs).symm (ne_new hD s.fn).symm
  have hDm : D ∉ y.mut := fun q => dm D q rfl
  generalize upd H D (.list []) = H0 at *
  have dy : ∀ a ∈ y.all, a ∉ [D] := Sy.all_all (fun q => ne_kd s0.o d0 rfl (List.mem_singleton.mp q)) (fun q => ne_kd s0.d d0 rfl (List.mem_singleton.mp q)) fun a ha q => dm a ha (List.mem_singleton.mp q)
  clear dm
  walk_at "S"
  refine .tup ⟨FoJ A F y nm kd cu D H0, .mk A [] rfl rfl rfl (List.prefix_refl _) s0 ok d0 (Off.refl _ _) .z, fun _ _ _ _ => trivial, fun i v lo H1 z0 hv => ?_, fun lo H1 z0 => ?_⟩
  · obtain ⟨A1, l, l0, l1, l3, p1, s1, ok1, hd1, o1, hi⟩ := z0
    have so := s1.o
    have sd := s1.d
    induction hi with
    | z =>
      obtain rfl : V.str kd = v := Option.some.inj hv
      walk_at "S"
      refine ⟨D, [], rfl, hd1, ?_⟩
      walk_at "S"
      refine .isS ⟨true, rfl, ?_⟩
      rw [if_pos rfl]
      walk_at "S"
      walk_at "R"
      refine (r_atom Fn s1 ok1 hk fun H2 A2 k p2 s2 ok2 o2 hk2 => ?_).x
      walk_at "S"
      have hd2 : H2 D = some (.list []) := o2 D _ rfl hDm hd1
      refine ⟨[], hd2, by simp, ?_⟩
      walk_at "S"
      exact .mk A2 _ l0 l1 l3 (p1.trans p2) (s2.off (Off.wr1 _) dy) ok2 (upd_self _ _ _) ((o1.trans (o2.sub fun a ha => .tail _ ha)).trans (Off.wrA _)) (.a hk2)
    | a hkc =>
      obtain rfl : V.tup cu = v := Option.some.inj hv
      walk_at "S"
      refine ⟨D, _, rfl, hd1, ?_⟩
      walk_at "S"
      refine .isT ⟨false, rfl, ?_⟩
      rw [if_neg (by decide)]
      walk_at "S"
      refine ap2 hd1 (by simp) ?_
      walk_at "S"
      exact .mk A1 _ l0 l1 l3 p1 (s1.off (Off.wr1 _) dy) ok1 (upd_self _ _ _) (o1.trans (Off.wrA _)) (.b hkc)
    | b hkc => cases hv
  · obtain ⟨A1, l, l0, l1, l3, p1, s1, ok1, hd1, o1, hi⟩ := z0
    obtain ⟨kc, hkc, rfl⟩ := hi.out
    have so := s1.o
    have sd := s1.d
    walk_at "S"
    walk_at "R"
    walk_at "S"
    walk_at "S"
    refine bQ.lenL hd1 rfl (by simp) ?_
    walk_at "S"
    refine (r_func (r := 2) Fn s1 ok1 hn (by (first | lia | omega)) fun H2 A2 F2 k p2 f2 s2 ok2 o2 hk2 => ?_).x
    walk_at "S"
    walk_at "S"
    have hd2 := o2 D _ rfl hDm hd1
    refine bQ.tupL hd2 (by simp) ?_
    walk_at "S"
    walk_at "S"
    refine hq H2 A2 F2 k kc (p1.trans p2) f2 s2 ok2 ?_ hk2 (pre_get p2 hkc)
    exact o0.chain (o1.trans (o2.sub fun a ha => .tail _ ha)) fun a ha => (List.mem_cons.mp ha).elim (fun q => .inr (q ▸ .of hD)) .inl
theorem c_type_error (Fn : Fns K) (hM : ExcMk K 51 48) (s : SyAt H y A F) (ok : SyOk A F) {kd : Str} (hk : kd ∈ sxl) {t : Tm}
    (hq : ∀ e H' A' F' kf kc, A <+: A' → F <+: F' → SyAt H' y A' F' → SyOk A' F' → Off y.mut H H' → IsF A' F' kf (sx 32) 2 → A'[kc]? = some kd → (∃ d, H' e = some (.exc 51 (some d) none)) → ErrAt H H' e (tmV (ballT (.s kf [.a kc, t]))) → Q (.ref e) H') :
    CC prog (tab K) (n + 4) (.ref 186) [.ref y.o, .str kd, tmV t] H Q := by
  obtain ⟨cu, ht⟩ : ∃ cu, tmV t = .tup cu := by cases t <;> exact ⟨_, by rw [tmV]⟩
  refine cc_fn Fn.f_type_error rfl ?_
  unfold s_type_error
  rw [ht]
  walk_at "S"
  walk_at "S"
  refine (c_formal_of Fn s ok (sx_mem (by (first | lia | omega))) hk fun H1 A1 F1 kf kc p1 f1 s1 ok1 o1 h1 h2 => ?_).x
  walk_at "S"
  have e : V.tup [.str (sx 29), .int (kf : Nat), .tup [.tup [.str (sx 30), .int (kc : Nat)], .tup cu]] = tmV (.s kf [.a kc, t]) := by rw [← ht]; simp [tmV, tmVs]
  rw [e]
  refine (c_system_error Fn hM fun e H2 g1 g2 o2 => ?_).x
  walk_at "S"
  exact hq e H2 A1 F1 kf kc p1 f1 (s1.off o2 fun _ _ => by simp) ok1 (o1.trans (o2.sub (by simp))) h1 h2 g1 (g2.mut s1 o1)
theorem c_domain_error (Fn : Fns K) (hM : ExcMk K 51 48) (s : SyAt H y A F) (ok : SyOk A F) {kd : Str} (hk : kd ∈ sxl) {t : Tm}
    (hq : ∀ e H' A' F' kf kc, A <+: A' → F <+: F' → SyAt H' y A' F' → SyOk A' F' → Off y.mut H H' → IsF A' F' kf (sx 33) 2 → A'[kc]? = some kd → (∃ d, H' e = some (.exc 51 (some d) none)) → ErrAt H H' e (tmV (ballT (.s kf [.a kc, t]))) → Q (.ref e) H') :
    CC prog (tab K) (n + 4) (.ref 193) [.ref y.o, .str kd, tmV t] H Q := by
  obtain ⟨cu, ht⟩ : ∃ cu, tmV t = .tup cu := by cases t <;> exact ⟨_, by rw [tmV]⟩
  refine cc_fn Fn.f_domain_error rfl ?_
  unfold s_domain_error
  rw [ht]
  walk_at "S"
  walk_at "S"
  refine (c_formal_of Fn s ok (sx_mem (by (first | lia | omega))) hk fun H1 A1 F1 kf kc p1 f1 s1 ok1 o1 h1 h2 => ?_).x
  walk_at "S"
  have e : V.tup [.str (sx 29), .int (kf : Nat), .tup [.tup [.str (sx 30), .int (kc : Nat)], .tup cu]] = tmV (.s kf [.a kc, t]) := by rw [← ht]; simp [tmV, tmVs]
  rw [e]
  refine (c_system_error Fn hM fun e H2 g1 g2 o2 => ?_).x
  walk_at "S"
  exact hq e H2 A1 F1 kf kc p1 f1 (s1.off o2 fun _ _ => by simp) ok1 (o1.trans (o2.sub (by simp))) h1 h2 g1 (g2.mut s1 o1)
end

set_option maxHeartbeats 1000000

/-- cells -/
noncomputable abbrev Cl := Nat × Nat
noncomputable def clV (c : Cl) : V := .tup [.int c.1, .int c.2]
theorem clV_inj {c d : Cl} : clV c = clV d ↔ c = d := by
  constructor
  · intro h
    simp only [clV, V.tup.injEq, List.cons.injEq, V.int.injEq, Int.natCast_inj, and_true] at h
    exact Prod.ext h.1 h.2
  · rintro rfl; rfl
theorem clV_plain {n : Nat} (c : Cl) : plain (n + 2) (clV c) = true := rfl
structure Ly where
  y : Sy
  st : Addr
  sd : Addr
  hp : Addr
  sk : Addr
  tr : Addr
noncomputable def stL (o hp sk tr : Addr) : List (Nat × V) := [(0, .ref o), (1, .int 100000), (2, .ref hp), (3, .ref sk), (4, .ref tr), (5, .int 0), (6, .int 0)]
noncomputable def Ly.own (L : Ly) : List Addr := [L.st, L.sd, L.hp, L.sk, L.tr]
structure StAt (H : HM) (L : Ly) (h : List Cl) : Prop where
  st : H L.st = some (.inst 402 L.sd)
  sd : H L.sd = some (.attrs (atL (stL L.y.o L.hp L.sk L.tr)))
  hp : H L.hp = some (.list (h.map clV))
  sk : H L.sk = some (.list [])
  tr : H L.tr = some (.list [])
  nd : (L.y.all ++ L.own).Nodup
theorem StAt.off {H H' : HM} {L : Ly} {h : List Cl} {l : List Addr} (s : StAt H L h) (o : Off l H H') (hd : ∀ a ∈ L.own, a ∉ l) : StAt H' L h where
  st := o _ _ rfl (hd _ (by simp [Ly.own])) s.st
  sd := o _ _ rfl (hd _ (by simp [Ly.own])) s.sd
  hp := o _ _ rfl (hd _ (by simp [Ly.own])) s.hp
  sk := o _ _ rfl (hd _ (by simp [Ly.own])) s.sk
  tr := o _ _ rfl (hd _ (by simp [Ly.own])) s.tr
  nd := s.nd
theorem StAt.all {P : Addr → Prop} {L : Ly} (h1 : P L.st) (h2 : P L.sd) (h3 : P L.hp) (h4 : P L.sk) (h5 : P L.tr) : ∀ a ∈ L.own, P a := fun a ha => by
  simp only [Ly.own, List.mem_cons, List.mem_nil_iff, or_false] at ha
  rcases ha with rfl | rfl | rfl | rfl | rfl <;> assumption
theorem StAt.wrS {H : HM} {L : Ly} {h : List Cl} (t : StAt H L h) {S : Addr} {f : Int → Bool} {k : Nat} (hS : H S = some (.set f k)) (m : M) : StAt (upd H S m) L h := t.off (Off.wr1 m) (StAt.all (fun q => ne_kd t.st hS rfl (List.mem_singleton.mp q)) (fun q => ne_kd t.sd hS rfl (List.mem_singleton.mp q)) (fun q => ne_kd t.hp hS rfl (List.mem_singleton.mp q)) (fun q => ne_kd t.sk hS rfl (List.mem_singleton.mp q)) fun q => ne_kd t.tr hS rfl (List.mem_singleton.mp q))
/-- what was told before a thing was there is not that thing -/
theorem StAt.wrF {H0 H : HM} {L : Ly} {h h0 : List Cl} (t : StAt H L h) {D : Addr} (t0 : StAt H0 L h0) (hD : Fresh H0 D) (m : M) : StAt (upd H D m) L h := t.off (Off.wr1 m) (StAt.all (fun q => hD _ rfl (List.mem_singleton.mp q ▸ t0.st)) (fun q => hD _ rfl (List.mem_singleton.mp q ▸ t0.sd)) (fun q => hD _ rfl (List.mem_singleton.mp q ▸ t0.hp)) (fun q => hD _ rfl (List.mem_singleton.mp q ▸ t0.sk)) fun q => hD _ rfl (List.mem_singleton.mp q ▸ t0.tr))
theorem StAt.offM {H H' : HM} {L : Ly} {h : List Cl} (s : StAt H L h) (o : Off L.y.mut H H') : StAt H' L h := s.off o fun a ha q => by
  have := (List.nodup_append.mp s.nd).2.2 a (by
    simp only [Sy.mut, Sy.all, List.mem_cons] at q ⊢
    rcases q with q | q | q | q | q <;> simp_all) a ha
  exact this rfl
theorem StAt.hpne {H : HM} {L : Ly} {h : List Cl} (s : StAt H L h) : L.st ≠ L.hp ∧ L.sd ≠ L.hp ∧ L.sk ≠ L.hp ∧ L.tr ≠ L.hp := by
  have nd := (List.nodup_append.mp s.nd).2.1
  simp only [Ly.own, List.nodup_cons, List.mem_cons, List.mem_nil_iff, or_false, not_or, List.nodup_nil, and_true, not_false_iff] at nd
  obtain ⟨⟨n1, n2, n3, n4⟩, ⟨n5, n6, n7⟩, ⟨n8, n9⟩, n10⟩ := nd
  exact ⟨n2, n5, Ne.symm n8, Ne.symm n9⟩
theorem StAt.upH {H : HM} {L : Ly} {h : List Cl} (s : StAt H L h) (h' : List Cl) : StAt (upd H L.hp (.list (h'.map clV))) L h' := by
  obtain ⟨n1, n2, n3, n4⟩ := s.hpne
  exact ⟨(upd_ne n1).trans s.st, (upd_ne n2).trans s.sd, upd_self _ _ _, (upd_ne n3).trans s.sk, (upd_ne n4).trans s.tr, s.nd⟩
theorem SyAt.offH {H H' : HM} {L : Ly} {h : List Cl} {A : List Str} {F : List FR} (s : SyAt H L.y A F) (t : StAt H L h) (o : Off [L.hp] H H') : SyAt H' L.y A F := s.off o fun a ha q => by
  simp only [List.mem_singleton] at q
  subst q
  exact (List.nodup_append.mp t.nd).2.2 _ ha L.hp (by simp [Ly.own]) rfl
-- comparisons, branches, subscripts
section
variable {H : HM}
open Classical in
theorem e_if {x y : V} {Q : Bool → Prop} (hx : plain 60 x = true) (hy : plain 60 y = true) (ht : x = y → Q true) (hf : x ≠ y → Q false) : eqG x y H Q := by
  refine .inl ⟨hx, hy, ?_⟩
  by_cases h : x = y
  · rw [decide_eq_true h]; exact ht h
  · rw [decide_eq_false h]; exact hf h
theorem e_int {a b : Int} {Q : Bool → Prop} (ht : a = b → Q true) (hf : a ≠ b → Q false) : eqG (.int a) (.int b) H Q :=
  e_if rfl rfl (fun h => ht (by simpa using h)) fun h => hf (by simpa using h)
theorem sx_ok : ∀ i, i < 50 → PyData.strOk (sx i) = true := by decide +kernel
theorem e_str {i j : Nat} {Q : Bool → Prop} (hi : i < 50) (hj : j < 50) (ht : i = j → Q true) (hf : i ≠ j → Q false) : eqG (.str (sx i)) (.str (sx j)) H Q :=
  e_if (sx_ok i hi) (sx_ok j hj) (fun h => ht ((sx_inj hi hj).mp (by simpa using h))) fun h => hf fun e => h (by rw [e])
theorem b_t {P R : Prop} (h : P) : if true = true then P else R := by rw [if_pos rfl]; exact h
theorem b_f {P R : Prop} (h : R) : if false = true then P else R := by rw [if_neg (by decide)]; exact h
theorem b_nt {P R : Prop} (h : R) : if (!true) = true then P else R := by rw [if_neg (by decide)]; exact h
theorem b_nf {P R : Prop} (h : P) : if (!false) = true then P else R := by rw [if_pos (by decide)]; exact h
theorem sbI {l : List V} {j : Int} {z : V} {Q : V → Prop} (h0 : 0 ≤ j) (h1 : j < 1000000) (e : l[j.toNat]? = some z) (q : Q z) : subV (.tup l) (.int j) H Q := .tup h0 h1 e q
theorem sbH {hp : Addr} {h : List Cl} {a : Nat} {c : Cl} {Q : V → Prop} (hh : H hp = some (.list (h.map clV))) (e : h[a]? = some c) (hb : a < 1000000) (q : Q (clV c)) : subV (.ref hp) (.int (a : Nat)) H Q := by
  exact subV.list hh (Int.natCast_nonneg _) (Int.ofNat_lt.mpr hb) (by rw [Int.toNat_natCast, List.getElem?_map, e]; rfl) q
end
/-- the law's three cells at the heap's foot -/
structure Hd (h : List Cl) (tr : Nat) : Prop where
  h0 : h[0]? = some (0, 0)
  h1 : h[1]? = some (4, tr)
  h2 : h[2]? = some (0, 0)
noncomputable def okC (c : Cl) : Prop := c.1 ≠ 1 ∧ (c.1 = 0 → c.2 < 3)
noncomputable def drC (tr : Nat) (c : Cl) : Cl := if c.1 = 0 then (if c.2 = 1 then (4, tr) else (0, 0)) else c
theorem drC_ne {tr : Nat} {c : Cl} (h : c.1 ≠ 0) : drC tr c = c := by unfold drC; rw [if_neg h]
section
variable {prog : Program} {K : Frag} {H : HM} {Q : QV} {n : Nat} {L : Ly} {h : List Cl} {A : List Str} {F : List FR}
theorem c_push (Fn : Fns K) (t : StAt H L h) (hb : h.length < 100000) {c : Cl} (hq : ∀ H', StAt H' L (h ++ [c]) → Off [L.hp] H H' → Q (.int h.length) H') : CC prog (tab K) (n + 1) (.ref 223) [.ref L.st, clV c] H Q := by
  refine cc_fn Fn.f_Cells_push rfl ?_
  unfold s_Cells_push
  have to := t.st
  have td := t.sd
  walk_at "R"
  refine bQ.lenL t.hp (List.length_map _) (by (first | lia | omega)) ?_
  walk_at "R"
  refine bi2 (b_ifd (fun q => absurd q (by (first | lia | omega))) fun _ => ?_)
  walk_at "R"
  refine ap1 t.hp ?_
  walk_at "S"
  refine ap2 t.hp (by simp; (first | lia | omega)) ?_
  walk_at "S"
  rw [show h.map clV ++ [clV c] = (h ++ [c]).map clV by simp]
  exact hq _ (t.upH _) (Off.wr _ (by simp))
theorem c_new_var (Fn : Fns K) (t : StAt H L h) (hb : h.length < 100000) (hq : ∀ H', StAt H' L (h ++ [(0, h.length)]) → Off [L.hp] H H' → Q (clV (0, h.length)) H') : CC prog (tab K) (n + 2) (.ref 230) [.ref L.st] H Q := by
  refine cc_fn Fn.f_Cells_new_var rfl ?_
  unfold s_Cells_new_var
  have to := t.st
  have td := t.sd
  walk_at "R"
  refine bQ.lenL t.hp (List.length_map _) (by (first | lia | omega)) ?_
  walk_at "S"
  walk_at "R"
  refine (c_push (c := (0, h.length)) Fn t hb fun H' t' o => ?_).x
  walk_at "S"
  exact hq H' t' o
theorem c_deref (Fn : Fns K) (t : StAt H L h) {tr : Nat} (hd : Hd h tr) {c : Cl} (hc : okC c) (hq : Q (clV (drC tr c)) H) : CC prog (tab K) (n + 1) (.ref 251) [.ref L.st, clV c] H Q := by
  refine cc_fn Fn.f_Cells_deref rfl ?_
  unfold s_Cells_deref
  have to := t.st
  have td := t.sd
  walk_at "S"
  refine ⟨fun m lo H' => H' = H ∧ lo 0 = some (.ref L.st) ∧ ∃ c', lo 1 = some (clV c') ∧ okC c' ∧ drC tr c' = drC tr c ∧ m = (if c'.1 = 0 then c'.2 + 1 else 0), ⟨_, rfl, rfl, c, rfl, hc, rfl, rfl⟩, fun m lo H' z0 => ?_⟩
  obtain ⟨rfl, l0, c', l1, hc', ed, hm⟩ := z0
  walk_at "S"
  refine b_t ?_
  walk_at "S"
  walk_at "S"
  refine sbI (by decide) (by decide) rfl ?_
  walk_at "S"
  refine e_int (fun h0 => b_t ?_) fun h0 => b_f ?_
  · have h0' : c'.1 = 0 := by (first | lia | omega)
    have h3 := hc'.2 h0'
    have l0' : upN lo 2 (V.int ↑c'.1) 0 = some (.ref L.st) := l0
    walk_at "S"
    walk_at "R"
    walk_at "S"
    refine sbI (by decide) (by decide) rfl ?_
    obtain ⟨d, hd1, hd2, hd3⟩ : ∃ d : Cl, h[c'.2]? = some d ∧ okC d ∧ (d = c' ∧ drC tr c' = c' ∨ d ≠ c' ∧ drC tr d = drC tr c' ∧ (if d.1 = 0 then d.2 + 1 else 0) < c'.2 + 1) := by
      obtain ⟨a, b⟩ := c'
      simp only at h0' h3
      subst h0'
      have : b = 0 ∨ b = 1 ∨ b = 2 := by (first | lia | omega)
      rcases this with rfl | rfl | rfl
      · exact ⟨_, hd.h0, ⟨by simp, by simp⟩, .inl ⟨rfl, rfl⟩⟩
      · exact ⟨_, hd.h1, ⟨by simp, by simp⟩, .inr ⟨by simp, rfl, by simp⟩⟩
      · exact ⟨_, hd.h2, ⟨by simp, by simp⟩, .inr ⟨by simp, rfl, by simp⟩⟩
    refine sbH t.hp hd1 (by (first | lia | omega)) ?_
    walk_at "S"
    walk_at "S"
    refine e_if (clV_plain d) (clV_plain c') (fun he => ?_) fun he => ?_
    · refine b_t ?_
      walk_at "S"
      walk_at "S"
      rcases hd3 with ⟨_, e⟩ | ⟨e, _⟩
      · rw [e] at ed; rw [ed]; exact hq
      · exact absurd (clV_inj.mp he) e
    · refine b_f ?_
      walk_at "S"
      rcases hd3 with ⟨e, _⟩ | ⟨_, e, e2⟩
      · exact absurd (by rw [e]) he
      · rw [if_pos h0'] at hm
        exact ⟨_, by rw [hm]; exact e2, rfl, l0, d, rfl, hd2, e.trans ed, rfl⟩
  · have h0' : c'.1 ≠ 0 := by (first | lia | omega)
    walk_at "S"
    refine e_int (fun h1 => absurd (by (first | lia | omega)) hc'.1) fun h1 => b_f ?_
    walk_at "S"
    walk_at "S"
    rw [drC_ne h0'] at ed
    rw [ed]; exact hq
theorem c_is_unbound (Fn : Fns K) (t : StAt H L h) {tr : Nat} (hd : Hd h tr) {c : Cl} (hc : c.1 ≠ 0 ∧ c.1 ≠ 1 ∨ c = (0, 0)) (hq : Q (.bool (decide (c = (0, 0)))) H) : CC prog (tab K) (n + 1) (.ref 258) [.ref L.st, clV c] H Q := by
  refine cc_fn Fn.f_Cells_is_unbound rfl ?_
  unfold s_Cells_is_unbound
  have to := t.st
  have td := t.sd
  walk_at "S"
  refine sbI (by decide) (by decide) rfl ?_
  walk_at "S"
  refine e_int (fun h0 => b_t ?_) fun h0 => b_f ?_
  · obtain rfl : c = (0, 0) := by
      rcases hc with q | q
      · exact absurd (by (first | lia | omega)) q.1
      · exact q
    walk_at "R"
    refine sbI (by decide) (by decide) rfl ?_
    refine sbH t.hp hd.h0 (by (first | lia | omega)) ?_
    walk_at "S"
    refine e_if (clV_plain _) (clV_plain _) (fun he => ?_) fun he => absurd rfl he
    walk_at "S"
    simpa using hq
  · walk_at "S"
    refine sbI (by decide) (by decide) rfl ?_
    walk_at "S"
    refine e_int (fun h1 => ?_) fun h1 => b_f ?_
    · rcases hc with q | q
      · exact absurd (by (first | lia | omega)) q.2
      · subst q; simp at h1
    · walk_at "S"
      have : c ≠ (0, 0) := by rintro rfl; simp at h0
      simpa [this] using hq
theorem c_bind (Fn : Fns K) (t : StAt H L h) {p : Nat} {v : Cl} (hp : p < h.length) (hb : h.length < 100000) (hq : ∀ H', StAt H' L (h.set p v) → Off [L.hp] H H' → Q .none H') : CC prog (tab K) (n + 1) (.ref 265) [.ref L.st, clV (0, p), clV v] H Q := by
  refine cc_fn Fn.f_Cells_bind rfl ?_
  unfold s_Cells_bind
  have to := t.st
  have td := t.sd
  walk_at "S"
  refine sbI (by decide) (by decide) rfl ?_
  walk_at "S"
  refine sbI (by decide) (by decide) rfl ?_
  walk_at "S"
  refine e_int (fun h0 => b_t ?_) fun h0 => absurd rfl h0
  walk_at "R"
  refine setV.list t.hp (by (first | lia | omega)) (by simpa using hp) (by simp; (first | lia | omega)) ?_
  have t' := t.upH (h.set p v)
  have o' : Off [L.hp] H (upd H L.hp (.list ((h.set p v).map clV))) := Off.wr _ (by simp)
  rw [show (h.map clV).set (p : Int).toNat (clV v) = (h.set p v).map clV by simp]
  generalize upd H L.hp (.list ((h.set p v).map clV)) = H1 at *
  have to' := t'.st
  have td' := t'.sd
  walk_at "R"
  refine bi2 (b_ifd (fun q => absurd q (by (first | lia | omega))) fun _ => ?_)
  walk_at "S"
  exact hq H1 t' o'
theorem c_globalise (Fn : Fns K) (t : StAt H L h) {tr : Nat} (hd : Hd h tr) {c : Cl} (hc : okC c) (hq : Q (clV (drC tr c)) H) : CC prog (tab K) (n + 2) (.ref 279) [.ref L.st, clV c] H Q := by
  refine cc_fn Fn.f_Cells_globalise rfl ?_
  unfold s_Cells_globalise
  have to := t.st
  have td := t.sd
  walk_at "R"
  refine (c_deref Fn t hd hc ?_).x
  walk_at "S"
  refine sbI (by decide) (by decide) rfl ?_
  walk_at "S"
  refine e_int (fun h0 => ?_) fun h0 => b_f ?_
  · exfalso
    have h1 : (drC tr c).1 = 1 := by (first | lia | omega)
    unfold drC at h1
    split at h1
    · split at h1 <;> simp at h1
    · exact hc.1 h1
  · walk_at "S"
    exact hq
theorem c_is_compound (Fn : Fns K) {c : Cl} {o : Addr} (hq : Q (.bool (decide (c.1 = 2 ∨ c.1 = 3))) H) : CC prog (tab K) (n + 1) (.ref 307) [.ref o, clV c] H Q := by
  refine cc_fn Fn.f_Cells_is_compound rfl ?_
  unfold s_Cells_is_compound
  walk_at "S"
  refine sbI (by decide) (by decide) rfl ?_
  walk_at "S"
  refine e_int (fun h0 => ?_) fun h0 => ?_
  · refine ⟨true, rfl, b_t ?_⟩
    have : c.1 = 2 := by (first | lia | omega)
    walk_at "S"
    simpa [this] using hq
  · refine ⟨false, rfl, b_f ?_⟩
    have h0' : c.1 ≠ 2 := by intro e; rw [e] at h0; exact h0 rfl
    walk_at "S"
    refine sbI (by decide) (by decide) rfl ?_
    walk_at "S"
    refine e_int (fun h1 => ?_) fun h1 => ?_
    · have : c.1 = 3 := by (first | lia | omega)
      walk_at "S"
      simpa [this] using hq
    · have h1' : c.1 ≠ 3 := by intro e; rw [e] at h1; exact h1 rfl
      walk_at "S"
      simpa [h0', h1'] using hq
/-- a compound cell: its functor's place -/
theorem c_functor_of (Fn : Fns K) (t : StAt H L h) {c : Cl} {f : Nat} (hc : c.1 = 2 ∧ h[c.2]? = some (6, f) ∨ c.1 = 3 ∧ f = 0) (hb : c.2 < 100000) (hq : Q (.int f) H) : CC prog (tab K) (n + 1) (.ref 314) [.ref L.st, clV c] H Q := by
  refine cc_fn Fn.f_Cells_functor_of rfl ?_
  unfold s_Cells_functor_of
  have to := t.st
  have td := t.sd
  walk_at "S"
  refine sbI (by decide) (by decide) rfl ?_
  walk_at "S"
  refine e_int (fun h0 => b_t ?_) fun h0 => b_f ?_
  · have h0' : c.1 = 2 := by (first | lia | omega)
    obtain ⟨_, e⟩ := hc.resolve_right fun q => by (first | lia | omega)
    walk_at "R"
    refine sbI (by decide) (by decide) rfl ?_
    refine sbH t.hp e (by (first | lia | omega)) ?_
    walk_at "S"
    refine sbI (by decide) (by decide) rfl ?_
    exact hq
  · have h0' : c.1 ≠ 2 := by intro e; rw [e] at h0; exact h0 rfl
    obtain ⟨e3, rfl⟩ := hc.resolve_left fun q => h0' q.1
    walk_at "S"
    refine e_int (fun h0 => b_t ?_) fun h0 => absurd (by rw [e3]; rfl) h0
    walk_at "S"
    exact hq
theorem c_width (Fn : Fns K) (t : StAt H L h) (s : SyAt H L.y A F) {c : Cl} {f a r : Nat} (hc : c.1 = 2 ∧ h[c.2]? = some (6, f) ∧ F[f]? = some (a, r) ∨ c.1 = 3 ∧ r = 2) (hb : c.2 < 100000) (hf : f < 1000) (hq : Q (.int r) H) : CC prog (tab K) (n + 2) (.ref 321) [.ref L.st, clV c] H Q := by
  refine cc_fn Fn.f_Cells_width rfl ?_
  unfold s_Cells_width
  have to := t.st
  have td := t.sd
  have so := s.o
  have sd := s.d
  walk_at "S"
  refine sbI (by decide) (by decide) rfl ?_
  walk_at "S"
  refine e_int (fun h0 => b_t ?_) fun h0 => b_f ?_
  · have h0' : c.1 = 3 := by (first | lia | omega)
    obtain ⟨_, rfl⟩ := hc.resolve_left fun q => by (first | lia | omega)
    walk_at "S"
    exact hq
  · have h0' : c.1 ≠ 3 := by intro e; rw [e] at h0; exact h0 rfl
    obtain ⟨e2, e3, e4⟩ := hc.resolve_right fun q => h0' q.1
    walk_at "S"
    refine e_int (fun h0 => b_t ?_) fun h0 => absurd (by rw [e2]; rfl) h0
    walk_at "R"
    refine sbI (by decide) (by decide) rfl ?_
    refine sbH t.hp e3 (by (first | lia | omega)) ?_
    walk_at "S"
    refine sbI (by decide) (by decide) rfl ?_
    walk_at "S"
    exact (c_arity Fn s e4 hf hq).x
noncomputable def bsC (c : Cl) : Nat := if c.1 = 3 then c.2 else c.2 + 1
theorem c_base (Fn : Fns K) {c : Cl} {o : Addr} (hq : Q (.int (bsC c : Nat)) H) : CC prog (tab K) (n + 1) (.ref 328) [.ref o, clV c] H Q := by
  refine cc_fn Fn.f_Cells_base rfl ?_
  unfold s_Cells_base
  unfold bsC at hq
  walk_at "S"
  refine sbI (by decide) (by decide) rfl ?_
  walk_at "S"
  refine e_int (fun h0 => b_t ?_) fun h0 => b_f ?_
  · have h0' : c.1 = 3 := by (first | lia | omega)
    rw [if_pos h0'] at hq
    walk_at "S"
    refine sbI (by decide) (by decide) rfl ?_
    exact hq
  · have h0' : c.1 ≠ 3 := by intro e; rw [e] at h0; exact h0 rfl
    rw [if_neg h0'] at hq
    walk_at "S"
    refine sbI (by decide) (by decide) rfl ?_
    walk_at "S"
    refine bi2 ?_
    walk_at "S"
    exact hq
theorem c_arg (Fn : Fns K) (t : StAt H L h) {c d : Cl} (hd : h[bsC c]? = some d) (hb : bsC c < 100000) (hq : Q (clV d) H) : CC prog (tab K) (n + 2) (.ref 335) [.ref L.st, clV c, .int 1] H Q := by
  refine cc_fn Fn.f_Cells_arg rfl ?_
  unfold s_Cells_arg
  have to := t.st
  have td := t.sd
  walk_at "R"
  refine (c_base Fn ?_).x
  walk_at "S"
  refine bi2 ?_
  walk_at "S"
  refine bi2 ?_
  walk_at "S"
  rw [show (bsC c : Int) + 1 - 1 = (bsC c : Nat) by (first | lia | omega)]
  exact sbH t.hp hd (by (first | lia | omega)) hq
/-- r new cells, each its own -/
noncomputable def blk (b r : Nat) : List Cl := (List.range r).map fun i => (0, b + i)
theorem c_reserve (Fn : Fns K) (t : StAt H L h) {r : Nat} (hb : h.length + r ≤ 100000) (hq : ∀ H', StAt H' L (h ++ blk h.length r) → Off [L.hp] H H' → Q (.int h.length) H') : CC prog (tab K) (n + 1) (.ref 237) [.ref L.st, .int r] H Q := by
  refine cc_fn Fn.f_Cells_reserve rfl ?_
  unfold s_Cells_reserve
  have to := t.st
  have td := t.sd
  walk_at "R"
  refine bQ.lenL t.hp (List.length_map _) (by (first | lia | omega)) ?_
  walk_at "R"
  refine bi2 ?_
  walk_at "R"
  refine bi2 (b_ifd (fun q => absurd q (by (first | lia | omega))) fun _ => ?_)
  walk_at "S"
  refine .inl ⟨_, rfl, by (first | lia | omega), by (first | lia | omega), ?_⟩
  refine ⟨fun i lo H' => lo 0 = some (.ref L.st) ∧ lo 2 = some (.int h.length) ∧ StAt H' L (h ++ blk h.length i) ∧ Off [L.hp] H H', ⟨rfl, rfl, by simpa [blk] using t, Off.refl _ _⟩, fun _ _ _ _ => trivial, fun i v lo H1 z0 hv => ?_, fun lo H1 z0 => ?_⟩
  · have l0 := z0.1
    have l2 := z0.2.1
    have t1 := z0.2.2.1
    have o1 := z0.2.2.2
    clear z0
    have hi : i < r := by
      rcases Nat.lt_or_ge i r with q | q
      · exact q
      · rw [List.getElem?_eq_none (by simp [ranged]; exact q)] at hv; cases hv
    have e : v = .int (i : Nat) := by
      simp only [ranged, Int.toNat_natCast, List.getElem?_map] at hv
      rw [List.getElem?_range hi] at hv
      simpa using hv.symm
    subst e
    have to' := t1.st
    have td' := t1.sd
    walk_at "S"
    walk_at "R"
    refine ap1 t1.hp ?_
    walk_at "S"
    walk_at "S"
    refine bi2 ?_
    walk_at "S"
    refine ap2 t1.hp (by simp [blk]; (first | lia | omega)) ?_
    walk_at "S"
    have e2 : (h ++ blk h.length i).map clV ++ [.tup [.int 0, .int ((h.length : Int) + (i : Int))]] = (h ++ blk h.length (i + 1)).map clV := by
      simp [blk, List.range_succ, clV]
    rw [e2]
    exact ⟨l0, l2, t1.upH _, o1.trans (Off.wr _ (by simp))⟩
  · have l0 := z0.1
    have l2 := z0.2.1
    have t1 := z0.2.2.1
    have o1 := z0.2.2.2
    clear z0
    have e : (ranged 0 (r : Int) 1).length = r := by simp [ranged]
    rw [e] at t1
    walk_at "S"
    walk_at "S"
    exact hq H1 t1 o1
theorem c_new_block (Fn : Fns K) (t : StAt H L h) (s : SyAt H L.y A F) {f a r : Nat} (hf : F[f]? = some (a, r)) (hf' : f < 1000) (h0 : f = 0 → r = 2) (hb : h.length + r + 1 ≤ 100000)
    (hq : ∀ H', StAt H' L (if f = 0 then h ++ blk h.length 2 else h ++ (6, f) :: (blk h.length (r + 1)).tail) → SyAt H' L.y A F → Off [L.hp] H H' → Q (clV (if f = 0 then 3 else 2, h.length)) H') : CC prog (tab K) (n + 2) (.ref 342) [.ref L.st, .int f] H Q := by
  refine cc_fn Fn.f_Cells_new_block rfl ?_
  unfold s_Cells_new_block
  have to := t.st
  have td := t.sd
  have so := s.o
  have sd := s.d
  walk_at "S"
  refine e_int (fun hf0 => b_t ?_) fun hf0 => b_f ?_
  · have hf0' : f = 0 := by (first | lia | omega)
    obtain rfl := h0 hf0'
    walk_at "R"
    refine (c_reserve (r := 2) Fn t (by (first | lia | omega)) fun H1 t1 o1 => ?_).x
    walk_at "S"
    walk_at "S"
    have := hq H1 (by rw [if_pos hf0']; exact t1) (s.offH t o1) o1
    rw [if_pos hf0'] at this
    exact this
  · have hf0' : f ≠ 0 := by (first | lia | omega)
    walk_at "R"
    refine (c_arity Fn s hf hf' ?_).x
    refine bi2 ?_
    walk_at "S"
    rw [show (1 : Int) + (r : Int) = ((r + 1 : Nat) : Int) by (first | lia | omega)]
    refine (c_reserve (r := r + 1) Fn t (by (first | lia | omega)) fun H1 t1 o1 => ?_).x
    have to' := t1.st
    have td' := t1.sd
    walk_at "S"
    walk_at "R"
    refine setV.list t1.hp (by (first | lia | omega)) (by simp [blk]; (first | lia | omega)) (by simp [blk]; (first | lia | omega)) ?_
    have e : ((h ++ blk h.length (r + 1)).map clV).set (h.length : Int).toNat (.tup [.int 6, .int f]) = (h ++ (6, f) :: (blk h.length (r + 1)).tail).map clV := by
      have e3 : blk h.length (r + 1) = (0, h.length) :: (blk h.length (r + 1)).tail := by
        unfold blk; rw [List.range_succ_eq_map]; rfl
      rw [e3]
      simp [clV]
    rw [e]
    walk_at "S"
    walk_at "S"
    have o2 : Off [L.hp] H (upd H1 L.hp (.list ((h ++ (6, f) :: (blk h.length (r + 1)).tail).map clV))) := o1.trans (Off.wr _ (by simp))
    have := hq _ (by rw [if_neg hf0']; exact t1.upH _) (s.offH t o2) o2
    rw [if_neg hf0'] at this
    exact this
end

set_option maxHeartbeats 1000000

noncomputable def isS : Tm → Prop
  | .s _ _ => True
  | _ => False
mutual
/-- a term lies in the heap at a cell, no part of it below b -/
noncomputable def LaidAt (h : List Cl) (F : List FR) : Tm → Nat → Cl → Prop
  | .v n, _, c => c = (0, n) ∧ n < 3
  | .a n, _, c => c = (4, n)
  | .i n, _, c => c = (5, n)
  | .s f l, b, c => b ≤ c.2 ∧ (∃ a, F[f]? = some (a, l.length)) ∧ (f = 0 ∧ c.1 = 3 ∧ l.length = 2 ∨ f ≠ 0 ∧ c.1 = 2 ∧ h[c.2]? = some (6, f)) ∧ c.2 < 100000 ∧ LaidL h F l (c.2 + 1) (bsC c)
noncomputable def LaidL (h : List Cl) (F : List FR) : List Tm → Nat → Nat → Prop
  | [], _, _ => True
  | t :: l, b, q => (∃ c, h[q]? = some c ∧ LaidAt h F t b c) ∧ LaidL h F l b (q + 1)
end
mutual
noncomputable def fol (tr : Nat) : Tm → Tm
  | .v n => if n = 1 then .a tr else .v 0
  | .a n => .a n
  | .i n => .i n
  | .s f l => .s f (fols tr l)
noncomputable def fols (tr : Nat) : List Tm → List Tm
  | [] => []
  | t :: l => fol tr t :: fols tr l
end
mutual
noncomputable def tsz : Tm → Nat
  | .v _ => 1
  | .a _ => 1
  | .i _ => 1
  | .s _ l => 1 + tszs l
noncomputable def tszs : List Tm → Nat
  | [] => 0
  | t :: l => tsz t + tszs l
end
theorem fols_map {tr : Nat} : ∀ l : List Tm, fols tr l = l.map (fol tr)
  | [] => rfl
  | t :: l => by rw [fols, fols_map l]; rfl
theorem tsz_pos : ∀ t : Tm, 1 ≤ tsz t
  | .v _ => Nat.le_refl _
  | .a _ => Nat.le_refl _
  | .i _ => Nat.le_refl _
  | .s _ l => by rw [tsz]; (first | lia | omega)
theorem LaidL.get {h : List Cl} {F : List FR} : ∀ {l : List Tm} {b q i : Nat} {t : Tm}, LaidL h F l b q → l[i]? = some t → ∃ c, h[q + i]? = some c ∧ LaidAt h F t b c
  | [], _, _, _, _, _, e => by simp at e
  | t :: l, b, q, 0, u, x, e => by simp at e; subst e; exact x.1
  | t :: l, b, q, i + 1, u, x, e => by
    obtain ⟨c, h1, h2⟩ := x.2.get (i := i) (by simpa using e)
    exact ⟨c, by rw [← h1]; congr 1; (first | lia | omega), h2⟩
theorem LaidAt.tags {h : List Cl} {F : List FR} {t : Tm} {b : Nat} {c : Cl} (x : LaidAt h F t b c) : c.1 = 0 ∧ c.2 < 3 ∧ ¬ isS t ∨ c.1 = 4 ∧ ¬ isS t ∨ c.1 = 5 ∧ ¬ isS t ∨ (c.1 = 2 ∨ c.1 = 3) ∧ isS t := by
  cases t with
  | v n => obtain ⟨rfl, hn⟩ := x; exact .inl ⟨rfl, hn, fun q => q⟩
  | a n => have e : c = (4, n) := x; subst e; exact .inr (.inl ⟨rfl, fun q => q⟩)
  | i n => have e : c = (5, n) := x; subst e; exact .inr (.inr (.inl ⟨rfl, fun q => q⟩))
  | s f l =>
    obtain ⟨_, _, h3, _⟩ := x
    refine .inr (.inr (.inr ⟨?_, trivial⟩))
    rcases h3 with q | q
    · exact .inr q.2.1
    · exact .inl q.2.1
theorem LaidAt.ok {h : List Cl} {F : List FR} {t : Tm} {b : Nat} {c : Cl} (x : LaidAt h F t b c) : okC c := by
  rcases x.tags with q | q | q | q
  · exact ⟨by (first | lia | omega), fun _ => q.2.1⟩
  · exact ⟨by (first | lia | omega), fun e => by (first | lia | omega)⟩
  · exact ⟨by (first | lia | omega), fun e => by (first | lia | omega)⟩
  · exact ⟨by (first | lia | omega), fun e => by (first | lia | omega)⟩
theorem LaidAt.lower {h : List Cl} {F : List FR} {t : Tm} {b b' : Nat} {c : Cl} (x : LaidAt h F t b c) (hb : b' ≤ b) : LaidAt h F t b' c := by
  cases t with
  | v n => exact x
  | a n => exact x
  | i n => exact x
  | s f l => exact ⟨Nat.le_trans hb x.1, x.2⟩
theorem LaidAt.dr {h : List Cl} {F : List FR} {t : Tm} {b tr : Nat} {c : Cl} (x : LaidAt h F t b c) : ∃ t', LaidAt h F t' b (drC tr c) ∧ fol tr t' = fol tr t ∧ (isS t → t' = t) := by
  cases t with
  | v n =>
    obtain ⟨rfl, hn⟩ := x
    by_cases e : n = 1
    · subst e; exact ⟨.a tr, rfl, rfl, fun q => q.elim⟩
    · refine ⟨.v 0, ?_, ?_, fun q => q.elim⟩
      · unfold drC; simp only [if_pos, e, if_false]; exact ⟨rfl, by (first | lia | omega)⟩
      · rw [fol, fol, if_neg e, if_neg (by decide)]
  | a n => have e : c = (4, n) := x; subst e; exact ⟨_, x, rfl, fun q => q.elim⟩
  | i n => have e : c = (5, n) := x; subst e; exact ⟨_, x, rfl, fun q => q.elim⟩
  | s f l =>
    refine ⟨.s f l, ?_, rfl, fun _ => rfl⟩
    rw [drC_ne]
    · exact x
    · rcases x.tags with q | q | q | q <;> first | exact (q.2.2 trivial).elim | exact (q.2 trivial).elim | (first | lia | omega)
mutual
theorem LaidAt.inj {h : List Cl} {F : List FR} : ∀ {t t' : Tm} {b b' : Nat} {c : Cl}, LaidAt h F t b c → LaidAt h F t' b' c → t = t'
  | .v n, t', b, b', c, x, y => by
    obtain ⟨rfl, hn⟩ := x
    cases t' with
    | v m => have e := y.1; simp at e; rw [e]
    | a m => have e : ((0, n) : Cl) = (4, m) := y; simp at e
    | i m => have e : ((0, n) : Cl) = (5, m) := y; simp at e
    | s f l => rcases y.tags with q | q | q | q <;> simp [isS] at q
  | .a n, t', b, b', c, x, y => by
    have e : c = (4, n) := x
    subst e
    cases t' with
    | v m => have e := y.1; simp at e
    | a m => have e : ((4, n) : Cl) = (4, m) := y; simp at e; rw [e]
    | i m => have e : ((4, n) : Cl) = (5, m) := y; simp at e
    | s f l => rcases y.tags with q | q | q | q <;> simp [isS] at q
  | .i n, t', b, b', c, x, y => by
    have e : c = (5, n) := x
    subst e
    cases t' with
    | v m => have e := y.1; simp at e
    | a m => have e : ((5, n) : Cl) = (4, m) := y; simp at e
    | i m => have e : ((5, n) : Cl) = (5, m) := y; simp at e; rw [e]
    | s f l => rcases y.tags with q | q | q | q <;> simp [isS] at q
  | .s f l, t', b, b', c, x, y => by
    cases t' with
    | v m => have e := y.1; subst e; rcases x.tags with q | q | q | q <;> simp [isS] at q
    | a m => have e : c = (4, m) := y; subst e; rcases x.tags with q | q | q | q <;> simp [isS] at q
    | i m => have e : c = (5, m) := y; subst e; rcases x.tags with q | q | q | q <;> simp [isS] at q
    | s g m =>
      obtain ⟨_, ⟨a1, x2⟩, x3, _, x5⟩ := x
      obtain ⟨_, ⟨a2, y2⟩, y3, _, y5⟩ := y
      have e : f = g := by
        rcases x3 with q | q <;> rcases y3 with z | z
        · (first | lia | omega)
        · (first | lia | omega)
        · (first | lia | omega)
        · have := q.2.2.symm.trans z.2.2; simpa using this
      subst e
      rw [x2] at y2
      have el : l.length = m.length := by simpa using (congrArg (fun x => x.map (·.2)) y2)
      rw [LaidL.inj el x5 y5]
theorem LaidL.inj {h : List Cl} {F : List FR} : ∀ {l m : List Tm} {b b' q : Nat}, l.length = m.length → LaidL h F l b q → LaidL h F m b' q → l = m
  | [], [], _, _, _, _, _, _ => rfl
  | [], _ :: _, _, _, _, e, _, _ => by simp at e
  | _ :: _, [], _, _, _, e, _, _ => by simp at e
  | t :: l, u :: m, b, b', q, e, x, y => by
    obtain ⟨⟨c, h1, h2⟩, x'⟩ := x
    obtain ⟨⟨d, g1, g2⟩, y'⟩ := y
    first | exact (no h1 g1).elim | exact (no g1 h1).elim | obtain rfl := so h1 g1 | (rw [h1] at g1; cases g1)
    rw [LaidAt.inj h2 g2, LaidL.inj (by simpa using e) x' y']
end
/-- compound terms at one place are one term -/
theorem LaidAt.injP {h : List Cl} {F : List FR} {t t' : Tm} {b b' : Nat} {c c' : Cl} (x : LaidAt h F t b c) (y : LaidAt h F t' b' c') (hs : isS t) (hs' : isS t') (e : c.2 = c'.2) : t = t' := by
  have key : ∀ {t t' : Tm} {b b' : Nat} {c c' : Cl}, LaidAt h F t b c → LaidAt h F t' b' c' → isS t → isS t' → c.2 = c'.2 → c.1 = 3 → c'.1 = 2 → False := by
    intro t t' b b' c c' x y hs hs' e e3 e2
    cases t with
    | s f l =>
      cases t' with
      | s g m =>
        obtain ⟨_, _, x3, _, x5⟩ := x
        obtain ⟨_, _, y3, _, y5⟩ := y
        have hx : f = 0 ∧ c.1 = 3 ∧ l.length = 2 := x3.resolve_right fun q => by (first | lia | omega)
        have hy : g ≠ 0 ∧ c'.1 = 2 ∧ h[c'.2]? = some (6, g) := y3.resolve_left fun q => by (first | lia | omega)
        obtain ⟨u, hu⟩ : ∃ u, l[0]? = some u := ⟨l[0], by simp⟩
        obtain ⟨d, h1, h2⟩ := x5.get hu
        have eb : bsC c = c'.2 := by unfold bsC; rw [if_pos e3]; exact e
        rw [eb, Nat.add_zero, hy.2.2] at h1
        cases h1
        rcases h2.tags with q | q | q | q <;> simp at q
      | _ => exact hs'
    | _ => exact hs
  have tx : c.1 = 2 ∨ c.1 = 3 := by rcases x.tags with q | q | q | q <;> simp_all
  have ty : c'.1 = 2 ∨ c'.1 = 3 := by rcases y.tags with q | q | q | q <;> simp_all
  have : c = c' := by
    refine Prod.ext ?_ e
    rcases tx with q | q <;> rcases ty with z | z
    · (first | lia | omega)
    · exact (key y x hs' hs e.symm z q).elim
    · exact (key x y hs hs' e q z).elim
    · (first | lia | omega)
  subst this
  exact x.inj y
-- lists of terms
noncomputable def lst (en : Tm) : List Tm → Tm
  | [] => en
  | e :: l => .s 0 [e, lst en l]
/-- the cells of a list's elements -/
noncomputable def Els (h : List Cl) (F : List FR) : List Tm → List Cl → Prop
  | [], cs => cs = []
  | e :: l, cs => ∃ c r, cs = c :: r ∧ (∃ b, LaidAt h F e b c) ∧ Els h F l r
theorem Els.snoc {h : List Cl} {F : List FR} : ∀ {l : List Tm} {cs : List Cl} {e : Tm} {c : Cl} {b : Nat}, Els h F l cs → LaidAt h F e b c → Els h F (l ++ [e]) (cs ++ [c])
  | [], cs, e, c, b, x, y => by have e' : cs = [] := x; subst e'; exact ⟨c, [], rfl, ⟨b, y⟩, rfl⟩
  | t :: l, cs, e, c, b, x, y => by
    obtain ⟨d, r, rfl, h1, h2⟩ := x
    exact ⟨d, r ++ [c], rfl, h1, h2.snoc y⟩
theorem Els.len {h : List Cl} {F : List FR} : ∀ {l : List Tm} {cs : List Cl}, Els h F l cs → cs.length = l.length
  | [], cs, x => by have e' : cs = [] := x; subst e'; rfl
  | t :: l, cs, x => by obtain ⟨d, r, rfl, _, h2⟩ := x; simp [h2.len]
theorem Els.get {h : List Cl} {F : List FR} : ∀ {l : List Tm} {cs : List Cl} {i : Nat} {e : Tm}, Els h F l cs → l[i]? = some e → ∃ c b, cs[i]? = some c ∧ LaidAt h F e b c
  | [], _, _, _, _, q => by simp at q
  | t :: l, cs, 0, e, x, q => by
    obtain ⟨d, r, rfl, ⟨b, h1⟩, h2⟩ := x
    simp at q; subst q
    exact ⟨d, b, rfl, h1⟩
  | t :: l, cs, i + 1, e, x, q => by
    obtain ⟨d, r, rfl, ⟨b, h1⟩, h2⟩ := x
    exact h2.get (by simpa using q)
/-- a list's cell -/
inductive CellAt (h : List Cl) (F : List FR) (tr : Nat) (e t : Tm) (b : Nat) (c : Cl) : Prop
  | mk (c1 c2 : Cl) (hb : b ≤ c.2) (hx : c.1 = 3) (hlt : c.2 < 100000) (edr : drC tr c = c) (g1 : h[c.2]? = some c1) (g2 : LaidAt h F e (c.2 + 1) c1) (g3 : h[c.2 + 1]? = some c2) (g4 : LaidAt h F t (c.2 + 1) c2) : CellAt h F tr e t b c
theorem LaidAt.cell {h : List Cl} {F : List FR} (tr : Nat) {e t : Tm} {b : Nat} {c : Cl} (x : LaidAt h F (.s 0 [e, t]) b c) : CellAt h F tr e t b c := by
  obtain ⟨hb, _, h3, hlt, h5⟩ := x
  have hx : c.1 = 3 := (h3.resolve_right fun q => q.1 rfl).2.1
  have eb : bsC c = c.2 := by unfold bsC; rw [if_pos hx]
  rw [eb] at h5
  obtain ⟨⟨c1, g1, g2⟩, ⟨c2, g3, g4⟩, _⟩ := h5
  exact ⟨c1, c2, hb, hx, hlt, drC_ne (by (first | lia | omega)), g1, g2, g3, g4⟩
theorem LaidAt.no3 {h : List Cl} {F : List FR} {tr : Nat} {en : Tm} (hen : ¬ isS en) {b : Nat} {c : Cl} (x : LaidAt h F en b c) : (drC tr c).1 ≠ 3 := by
  unfold drC
  rcases x.tags with q | q | q | q
  · rw [if_pos q.1]; split <;> simp
  · rw [if_neg (by (first | lia | omega))]; (first | lia | omega)
  · rw [if_neg (by (first | lia | omega))]; (first | lia | omega)
  · exact absurd q.2 hen
theorem inSet {H : HM} {S : Addr} {SS : Int → Bool} {k : Nat} {i : Int} {b : Bool} {Q : Bool → Prop} (hS : H S = some (.set SS k)) (hb : SS i = b) (q : Q b) : inV (.int i) (.ref S) H Q := .inr (.inl ⟨_, _, _, _, rfl, rfl, hS, hb ▸ q⟩)
theorem addNew {H : HM} {d : Addr} {S : Int → Bool} {m : Nat} {i : Int} {Q : HM → Prop} (e : H d = some (.set S m)) (hm : m ≤ 4000) (hn : S i = false) (q : Q (upd H d (.set (fun j => S j || decide (j = i)) (m + 1)))) :
    ∃ S m i', V.int i = .int i' ∧ H d = some (.set S m) ∧ m ≤ 4000 ∧ Q (upd H d (.set (fun j => S j || decide (j = i')) (if S i' = true then m else m + 1))) := ⟨S, m, i, rfl, e, hm, by rw [hn]; exact q⟩
/-- the state of list_cells between two turns -/
inductive LcJ (H1 : HM) (L : Ly) (h : List Cl) (F : List FR) (tr : Nat) (els : List Tm) (en : Tm) (D S : Addr) : Nat → Lo → HM → Prop
  | mk {lo : Lo} {H' : HM} (dn rs : List Tm) (cs : List Cl) (c' : Cl) (b' : Nat) (SS : Int → Bool) (k : Nat) (l0 : lo 0 = some (.ref L.st)) (l1 : lo 1 = some (clV (drC tr c'))) (l2 : lo 2 = some (.ref D)) (l3 : lo 3 = some (.ref S)) (t : StAt H' L h) (o : Off [D, S] H1 H')
    (he : els = dn ++ rs) (hE : Els h F dn cs) (hL : LaidAt h F (lst en rs) b' c') (hD : H' D = some (.list (cs.map fun c => clV (drC tr c)))) (hS : H' S = some (.set SS k)) (hk : k ≤ dn.length) (hSS : ∀ z, SS z = true → z < (b' : Int)) : LcJ H1 L h F tr els en D S rs.length lo H'
theorem LcJ.len {els dn rs : List Tm} (he : els = dn ++ rs) (hl : els.length ≤ 1000) : dn.length + rs.length ≤ 1000 := by rw [he, List.length_append] at hl; exact hl
theorem SS_no {SS : Int → Bool} {b : Nat} {i : Int} (h : ∀ z, SS z = true → z < (b : Int)) (hi : (b : Int) ≤ i) : SS i = false := by
  cases q : SS i with
  | false => rfl
  | true => have := h _ q; (first | lia | omega)
theorem SS_up {SS : Int → Bool} {b i : Nat} (h : ∀ z, SS z = true → z < (b : Int)) (hi : b ≤ i) : ∀ z, (SS z || decide (z = (i : Int))) = true → z < ((i + 1 : Nat) : Int) := fun z hz => by
  simp only [Bool.or_eq_true, decide_eq_true_eq] at hz
  rcases hz with q | q
  · have := h z q; (first | lia | omega)
  · (first | lia | omega)
section
variable {prog : Program} {K : Frag} {H : HM} {Q : QV} {n : Nat} {L : Ly} {h : List Cl} {A : List Str} {F : List FR}
theorem c_list_cells (Fn : Fns K) (t : StAt H L h) {tr : Nat} (hd : Hd h tr) {els : List Tm} {en : Tm} (hen : ¬ isS en) (hl : els.length ≤ 1000) {b : Nat} {c : Cl} (hc : LaidAt h F (lst en els) b c)
    (hq : ∀ D H' cs ct, Els h F els cs → (∃ b', LaidAt h F en b' ct) → Fresh H D → H' D = some (.list (cs.map fun c => clV (drC tr c))) → Off [] H H' → Q (.tup [.ref D, clV (drC tr ct)]) H') :
    CC prog (tab K) (n + 2) (.ref 378) [.ref L.st, clV c] H Q := by
  refine cc_fn Fn.f_Store_list_cells rfl ?_
  unfold s_Store_list_cells
  walk_at "R"
  refine fun D hD => ?_
  have o0 : Off [] H (upd H D (.list [])) := Off.nw _ hD
  have d0 := upd_self H D (.list [])
  have t0 := t.off o0 fun _ _ => by simp
  generalize upd H D (.list []) = H0 at *
  walk_at "R"
  refine bQ.set fun S hS => ?_
  have o1 : Off [] H0 (upd H0 S (.set (fun _ => false) 0)) := Off.nw _ hS
  have s1 := upd_self H0 S (.set (fun _ => false) 0)
  have d1 := o1 D _ rfl (by simp) d0
  have t1 := t0.off o1 fun _ _ => by simp
  have fS : Fresh H S := (Fresh.of hS).back o0 (by simp)
  generalize upd H0 S (.set (fun _ => false) 0) = H1 at *
  have to := t1.st
  have td := t1.sd
  walk_at "R"
  refine (c_deref Fn t1 hd hc.ok ?_).x
  walk_at "R"
  refine ⟨LcJ H1 L h F tr els en D S, ⟨_, .mk [] els [] c b _ _ rfl rfl rfl rfl t1 (Off.refl _ _) rfl rfl hc d1 s1 (Nat.le_refl _) fun _ q => by cases q⟩, fun m lo H' z0 => ?_⟩
  clear to td
  induction z0 with | @mk lo H' dn rs cs c' b' SS k l0 l1 l2 l3 t' o' he hE hL hD' hS' hk hSS => ?_
  have to := t'.st
  have td := t'.sd
  have hlen := LcJ.len he hl
  cases rs with
  | nil =>
    have h3 : (drC tr c').1 ≠ 3 := LaidAt.no3 hen hL
    walk_at "R"
    refine sbI (by decide) (by decide) rfl ?_
    walk_at "R"
    refine e_int (fun h0 => absurd (Int.ofNat.inj h0) h3) fun h0 => ?_
    refine b_f ?_
    refine b_f ?_
    walk_at "R"
    walk_at "R"
    exact hq D H' cs c' ((he.trans (List.append_nil dn)) ▸ hE) ⟨b', hL⟩ (.of hD) hD' ((o0.trans o1).chain o' (mem2 (.inr (.of hD)) (.inr fS)))
  | cons e rs =>
    obtain ⟨c1, c2, hb, hx, hlt, edr, g1, g2, g3, g4⟩ := LaidAt.cell (e := e) (t := lst en rs) tr hL
    clear hL
    rw [edr] at l1
    walk_at "R"
    refine sbI (by decide) (by decide) rfl ?_
    walk_at "R"
    refine e_int (fun h0 => ?_) fun h0 => absurd (congrArg Int.ofNat hx) h0
    refine b_t ?_
    walk_at "R"
    refine sbI (by decide) (by decide) rfl ?_
    walk_at "R"
    have hno := SS_no hSS (Int.ofNat_le.mpr hb)
    refine inSet hS' hno ?_
    refine b_t ?_
    walk_at "R"
    refine ⟨S, SS, k, rfl, hS', ?_⟩
    walk_at "R"
    refine sbI (by decide) (by decide) rfl ?_
    refine addNew hS' (by (first | lia | omega)) hno ?_
    have hDS := ne_kd hD' hS' rfl
    have hS1 := upd_self H' S (.set (fun j => SS j || decide (j = (c'.2 : Nat))) (k + 1))
    have t2 := t'.wrS hS' (.set (fun j => SS j || decide (j = (c'.2 : Nat))) (k + 1))
    have hD1 := (upd_ne (m := .set (fun j => SS j || decide (j = ((c'.2 : Nat) : Int))) (k + 1)) hDS).trans hD'
    have o2 := o'.trans (Off.wrB (l := []) (b := D) (a := S) (.set (fun j => SS j || decide (j = (c'.2 : Nat))) (k + 1)))
    generalize upd H' S (.set (fun j => SS j || decide (j = (c'.2 : Nat))) (k + 1)) = H2 at *
    clear to td t' o' hD' hS' hno
    have to := t2.st
    have td := t2.sd
    walk_at "R"
    refine ⟨D, _, rfl, hD1, ?_⟩
    walk_at "R"
    refine sbI (by decide) (by decide) rfl ?_
    refine sbH t2.hp g1 (Nat.lt_trans hlt (by decide)) ?_
    walk_at "R"
    refine (c_deref Fn t2 hd g2.ok ?_).x
    refine ap2 hD1 (by rw [List.length_map, hE.len]; (first | lia | omega)) ?_
    have e3 : cs.map (fun c => clV (drC tr c)) ++ [clV (drC tr c1)] = (cs ++ [c1]).map fun c => clV (drC tr c) := by rw [List.map_append]; rfl
    rw [e3]
    clear e3
    have hD2 := upd_self H2 D (.list ((cs ++ [c1]).map fun c => clV (drC tr c)))
    have hS2 := (upd_ne (m := .list ((cs ++ [c1]).map fun c => clV (drC tr c))) hDS.symm).trans hS1
    have t3 := t2.wrF t (.of hD) (.list ((cs ++ [c1]).map fun c => clV (drC tr c)))
    have o3 := o2.trans (Off.wrA (l := [S]) (a := D) (.list ((cs ++ [c1]).map fun c => clV (drC tr c))))
    generalize upd H2 D (.list ((cs ++ [c1]).map fun c => clV (drC tr c))) = H3 at *
    clear to td t2 o2 hD1 hS1
    have to := t3.st
    have td := t3.sd
    walk_at "R"
    refine sbI (by decide) (by decide) rfl ?_
    walk_at "R"
    refine bi2 ?_
    walk_at "R"
    refine sbH (a := c'.2 + 1) t3.hp g3 (by (first | lia | omega)) ?_
    walk_at "R"
    refine (c_deref Fn t3 hd g4.ok ?_).x
    walk_at "R"
    exact ⟨rs.length, Nat.lt_succ_self _, .mk (dn ++ [e]) rs (cs ++ [c1]) c2 (c'.2 + 1) _ _ l0 rfl l2 l3 t3 o3 (by rw [he, List.append_assoc]; rfl) (hE.snoc g2) g4 hD2 hS2 (by rw [List.length_append]; exact Nat.succ_le_succ hk) (SS_up hSS hb)⟩
end

set_option maxHeartbeats 1000000

/-- what lies on the work list -/
inductive Wk where
  | vis (b : Nat) (c : Cl) (t : Tm)
  | bld (c : Cl) (f : Nat) (l : List Tm)
noncomputable def Wk.val : Wk → V
  | .vis _ c _ => .tup [.int 0, clV c]
  | .bld c _ _ => .tup [.int 1, clV c]
noncomputable def Wk.wt : Wk → Nat
  | .vis _ _ t => 2 * tsz t
  | .bld _ _ _ => 1
noncomputable def wts : List Wk → Nat
  | [] => 0
  | w :: r => w.wt + wts r
noncomputable def blds : List Wk → List Nat
  | [] => []
  | .vis _ _ _ :: r => blds r
  | .bld c _ _ :: r => c.2 :: blds r
/-- the work list leads to the term -/
noncomputable def Go (h : List Cl) (F : List FR) (tr : Nat) (T0 : Tm) : List Wk → List Tm → (Nat → Prop) → Prop
  | [], R, _ => R = [fol tr T0]
  | .vis b c t :: W, R, D => LaidAt h F t b c ∧ (∀ q ∈ blds W, q < b) ∧ Go h F tr T0 W (R ++ [fol tr t]) (fun p => D p ∨ (isS t ∧ p = c.2))
  | .bld c f l :: W, R, D => LaidAt h F (.s f l) c.2 c ∧ (∀ (i : Nat) (t' : Tm) (c' : Cl), l[i]? = some t' → h[bsC c + i]? = some c' → isS t' → D c'.2) ∧ ∃ R0, R = R0 ++ l.map (fol tr) ∧ Go h F tr T0 W (R0 ++ [fol tr (.s f l)]) (fun p => D p ∨ p = c.2)
theorem Go.mono {h : List Cl} {F : List FR} {tr : Nat} {T0 : Tm} : ∀ {W : List Wk} {R : List Tm} {D D' : Nat → Prop}, (∀ p, D p → D' p) → Go h F tr T0 W R D → Go h F tr T0 W R D'
  | [], _, _, _, _, g => g
  | .vis _ _ _ :: W, _, _, _, hD, ⟨g1, g2, g3⟩ => ⟨g1, g2, g3.mono fun p q => q.imp (hD p) id⟩
  | .bld _ _ _ :: W, _, _, _, hD, ⟨g1, g2, R0, g3, g4⟩ => ⟨g1, fun i t' c' e1 e2 hs => hD _ (g2 i t' c' e1 e2 hs), R0, g3, g4.mono fun p q => q.imp (hD p) id⟩
noncomputable def kidW (b : Nat) : List Cl → List Tm → List Wk
  | c :: cs, t :: l => .vis b c t :: kidW b cs l
  | _, _ => []
theorem blds_kids {b : Nat} {W : List Wk} : ∀ {cs : List Cl} {l : List Tm}, blds (kidW b cs l ++ W) = blds W
  | [], [] => rfl
  | [], _ :: _ => rfl
  | _ :: _, [] => rfl
  | _ :: cs, _ :: l => blds_kids (cs := cs) (l := l)
theorem wts_kids {b : Nat} {W : List Wk} : ∀ {cs : List Cl} {l : List Tm}, cs.length = l.length → wts (kidW b cs l ++ W) = 2 * tszs l + wts W
  | [], [], _ => by simp [kidW, tszs]
  | [], _ :: _, e => by simp at e
  | _ :: _, [], e => by simp at e
  | _ :: cs, t :: l, e => by
    show 2 * tsz t + wts (kidW b cs l ++ W) = _
    rw [wts_kids (by simpa using e), tszs]; (first | lia | omega)
theorem go_kids {h : List Cl} {F : List FR} {tr b : Nat} {T0 : Tm} {W : List Wk} (hb : ∀ q ∈ blds W, q < b) : ∀ {l : List Tm} {cs : List Cl} {q : Nat} {R : List Tm} {D : Nat → Prop}, cs.length = l.length → (∀ i : Nat, i < cs.length → h[q + i]? = cs[i]?) → LaidL h F l b q →
    Go h F tr T0 W (R ++ l.map (fol tr)) (fun p => D p ∨ ∃ (i : Nat) (t' : Tm) (c' : Cl), l[i]? = some t' ∧ h[q + i]? = some c' ∧ isS t' ∧ p = c'.2) → Go h F tr T0 (kidW b cs l ++ W) R D
  | [], [], q, R, D, _, _, _, g => by
    rw [List.map_nil, List.append_nil] at g
    exact g.mono fun p z => z.elim id fun ⟨i, t', c', e, _⟩ => by simp at e
  | [], _ :: _, _, _, _, e, _, _, _ => by simp at e
  | _ :: _, [], _, _, _, e, _, _, _ => by simp at e
  | t :: l, c :: cs, q, R, D, e, hc, hL, g => by
    obtain ⟨⟨c0, h1, h2⟩, h3⟩ := hL
    have e0 : c0 = c := by
      have := hc 0 (by simp)
      rw [Nat.add_zero, h1] at this; simpa using this
    subst e0
    refine ⟨h2, fun p hp => hb p (by have hp' : p ∈ blds (kidW b cs l ++ W) := hp; rwa [blds_kids] at hp'), ?_⟩
    refine go_kids hb (q := q + 1) (by simpa using e) (fun i hi => ?_) h3 ?_
    · have := hc (i + 1) (by simp; (first | lia | omega))
      rw [show q + 1 + i = q + (i + 1) by (first | lia | omega), this]; rfl
    · rw [List.append_assoc, List.singleton_append]
      refine g.mono fun p z => ?_
      rcases z with z | ⟨i, t', c', e1, e2, e3, e4⟩
      · exact .inl (.inl z)
      · cases i with
        | zero =>
          simp only [List.getElem?_cons_zero, Option.some.injEq] at e1
          subst e1
          rw [Nat.add_zero, h1] at e2; cases e2
          exact .inl (.inr ⟨e3, e4⟩)
        | succ i =>
          exact .inr ⟨i, t', c', by simpa using e1, by rw [← e2]; congr 1; (first | lia | omega), e3, e4⟩
/-- the place is done: the tables tell its term and its size -/
noncomputable def Dn (h : List Cl) (F : List FR) (tr : Nat) (kn sz : List (Int × V)) (p : Nat) : Prop := ∀ b c t, isS t → c.2 = p → LaidAt h F t b c → kn.lookup (p : Int) = some (tmV (fol tr t)) ∧ sz.lookup (p : Int) = some (.int (tsz t))
noncomputable def KV (h : List Cl) (F : List FR) (tr : Nat) (kn sz : List (Int × V)) (W : List Wk) : Prop := ∀ (p : Nat) (v : V), kn.lookup (p : Int) = some v → (p ∈ blds W ∧ v = .none) ∨ Dn h F tr kn sz p
theorem kst_lookup {K : Type} [DecidableEq K] {l : List (K × V)} {k k' : K} {v : V} : (kst l k v).lookup k' = if k' = k then some v else l.lookup k' := by
  have map1 : ∀ m : List (K × V), (m.map fun kv => if kv.1 = k then (kv.1, v) else kv).lookup k' = if k' = k then (if m.any (fun kv => kv.1 = k) then some v else none) else m.lookup k' := by
    intro m
    induction m with
    | nil => by_cases q : k' = k <;> simp [q]
    | cons a m ih =>
      by_cases q : a.1 = k
      · rw [List.map_cons, if_pos q, List.lookup_cons]
        by_cases z : k' = k
        · subst z; simp [q]
        · have : (k' == a.1) = false := beq_eq_false_iff_ne.mpr (by rw [q]; exact z)
          rw [this, ih, if_neg z, if_neg z]
          obtain ⟨a1, a2⟩ := a
          rw [List.lookup_cons, this]
      · rw [List.map_cons, if_neg q]
        obtain ⟨a1, a2⟩ := a
        rw [List.lookup_cons, List.lookup_cons, ih]
        by_cases z : k' = k
        · subst z
          have : (k' == a1) = false := beq_eq_false_iff_ne.mpr fun e => q e.symm
          have q' : ¬ a1 = k' := q
          rw [if_pos rfl, if_pos rfl, List.any_cons, this]
          rw [show decide ((a1, a2).1 = k') = false from decide_eq_false q', Bool.false_or]
        · by_cases y : k' = a1
          · subst y; simp [z]
          · have : (k' == a1) = false := beq_eq_false_iff_ne.mpr y
            rw [this, if_neg z, if_neg z]
  unfold kst
  split
  · rename_i hany
    rw [map1, hany]; simp
  · rename_i hany
    have hn : l.lookup k = none := by
      refine List.lookup_eq_none_iff.mpr fun p hp => ?_
      have h2 : l.any (fun kv => decide (kv.1 = k)) = false := by
        cases q : l.any (fun kv => decide (kv.1 = k)) with
        | false => rfl
        | true => exact absurd q hany
      have := List.any_eq_false.mp h2 p hp
      simp only [decide_eq_true_eq] at this
      exact bne_iff_ne.mpr fun e => this e.symm
    rw [List.lookup_append]
    by_cases z : k' = k
    · subst z; rw [hn]; simp
    · rw [if_neg z]
      have : (k' == k) = false := beq_eq_false_iff_ne.mpr z
      simp [List.lookup_cons, this]
theorem kst_len {K : Type} [DecidableEq K] (l : List (K × V)) (k : K) (v : V) : (kst l k v).length ≤ l.length + 1 := by
  unfold kst; split <;> simp
theorem Dn.put {h : List Cl} {F : List FR} {tr : Nat} {kn sz : List (Int × V)} {p q : Nat} {v w : V} (d : Dn h F tr kn sz q) (hne : q ≠ p) : Dn h F tr (kst kn (p : Int) v) (kst sz (p : Int) w) q := fun b c t hs e x => by
  have hi : (q : Int) ≠ (p : Int) := by (first | lia | omega)
  rw [kst_lookup, if_neg hi, kst_lookup, if_neg hi]
  exact d b c t hs e x
theorem Dn.putK {h : List Cl} {F : List FR} {tr : Nat} {kn sz : List (Int × V)} {p q : Nat} {v : V} (d : Dn h F tr kn sz q) (hne : q ≠ p) : Dn h F tr (kst kn (p : Int) v) sz q := fun b c t hs e x => by
  have hi : (q : Int) ≠ (p : Int) := by (first | lia | omega)
  rw [kst_lookup, if_neg hi]
  exact d b c t hs e x
section
variable {h : List Cl} {F : List FR} {tr : Nat} {T0 : Tm} {W : List Wk} {R : List Tm} {kn sz : List (Int × V)} {b : Nat} {c : Cl} {t : Tm}
theorem go_leaf (g : Go h F tr T0 (.vis b c t :: W) R (Dn h F tr kn sz)) (hs : ¬ isS t) : Go h F tr T0 W (R ++ [fol tr t]) (Dn h F tr kn sz) := g.2.2.mono fun p q => q.elim id fun z => absurd z.1 hs
theorem go_memo (g : Go h F tr T0 (.vis b c t :: W) R (Dn h F tr kn sz)) (d : Dn h F tr kn sz c.2) : Go h F tr T0 W (R ++ [fol tr t]) (Dn h F tr kn sz) := g.2.2.mono fun p q => q.elim id fun z => z.2 ▸ d
theorem go_open {f : Nat} {l : List Tm} {cs : List Cl} (g : Go h F tr T0 (.vis b c (.s f l) :: W) R (Dn h F tr kn sz)) (hn : kn.lookup (c.2 : Int) = none) (e : cs.length = l.length) (hc : ∀ i : Nat, i < cs.length → h[bsC c + i]? = cs[i]?) :
    Go h F tr T0 (kidW (c.2 + 1) cs l ++ .bld c f l :: W) R (Dn h F tr (kst kn (c.2 : Int) .none) sz) := by
  obtain ⟨x, hb, g'⟩ := g
  have x' := x
  obtain ⟨x1, x2, x3, x4, x5⟩ := x'
  have up : ∀ q, Dn h F tr kn sz q → Dn h F tr (kst kn (c.2 : Int) .none) sz q := fun q d => d.putK fun e => by
    subst e
    have := (d _ c (.s f l) trivial rfl x).1
    first | exact (no hn this).elim | exact (no this hn).elim | obtain rfl := so hn this | (rw [hn] at this; cases this)
  refine go_kids (fun q hq => ?_) e hc x5 ⟨⟨Nat.le_refl _, x2, x3, x4, x5⟩, fun i t' c' e1 e2 hs => .inr ⟨i, t', c', e1, e2, hs, rfl⟩, R, rfl, ?_⟩
  · simp only [blds, List.mem_cons] at hq
    rcases hq with rfl | hq
    · exact Nat.lt_succ_self _
    · have := hb q hq; (first | lia | omega)
  · refine g'.mono fun p z => ?_
    rcases z with z | ⟨_, z⟩
    · exact .inl (.inl (up p z))
    · exact .inr z
theorem kv_open {f : Nat} {l : List Tm} {cs : List Cl} (k : KV h F tr kn sz (.vis b c (.s f l) :: W)) (x : LaidAt h F (.s f l) b c) (hn : kn.lookup (c.2 : Int) = none) : KV h F tr (kst kn (c.2 : Int) .none) sz (kidW (c.2 + 1) cs l ++ .bld c f l :: W) := fun p v e => by
  rw [kst_lookup] at e
  by_cases q : (p : Int) = (c.2 : Int)
  · rw [if_pos q] at e
    cases e
    exact .inl ⟨by rw [blds_kids]; simp [blds]; (first | lia | omega), rfl⟩
  · rw [if_neg q] at e
    rcases k p v e with ⟨z1, z2⟩ | z
    · exact .inl ⟨by rw [blds_kids]; exact .tail _ z1, z2⟩
    · exact .inr (z.putK (by (first | lia | omega)))
theorem go_build {f : Nat} {l : List Tm} {R0 : List Tm} (x : LaidAt h F (.s f l) c.2 c) (g : Go h F tr T0 W (R0 ++ [fol tr (.s f l)]) (fun p => Dn h F tr kn sz p ∨ p = c.2)) (k : KV h F tr kn sz (.bld c f l :: W)) :
    Go h F tr T0 W (R0 ++ [fol tr (.s f l)]) (Dn h F tr (kst kn (c.2 : Int) (tmV (fol tr (.s f l)))) (kst sz (c.2 : Int) (.int (tsz (.s f l))))) ∧ KV h F tr (kst kn (c.2 : Int) (tmV (fol tr (.s f l)))) (kst sz (c.2 : Int) (.int (tsz (.s f l)))) W := by
  have here : Dn h F tr (kst kn (c.2 : Int) (tmV (fol tr (.s f l)))) (kst sz (c.2 : Int) (.int (tsz (.s f l)))) c.2 := fun b' c' t' hs e x' => by
    have := x.injP x' trivial hs e.symm
    subst this
    rw [kst_lookup, if_pos rfl, kst_lookup, if_pos rfl]
    exact ⟨rfl, rfl⟩
  have up : ∀ q, Dn h F tr kn sz q → Dn h F tr (kst kn (c.2 : Int) (tmV (fol tr (.s f l)))) (kst sz (c.2 : Int) (.int (tsz (.s f l)))) q := fun q d => by
    by_cases z : q = c.2
    · subst z; exact here
    · exact d.put z
  refine ⟨g.mono fun p z => z.elim (up p) fun e => e ▸ here, fun p v e => ?_⟩
  by_cases q : p = c.2
  · subst q; exact .inr here
  · rw [kst_lookup, if_neg (by (first | lia | omega))] at e
    rcases k p v e with ⟨z1, z2⟩ | z
    · simp only [blds, List.mem_cons] at z1
      exact .inl ⟨z1.resolve_left q, z2⟩
    · exact .inr (up p z)
end

set_option maxHeartbeats 1000000

theorem tszs_take : ∀ {l : List Tm} {i : Nat} {t : Tm}, l[i]? = some t → tszs (l.take (i + 1)) = tszs (l.take i) + tsz t
  | [], i, t, e => by simp at e
  | u :: l, 0, t, e => by simp at e; subst e; simp [tszs]
  | u :: l, i + 1, t, e => by
    rw [List.take_succ_cons, List.take_succ_cons, tszs, tszs, tszs_take (i := i) (by simpa using e)]
    (first | lia | omega)
theorem comp_yes {tr : Nat} {h : List Cl} {F : List FR} {t : Tm} {b : Nat} {c : Cl} (x : LaidAt h F t b c) (hs : isS t) : drC tr c = c ∧ decide (c.1 = 2 ∨ c.1 = 3) = true := by
  rcases x.tags with q | q | q | q
  · exact absurd hs q.2.2
  · exact absurd hs q.2
  · exact absurd hs q.2
  · exact ⟨drC_ne (by rcases q.1 with z | z <;> rw [z] <;> decide), decide_eq_true q.1⟩
theorem comp_no {tr : Nat} {h : List Cl} {F : List FR} {t : Tm} {b : Nat} {c : Cl} (x : LaidAt h F t b c) (hs : ¬ isS t) : decide ((drC tr c).1 = 2 ∨ (drC tr c).1 = 3) = false := by
  refine decide_eq_false ?_
  unfold drC
  rcases x.tags with q | q | q | q
  · rw [if_pos q.1]; split <;> simp
  · rw [if_neg (by rw [q.1]; decide), q.1]; simp
  · rw [if_neg (by rw [q.1]; decide), q.1]; simp
  · exact absurd q.2 hs
theorem tsz_no {t : Tm} (hs : ¬ isS t) : tsz t = 1 := by cases t <;> first | rfl | exact absurd trivial hs
theorem laid_cells {h : List Cl} {F : List FR} : ∀ {l : List Tm} {b q : Nat}, LaidL h F l b q → ∃ cs : List Cl, cs.length = l.length ∧ ∀ i : Nat, i < cs.length → h[q + i]? = cs[i]?
  | [], _, _, _ => ⟨[], rfl, fun i hi => absurd hi (Nat.not_lt_zero i)⟩
  | t :: l, b, q, ⟨⟨c, h1, _⟩, h2⟩ => by
    obtain ⟨cs, e, hc⟩ := laid_cells h2
    refine ⟨c :: cs, by simp [e], fun i hi => ?_⟩
    cases i with
    | zero => simpa using h1
    | succ i =>
      have := hc i (by simpa using hi)
      rw [show q + (i + 1) = q + 1 + i by (first | lia | omega), this]; rfl
theorem nat_add (a b : Nat) : (a : Int) + (b : Int) = ((a + b : Nat) : Int) := (Int.natCast_add a b).symm
theorem ranged_up {r i : Nat} {v : V} (h : (ranged 0 (r : Int) 1)[i]? = some v) : i < r ∧ v = .int (i : Nat) := by
  have hi : i < r := by
    rcases Nat.lt_or_ge i r with q | q
    · exact q
    · rw [List.getElem?_eq_none (by simp [ranged]; exact q)] at h; cases h
  refine ⟨hi, ?_⟩
  simp only [ranged, Int.toNat_natCast, List.getElem?_map] at h
  rw [List.getElem?_range hi] at h
  simpa using h.symm
theorem ranged_len (r : Nat) : (ranged 0 (r : Int) 1).length = r := by simp [ranged]
theorem ranged_dn {r i : Nat} {v : V} (h : (ranged ((r : Int) - 1) ((r : Int) - 1 + 1) (-1))[i]? = some v) : i < r ∧ v = .int ((r - 1 - i : Nat) : Int) := by
  rw [show (r : Int) - 1 + 1 = (r : Int) by (first | lia | omega)] at h
  have hi : i < r := by
    rcases Nat.lt_or_ge i r with q | q
    · exact q
    · rw [List.getElem?_eq_none (by simp [ranged]; exact q)] at h; cases h
  refine ⟨hi, ?_⟩
  simp only [ranged, Int.toNat_natCast, List.getElem?_map] at h
  rw [List.getElem?_range hi] at h
  simp only [Option.map_some, Option.some.injEq] at h
  rw [← h]
  congr 1
  (first | lia | omega)
theorem ranged_dlen (r : Nat) : (ranged ((r : Int) - 1) ((r : Int) - 1 + 1) (-1)).length = r := by simp [ranged]
section
variable {prog : Program} {K : Frag} {H : HM} {Q : QV} {n : Nat} {L : Ly} {h : List Cl} {A : List Str} {F : List FR} {tr : Nat}
structure WsJ (L : Ly) (l : List Tm) (c : Cl) (z : Addr) (i : Nat) (lo : Lo) : Prop where
  l0 : lo 0 = some (.ref L.st)
  l2 : lo 2 = some (.ref z)
  l3 : lo 3 = some (.int (1 + tszs (l.take i) : Nat))
  l4 : lo 4 = some (.int (bsC c : Nat))
/-- the functor of a laid compound -/
theorem laid_fn {f : Nat} {l : List Tm} {b : Nat} {c : Cl} (x : LaidAt h F (.s f l) b c) : c.1 = 2 ∧ h[c.2]? = some (6, f) ∨ c.1 = 3 ∧ f = 0 := x.2.2.1.elim (fun q => .inr ⟨q.2.1, q.1⟩) fun q => .inl q.2
theorem laid_wd {f : Nat} {l : List Tm} {b : Nat} {c : Cl} (x : LaidAt h F (.s f l) b c) : ∃ a, c.1 = 2 ∧ h[c.2]? = some (6, f) ∧ F[f]? = some (a, l.length) ∨ c.1 = 3 ∧ l.length = 2 := by
  obtain ⟨a, ha⟩ := x.2.1
  exact ⟨a, x.2.2.1.elim (fun q => .inr q.2) fun q => .inl ⟨q.2.1, q.2.2, ha⟩⟩
theorem SyOk.flt (ok : SyOk A F) {f : Nat} {p : FR} (e : F[f]? = some p) : f < 1000 := by
  rcases Nat.lt_or_ge f F.length with q | q
  · have := ok.flen; (first | lia | omega)
  · first | exact (no (List.getElem?_eq_none q) e).elim | exact (no e (List.getElem?_eq_none q)).elim | obtain rfl := so (List.getElem?_eq_none q) e | (rw [List.getElem?_eq_none q] at e; cases e)
theorem len_lt {α : Type} {l : List α} {i : Nat} {x : α} (e : l[i]? = some x) : i < l.length := by
  rcases Nat.lt_or_ge i l.length with q | q
  · exact q
  · first | exact (no (List.getElem?_eq_none q) e).elim | exact (no e (List.getElem?_eq_none q)).elim | obtain rfl := so (List.getElem?_eq_none q) e | (rw [List.getElem?_eq_none q] at e; cases e)
theorem c_whole_size (Fn : Fns K) (t : StAt H L h) (hb : h.length ≤ 100000) (s : SyAt H L.y A F) (ok : SyOk A F) (hd : Hd h tr) {f : Nat} {l : List Tm} {b : Nat} {c : Cl} (x : LaidAt h F (.s f l) b c) {z : Addr} {sz : List (Int × V)} (hz : H z = some (.dictI sz))
    (hsz : ∀ (i : Nat) (t' : Tm) (c' : Cl), l[i]? = some t' → h[bsC c + i]? = some c' → isS t' → sz.lookup (c'.2 : Int) = some (.int (tsz t' : Nat))) (hq : Q (.int (tsz (.s f l) : Nat)) H) :
    CC prog (tab K) (n + 3) (.ref 392) [.ref L.st, clV c, .ref z] H Q := by
  refine cc_fn Fn.f_Store_whole_size rfl ?_
  unfold s_Store_whole_size
  obtain ⟨a, hw⟩ := laid_wd x
  obtain ⟨a2, ha2⟩ := x.2.1
  have hf := ok.flt ha2
  have to := t.st
  have td := t.sd
  walk_at "R"
  refine (c_base Fn ?_).x
  walk_at "R"
  refine (c_width Fn t s hw x.2.2.2.1 hf ?_).x
  walk_at "S"
  refine .inl ⟨_, rfl, Int.natCast_nonneg _, ?_, ?_⟩
  · have := ok.fsub _ (List.mem_of_getElem? ha2)
    exact Int.le_trans (Int.ofNat_le.mpr this.2) (by decide)
  refine ⟨fun i lo H' => H' = H ∧ WsJ L l c z i lo, ⟨rfl, rfl, rfl, rfl, rfl⟩, fun _ _ _ _ => trivial, fun i v lo H' J hv => ?_, fun lo H' J => ?_⟩
  · obtain ⟨hi, rfl⟩ := ranged_up hv
    obtain ⟨t', ht'⟩ : ∃ t', l[i]? = some t' := ⟨l[i], List.getElem?_eq_getElem hi⟩
    obtain ⟨c', hc', x'⟩ := x.2.2.2.2.get ht'
    have e := J.1
    subst e
    have j := J.2
    clear J hv
    have hlt := len_lt hc'
    walk_at "S"
    with_reducible apply w_var
    · exact j.l0
    walk_at "R"
    with_reducible apply w_var
    · exact j.l0
    walk_at "R"
    with_reducible apply w_var
    · exact j.l4
    walk_at "S"
    refine bi2 ?_
    walk_at "S"
    rw [nat_add]
    refine sbH t.hp hc' (Nat.lt_of_lt_of_le hlt (Nat.le_trans hb (by decide))) ?_
    refine (c_deref Fn t hd x'.ok ?_).x
    walk_at "S"
    with_reducible apply w_var
    · exact j.l0
    walk_at "R"
    refine (c_is_compound Fn ?_).x
    refine ex1 ?_
    by_cases hs : isS t'
    · obtain ⟨e1, e2⟩ := comp_yes (tr := tr) x' hs
      rw [e1, e2]
      refine b_t ?_
      walk_at "S"
      refine w_augN j.l3 ?_
      walk_at "S"
      with_reducible apply w_var
      · exact j.l2
      walk_at "S"
      refine sbI (by decide) (by decide) rfl ?_
      refine subV.dictI hz (hsz i t' c' ht' hc' hs) ?_
      refine ex1 ?_
      walk_at "S"
      refine ⟨rfl, j.l0, j.l2, ?_, j.l4⟩
      rw [tszs_take ht', nat_add, ← Nat.add_assoc]; rfl
    · rw [comp_no x' hs]
      refine b_f ?_
      walk_at "S"
      refine w_augN j.l3 ?_
      walk_at "S"
      refine ex1 ?_
      walk_at "S"
      refine ⟨rfl, j.l0, j.l2, ?_, j.l4⟩
      rw [tszs_take ht', tsz_no hs, ← Nat.add_assoc]; rfl
  · obtain ⟨rfl, j⟩ := J
    have e := j.l3
    rw [ranged_len, List.take_length] at e
    walk_at "S"
    exact hq
end

set_option maxHeartbeats 1000000

section
variable {prog : Program} {K : Frag} {H : HM} {Q : QV} {n : Nat} {L : Ly} {h : List Cl} {A : List Str} {F : List FR} {tr : Nat} {T0 : Tm}
structure TkA (L : Ly) (D a b c d : Addr) : Prop where
  nd : [D, a, b, c, d].Nodup
  ap : ∀ x ∈ L.y.all ++ L.own, x ∉ [D, a, b, c, d]
/-- what stands in the heap while a term is taken -/
structure TkH (L : Ly) (h : List Cl) (A : List Str) (F : List FR) (D a b c d : Addr) (H0 : HM) (tb kn sz : List (Int × V)) (rs ws : List V) (H : HM) : Prop where
  st : StAt H L h
  sy : SyAt H L.y A F
  tb : H D = some (.dictI tb)
  kn : H a = some (.dictI kn)
  sz : H b = some (.dictI sz)
  rs : H c = some (.list rs)
  ws : H d = some (.list ws)
  off : Off [D, a, b, c, d] H0 H
variable {D a b c d : Addr} {H0 : HM} {tb kn sz : List (Int × V)} {rs ws : List V}
theorem TkH.rest (g : TkA L D a b c d) (t : TkH L h A F D a b c d H0 tb kn sz rs ws H) {x : Addr} {m : M} (hx : x ∈ [D, a, b, c, d]) : StAt (upd H x m) L h ∧ SyAt (upd H x m) L.y A F ∧ Off [D, a, b, c, d] H0 (upd H x m) :=
  have o : Off [D, a, b, c, d] H (upd H x m) := Off.wr m hx
  ⟨t.st.off o fun y hy => g.ap y (List.mem_append_right _ hy), t.sy.off o fun y hy => g.ap y (List.mem_append_left _ hy), t.off.trans o⟩
theorem TkA.ne (g : TkA L D a b c d) : (D ≠ a ∧ D ≠ b ∧ D ≠ c ∧ D ≠ d) ∧ (a ≠ b ∧ a ≠ c ∧ a ≠ d) ∧ (b ≠ c ∧ b ≠ d) ∧ c ≠ d := by
  have nd := g.nd
  simp only [List.nodup_cons, List.mem_cons, List.mem_nil_iff, or_false, not_or, List.nodup_nil, and_true, not_false_iff] at nd
  exact nd
theorem TkH.setT (g : TkA L D a b c d) (t : TkH L h A F D a b c d H0 tb kn sz rs ws H) (tb' : List (Int × V)) : TkH L h A F D a b c d H0 tb' kn sz rs ws (upd H D (.dictI tb')) :=
  have r := t.rest g (x := D) (m := .dictI tb') (by simp)
  have n := g.ne
  ⟨r.1, r.2.1, upd_self _ _ _, (upd_ne n.1.1.symm).trans t.kn, (upd_ne n.1.2.1.symm).trans t.sz, (upd_ne n.1.2.2.1.symm).trans t.rs, (upd_ne n.1.2.2.2.symm).trans t.ws, r.2.2⟩
theorem TkH.setK (g : TkA L D a b c d) (t : TkH L h A F D a b c d H0 tb kn sz rs ws H) (kn' : List (Int × V)) : TkH L h A F D a b c d H0 tb kn' sz rs ws (upd H a (.dictI kn')) :=
  have r := t.rest g (x := a) (m := .dictI kn') (by simp)
  have n := g.ne
  ⟨r.1, r.2.1, (upd_ne n.1.1).trans t.tb, upd_self _ _ _, (upd_ne n.2.1.1.symm).trans t.sz, (upd_ne n.2.1.2.1.symm).trans t.rs, (upd_ne n.2.1.2.2.symm).trans t.ws, r.2.2⟩
theorem TkH.setZ (g : TkA L D a b c d) (t : TkH L h A F D a b c d H0 tb kn sz rs ws H) (sz' : List (Int × V)) : TkH L h A F D a b c d H0 tb kn sz' rs ws (upd H b (.dictI sz')) :=
  have r := t.rest g (x := b) (m := .dictI sz') (by simp)
  have n := g.ne
  ⟨r.1, r.2.1, (upd_ne n.1.2.1).trans t.tb, (upd_ne n.2.1.1).trans t.kn, upd_self _ _ _, (upd_ne n.2.2.1.1.symm).trans t.rs, (upd_ne n.2.2.1.2.symm).trans t.ws, r.2.2⟩
theorem TkH.setR (g : TkA L D a b c d) (t : TkH L h A F D a b c d H0 tb kn sz rs ws H) (rs' : List V) : TkH L h A F D a b c d H0 tb kn sz rs' ws (upd H c (.list rs')) :=
  have r := t.rest g (x := c) (m := .list rs') (by simp)
  have n := g.ne
  ⟨r.1, r.2.1, (upd_ne n.1.2.2.1).trans t.tb, (upd_ne n.2.1.2.1).trans t.kn, (upd_ne n.2.2.1.1).trans t.sz, upd_self _ _ _, (upd_ne n.2.2.2.symm).trans t.ws, r.2.2⟩
theorem TkH.setW (g : TkA L D a b c d) (t : TkH L h A F D a b c d H0 tb kn sz rs ws H) (ws' : List V) : TkH L h A F D a b c d H0 tb kn sz rs ws' (upd H d (.list ws')) :=
  have r := t.rest g (x := d) (m := .list ws') (by simp)
  have n := g.ne
  ⟨r.1, r.2.1, (upd_ne n.1.2.2.2).trans t.tb, (upd_ne n.2.1.2.2).trans t.kn, (upd_ne n.2.2.1.2).trans t.sz, (upd_ne n.2.2.2).trans t.rs, upd_self _ _ _, r.2.2⟩
theorem TkH.new (t : TkH L h A F D a b c d H0 tb kn sz rs ws H) {x : Addr} {m : M} (hx : H x = none) : TkH L h A F D a b c d H0 tb kn sz rs ws (upd H x m) :=
  have o : Off [] H (upd H x m) := Off.nw m hx
  ⟨t.st.off o fun _ _ => by simp, t.sy.off o fun _ _ => by simp, nw hx t.tb, nw hx t.kn, nw hx t.sz, nw hx t.rs, nw hx t.ws, t.off.trans (Off.nw m hx)⟩
/-- where the taking stands -/
structure TkG (h : List Cl) (F : List FR) (tr : Nat) (T0 : Tm) (tb kn sz : List (Int × V)) (W : List Wk) (R : List Tm) : Prop where
  go : Go h F tr T0 W R (Dn h F tr kn sz)
  kv : KV h F tr kn sz W
  tb : tb = [] ∨ tb = [(0, .int 0)]
  r : R.length + wts W ≤ 3000
  k : kn.length + wts W ≤ 3000
  z : sz.length + wts W ≤ 3000
  b : ∀ w ∈ W, (match w with | .vis _ _ t => tsz t | .bld _ f l => tsz (.s f l)) ≤ 1000
theorem wts_len : ∀ W : List Wk, W.length ≤ wts W
  | [] => Nat.le_refl _
  | .vis _ _ t :: W => by have := wts_len W; have := tsz_pos t; simp only [List.length_cons, wts, Wk.wt]; (first | lia | omega)
  | .bld _ _ _ :: W => by have := wts_len W; simp only [List.length_cons, wts, Wk.wt]; (first | lia | omega)
noncomputable def visV (c : Cl) : V := .tup [.int 0, clV c]
theorem kidW_val {b : Nat} : ∀ {cs : List Cl} {l : List Tm}, cs.length = l.length → (kidW b cs l).map Wk.val = cs.map visV
  | [], [], _ => rfl
  | [], _ :: _, e => by simp at e
  | _ :: _, [], e => by simp at e
  | c :: cs, t :: l, e => by
    show _ :: (kidW b cs l).map Wk.val = _
    rw [kidW_val (by simpa using e)]; rfl
theorem kidW_b {b : Nat} {W : List Wk} {N : Nat} : ∀ {cs : List Cl} {l : List Tm}, tszs l ≤ N → (∀ w ∈ W, (match w with | .vis _ _ t => tsz t | .bld _ f l => tsz (.s f l)) ≤ N) → ∀ w ∈ kidW b cs l ++ W, (match w with | .vis _ _ t => tsz t | .bld _ f l => tsz (.s f l)) ≤ N
  | [], _, _, hW, w, hw => hW w hw
  | _ :: _, [], _, hW, w, hw => hW w hw
  | c :: cs, t :: l, hl, hW, w, hw => by
    rw [tszs] at hl
    rcases List.mem_cons.mp hw with rfl | hw
    · exact Nat.le_trans (Nat.le_add_right _ _) hl
    · exact kidW_b (cs := cs) (l := l) (Nat.le_trans (Nat.le_add_left _ _) hl) hW w hw
theorem TkG.leaf {b' : Nat} {c' : Cl} {t' : Tm} {tb' : List (Int × V)} {W : List Wk} {R : List Tm} (g : TkG h F tr T0 tb kn sz (.vis b' c' t' :: W) R) (hg : Go h F tr T0 W (R ++ [fol tr t']) (Dn h F tr kn sz)) (htb : tb' = [] ∨ tb' = [(0, .int 0)]) : TkG h F tr T0 tb' kn sz W (R ++ [fol tr t']) := by
  have e := tsz_pos t'
  have r := g.r
  have k := g.k
  have z := g.z
  simp only [wts, Wk.wt] at r k z
  exact ⟨hg, g.kv, htb, by rw [List.length_append, List.length_singleton]; (first | lia | omega), by (first | lia | omega), by (first | lia | omega), fun w hw => g.b w (.tail _ hw)⟩
theorem TkG.open {b' f : Nat} {c' : Cl} {l : List Tm} {cs : List Cl} {W : List Wk} {R : List Tm} (g : TkG h F tr T0 tb kn sz (.vis b' c' (.s f l) :: W) R) (hn : kn.lookup (c'.2 : Int) = none) (e : cs.length = l.length) (hc : ∀ i : Nat, i < cs.length → h[bsC c' + i]? = cs[i]?) :
    TkG h F tr T0 tb (kst kn (c'.2 : Int) .none) sz (kidW (c'.2 + 1) cs l ++ .bld c' f l :: W) R := by
  have r := g.r
  have k := g.k
  have z := g.z
  have b := g.b _ (.head _)
  have kl := kst_len kn (c'.2 : Int) .none
  have w := wts_kids (b := c'.2 + 1) (W := .bld c' f l :: W) e
  simp only [wts, Wk.wt, tsz] at r k z w b
  refine ⟨go_open g.go hn e hc, kv_open g.kv g.go.1 hn, g.tb, by (first | lia | omega), by (first | lia | omega), by (first | lia | omega), kidW_b (N := 1000) (by (first | lia | omega)) fun w hw => ?_⟩
  rcases List.mem_cons.mp hw with rfl | hw
  · show tsz (.s f l) ≤ 1000
    rw [tsz]; exact b
  · exact g.b w (.tail _ hw)
theorem TkG.build {f : Nat} {c' : Cl} {l : List Tm} {W : List Wk} {R0 : List Tm} (g : TkG h F tr T0 tb kn sz (.bld c' f l :: W) (R0 ++ l.map (fol tr))) :
    TkG h F tr T0 tb (kst kn (c'.2 : Int) (tmV (fol tr (.s f l)))) (kst sz (c'.2 : Int) (.int (tsz (.s f l)))) W (R0 ++ [fol tr (.s f l)]) := by
  obtain ⟨R1, e1, e2⟩ := g.go.2.2
  have hR : R0 = R1 := List.append_cancel_right e1
  subst hR
  have q := go_build g.go.1 e2 g.kv
  have r := g.r
  have k := g.k
  have z := g.z
  have kl := kst_len kn (c'.2 : Int) (tmV (fol tr (.s f l)))
  have zl := kst_len sz (c'.2 : Int) (.int (tsz (.s f l)))
  simp only [wts, Wk.wt, List.length_append] at r k z
  exact ⟨q.1, q.2, g.tb, by rw [List.length_append, List.length_singleton]; (first | lia | omega), by (first | lia | omega), by (first | lia | omega), fun w hw => g.b w (.tail _ hw)⟩
end

set_option maxHeartbeats 1000000

section
variable {prog : Program} {K : Frag} {H : HM} {Q : QV} {n : Nat} {L : Ly} {h : List Cl} {A : List Str} {F : List FR} {tr : Nat} {T0 : Tm} {D a b c d : Addr} {H0 : HM} {tb kn sz : List (Int × V)}
theorem w_sliceF {T : Tab} {X : Addr → HM → Prop} {lo : Lo} {e i : E} (h : wpE prog T n X e lo H fun x H1 => wpE prog T n X i lo H1 fun y H2 => ∃ l xs b, x = .ref l ∧ H2 l = some (.list xs) ∧ xs.length ≤ 1000000 ∧ y = .int b ∧ 0 ≤ b ∧ ∀ d, H2 d = none → Q (.ref d) (upd H2 d (.list (xs.drop b.toNat)))) : wpE prog T n X (.sliceFrom e i) lo H Q := h
structure TkL (L : Ly) (D a b c d : Addr) (lo : Lo) : Prop where
  l0 : lo 0 = some (.ref L.st)
  l2 : lo 2 = some (.ref D)
  l3 : lo 3 = some (.ref a)
  l4 : lo 4 = some (.ref b)
  l5 : lo 5 = some (.ref c)
  l6 : lo 6 = some (.ref d)
noncomputable def TkI (L : Ly) (h : List Cl) (A : List Str) (F : List FR) (tr : Nat) (T0 : Tm) (D a b c d : Addr) (H0 : HM) (m : Nat) (lo : Lo) (H : HM) : Prop :=
  TkL L D a b c d lo ∧ ∃ W R tb kn sz, TkG h F tr T0 tb kn sz W R ∧ TkH L h A F D a b c d H0 tb kn sz (R.map tmV) (W.reverse.map Wk.val) H ∧ m = wts W
theorem rev_val (w : Wk) (W : List Wk) : (w :: W).reverse.map Wk.val = W.reverse.map Wk.val ++ [w.val] := by simp
theorem TkH.pop {w : Wk} {W : List Wk} {R : List Tm} (hH : TkH L h A F D a b c d H0 tb kn sz (R.map tmV) ((w :: W).reverse.map Wk.val) H) : TkH L h A F D a b c d H0 tb kn sz (R.map tmV) (W.reverse.map Wk.val ++ [w.val]) H := rev_val w W ▸ hH
/-- a finished compound -/
theorem tk_build (Fn : Fns K) (g : TkA L D a b c d) (hb : h.length ≤ 100000) (ok : SyOk A F) (hd : Hd h tr) {c' : Cl} {f : Nat} {l : List Tm} {W : List Wk} {R0 : List Tm} (hG : TkG h F tr T0 tb kn sz (.bld c' f l :: W) (R0 ++ l.map (fol tr)))
    (hH : TkH L h A F D a b c d H0 tb kn sz ((R0 ++ l.map (fol tr)).map tmV) (W.reverse.map Wk.val) H) {lo : Lo} (hL : TkL L D a b c d lo) (h1 : lo 1 = some (clV c')) (h8 : lo 8 = some (.int 1)) {rest : Ss} {X : Addr → HM → Prop} {P : QS}
    (hP : ∀ lo' H', TkI L h A F tr T0 D a b c d H0 (wts W) lo' H' → P .cont lo' H') :
    wpSs prog (tab K) (n + 3) X (.cons (.ite (.cmp .Eq (.var 8) (.const (.int 1))) (.cons (.asgn 9 (.meth (.var 0) 42 (.cons (.var 1) .nil))) (.cons (.asgn 10 (.bin .Sub (.bcall .len (.cons (.var 5) .nil)) (.meth (.var 0) 43 (.cons (.var 1) .nil)))) (.cons (.asgn 11 (.tup (.cons (.const (.str (sx 29))) (.cons (.var 9) (.cons (.bcall .tuple (.cons (.sliceFrom (.var 5) (.var 10)) .nil)) .nil))))) (.cons (.delF (.var 5) (.var 10)) (.cons (.asgnS (.var 3) (.sub (.var 1) (.const (.int 1))) (.var 11)) (.cons (.asgnS (.var 4) (.sub (.var 1) (.const (.int 1))) (.meth (.var 0) 49 (.cons (.var 1) (.cons (.var 4) .nil)))) (.cons (.ite (.cmp .Gt (.sub (.var 4) (.sub (.var 1) (.const (.int 1)))) (.bin .Add (.attr (.var 0) 1) (.const (.int 1)))) (.cons (.raise (.call 200 (.cons (.attr (.var 0) 0) (.cons (.const (.str (sx 35))) .nil)))) .nil) .nil) (.cons (.expr (.append (.var 5) (.var 11))) (.cons .cont .nil))))))))) .nil) rest) lo H P := by
  have x := hG.go.1
  obtain ⟨a1, hw⟩ := laid_wd x
  obtain ⟨a2, ha2⟩ := x.2.1
  have hf := ok.flt ha2
  have hR := hG.r
  simp only [wts, Wk.wt, List.length_append, List.length_map] at hR
  have hlc := x.2.2.2.1
  have st0 := hH.st
  have to := st0.st
  have td := st0.sd
  have l0 := hL.l0
  have l3 := hL.l3
  have l4 := hL.l4
  have l5 := hL.l5
  walk_at "R"
  refine e_int (fun _ => b_t ?_) fun q => absurd rfl q
  walk_at "R"
  refine (c_functor_of Fn st0 (laid_fn x) hlc ?_).x
  walk_at "R"
  refine bQ.lenL hH.rs rfl (by rw [List.length_map, List.length_append, List.length_map]; (first | lia | omega)) ?_
  walk_at "R"
  refine (c_width Fn st0 hH.sy hw hlc hf ?_).x
  refine bi2 ?_
  walk_at "R"
  have e1 : ((((R0 ++ l.map (fol tr)).map tmV).length : Nat) : Int) - (l.length : Nat) = ((R0.length : Nat) : Int) := by
    rw [List.length_map, List.length_append, List.length_map]; (first | lia | omega)
  rw [e1]
  walk_at "R"
  refine w_sliceF ?_
  walk_at "R"
  refine ⟨c, _, _, rfl, hH.rs, by rw [List.length_map, List.length_append, List.length_map]; (first | lia | omega), rfl, Int.natCast_nonneg _, fun d1 hd1 => ?_⟩
  walk_at "R"
  have e2 : ((R0 ++ l.map (fol tr)).map tmV).drop ((R0.length : Nat) : Int).toNat = (l.map (fol tr)).map tmV := by
    rw [Int.toNat_natCast, List.map_append]
    exact List.drop_left' (by rw [List.length_map])
  rw [e2]
  have hl1 := upd_self H d1 (.list ((l.map (fol tr)).map tmV))
  have hH1 := hH.new (x := d1) (m := .list ((l.map (fol tr)).map tmV)) hd1
  clear hH to td st0 hd1
  generalize upd H d1 (.list ((l.map (fol tr)).map tmV)) = H1 at *
  refine bQ.tupL hl1 (by rw [List.length_map, List.length_map]; (first | lia | omega)) ?_
  walk_at "R"
  walk_at "R"
  refine ⟨c, _, _, rfl, hH1.rs, by rw [List.length_map, List.length_append, List.length_map]; (first | lia | omega), rfl, Int.natCast_nonneg _, by rw [List.length_map, List.length_append]; (first | lia | omega), ?_⟩
  have e3 : ((R0 ++ l.map (fol tr)).map tmV).take ((R0.length : Nat) : Int).toNat = R0.map tmV := by
    rw [Int.toNat_natCast, List.map_append]
    exact List.take_left' (by rw [List.length_map])
  rw [e3]
  have hH2 := hH1.setR g (R0.map tmV)
  clear hH1 hl1
  generalize upd H1 c (.list (R0.map tmV)) = H2 at *
  have eT : V.tup [.str (sx 29), .int (f : Nat), .tup ((l.map (fol tr)).map tmV)] = tmV (fol tr (.s f l)) := by
    rw [fol, tmV, tmVs_map, fols_map]
  rw [eT]
  walk_at "R"
  refine sbI (by decide) (by decide) rfl ?_
  have hk := hG.k
  have hz := hG.z
  simp only [wts, Wk.wt] at hk hz
  refine setV.dictI hH2.kn (by (first | lia | omega)) ?_
  have hH3 := hH2.setK g (kst kn (c'.2 : Int) (tmV (fol tr (.s f l))))
  clear hH2
  generalize upd H2 a (.dictI (kst kn (c'.2 : Int) (tmV (fol tr (.s f l))))) = H3 at *
  have st3 := hH3.st
  have to := st3.st
  have td := st3.sd
  walk_at "R"
  refine (c_whole_size Fn st3 hb hH3.sy ok hd x hH3.sz (fun i t' c'' q1 q2 q3 => ?_) ?_).x
  · obtain ⟨b', x'⟩ : ∃ b', LaidAt h F t' b' c'' := by
      obtain ⟨c3, q4, q5⟩ := x.2.2.2.2.get q1
      first | exact (no q2 q4).elim | exact (no q4 q2).elim | obtain rfl := so q2 q4 | (rw [q2] at q4; cases q4)
      exact ⟨_, q5⟩
    exact (hG.go.2.1 i t' c'' q1 q2 q3 b' c'' t' q3 rfl x').2
  walk_at "R"
  refine sbI (by decide) (by decide) rfl ?_
  refine setV.dictI hH3.sz (by (first | lia | omega)) ?_
  have hH4 := hH3.setZ g (kst sz (c'.2 : Int) (.int (tsz (.s f l) : Nat)))
  clear hH3 to td st3
  generalize upd H3 b (.dictI (kst sz (c'.2 : Int) (.int (tsz (.s f l) : Nat)))) = H4 at *
  have st4 := hH4.st
  have to := st4.st
  have td := st4.sd
  walk_at "R"
  refine sbI (by decide) (by decide) rfl ?_
  refine subV.dictI hH4.sz (by rw [kst_lookup, if_pos rfl]) ?_
  walk_at "R"
  refine bi2 ?_
  walk_at "R"
  have hbs : tsz (.s f l) ≤ 1000 := hG.b _ (.head _)
  refine bi2 (b_ifd (fun q => absurd q (by (first | lia | omega))) fun _ => ?_)
  walk_at "R"
  refine ap1 hH4.rs ?_
  walk_at "R"
  refine ap2 hH4.rs (by rw [List.length_map]; (first | lia | omega)) ?_
  walk_at "R"
  refine hP _ _ ⟨⟨l0, hL.l2, l3, l4, l5, hL.l6⟩, W, _, _, _, _, hG.build, ?_, rfl⟩
  have := hH4.setR g (R0.map tmV ++ [tmV (fol tr (.s f l))])
  rw [show R0.map tmV ++ [tmV (fol tr (.s f l))] = (R0 ++ [fol tr (.s f l)]).map tmV by rw [List.map_append]; rfl] at this ⊢
  exact this
end

set_option maxHeartbeats 1000000

section
variable {prog : Program} {K : Frag} {H : HM} {Q : QV} {n : Nat} {L : Ly} {h : List Cl} {A : List Str} {F : List FR} {tr : Nat} {T0 : Tm} {D a b c d : Addr} {H0 : HM} {tb kn sz : List (Int × V)}
theorem cm_is {t : Tm} {Q : Bool → Prop} (h : Q false) : cmpV .Is (tmV t) .none H Q := by
  show isV (tmV t) .none Q
  cases t <;> (rw [tmV]; exact h)
theorem TkI.of {lo : Lo} {W : List Wk} {R : List Tm} {rs ws : List V} (hL : TkL L D a b c d lo) (g : TkG h F tr T0 tb kn sz W R) (hH : TkH L h A F D a b c d H0 tb kn sz rs ws H) (e1 : rs = R.map tmV) (e2 : ws = W.reverse.map Wk.val) : TkI L h A F tr T0 D a b c d H0 (wts W) lo H := by
  subst e1 e2
  exact ⟨hL, W, R, _, _, _, g, hH, rfl⟩
theorem map_snoc {α β : Type} (f : α → β) (l : List α) (x : α) : l.map f ++ [f x] = (l ++ [x]).map f := by simp
theorem drop_rev {cs : List Cl} {r i : Nat} {x : Cl} (hr : cs.length = r) (hi : i < r) (hx : cs[r - 1 - i]? = some x) : ((cs.drop (r - i)).reverse.map visV) ++ [visV x] = (cs.drop (r - (i + 1))).reverse.map visV := by
  have e : cs.drop (r - (i + 1)) = x :: cs.drop (r - i) := by
    rw [show r - (i + 1) = r - 1 - i by (first | lia | omega), show r - i = r - 1 - i + 1 by (first | lia | omega)]
    have hlt : r - 1 - i < cs.length := len_lt hx
    rw [List.drop_eq_getElem_cons hlt]
    rw [List.getElem?_eq_getElem hlt] at hx
    rw [Option.some.inj hx]
  rw [e, List.reverse_cons, List.map_append]; rfl
theorem tk_vis (Fn : Fns K) (g : TkA L D a b c d) (hb : h.length ≤ 100000) (ok : SyOk A F) (hd : Hd h tr) {b' : Nat} {c' : Cl} {t : Tm} {W : List Wk} {R : List Tm} (hG : TkG h F tr T0 tb kn sz (.vis b' c' t :: W) R)
    (hH : TkH L h A F D a b c d H0 tb kn sz (R.map tmV) (W.reverse.map Wk.val) H) {lo : Lo} (hL : TkL L D a b c d lo) (h1 : lo 1 = some (clV c')) {X : Addr → HM → Prop} {P : QS}
    (hP : ∀ m lo' H', m < wts (.vis b' c' t :: W) → TkI L h A F tr T0 D a b c d H0 m lo' H' → P .next lo' H') :
    wpSs prog (tab K) (n + 3) X (.cons (.asgn 1 (.meth (.var 0) 37 (.cons (.var 1) .nil))) (.cons (.asgn 7 (.sub (.var 1) (.const (.int 0)))) (.cons (.ite (.cmp .Eq (.var 7) (.const (.int 0))) (.cons (.ite (.cmp .NotIn (.sub (.var 1) (.const (.int 1))) (.var 2)) (.cons (.asgnS (.var 2) (.sub (.var 1) (.const (.int 1))) (.bcall .len (.cons (.var 2) .nil))) .nil) .nil) (.cons (.expr (.append (.var 5) (.tup (.cons (.const (.str (sx 36))) (.cons (.sub (.var 2) (.sub (.var 1) (.const (.int 1)))) .nil))))) .nil)) (.cons (.ite (.cmp .Eq (.var 7) (.const (.int 4))) (.cons (.expr (.append (.var 5) (.tup (.cons (.const (.str (sx 30))) (.cons (.sub (.var 1) (.const (.int 1))) .nil))))) .nil) (.cons (.ite (.cmp .Eq (.var 7) (.const (.int 5))) (.cons (.expr (.append (.var 5) (.tup (.cons (.const (.str (sx 37))) (.cons (.sub (.var 1) (.const (.int 1))) .nil))))) .nil) (.cons (.ite (.cmp .In (.sub (.var 1) (.const (.int 1))) (.var 3)) (.cons (.asgn 11 (.sub (.var 3) (.sub (.var 1) (.const (.int 1))))) (.cons (.ite (.cmp .Is (.var 11) (.const .none)) (.cons (.raise (.call 200 (.cons (.attr (.var 0) 0) (.cons (.const (.str (sx 35))) .nil)))) .nil) .nil) (.cons (.expr (.append (.var 5) (.var 11))) .nil))) (.cons (.asgnS (.var 3) (.sub (.var 1) (.const (.int 1))) (.const .none)) (.cons (.expr (.append (.var 6) (.tup (.cons (.const (.int 1)) (.cons (.var 1) .nil))))) (.cons (.asgn 12 (.meth (.var 0) 44 (.cons (.var 1) .nil))) (.cons (.loop 13 (.range (.cons (.bin .Sub (.meth (.var 0) 43 (.cons (.var 1) .nil)) (.const (.int 1))) (.cons (.neg (.const (.int 1))) (.cons (.neg (.const (.int 1))) .nil)))) (.cons (.expr (.append (.var 6) (.tup (.cons (.const (.int 0)) (.cons (.sub (.attr (.var 0) 2) (.bin .Add (.var 12) (.var 13))) .nil))))) .nil)) .nil))))) .nil)) .nil)) .nil)) .nil))) lo H P := by
  have x := hG.go.1
  have st0 := hH.st
  have to := st0.st
  have td := st0.sd
  have l0 := hL.l0
  have l2 := hL.l2
  have l3 := hL.l3
  have l4 := hL.l4
  have l5 := hL.l5
  have l6 := hL.l6
  have hr := hG.r
  have hk := hG.k
  have hw := wts_len W
  have htp := tsz_pos t
  have lw : wts W < wts (.vis b' c' t :: W) := by simp only [wts, Wk.wt]; (first | lia | omega)
  simp only [wts, Wk.wt] at hr hk
  have hrl : (R.map tmV).length ≤ 1000000 := by rw [List.length_map]; (first | lia | omega)
  walk_at "R"
  refine (c_deref Fn st0 hd x.ok ?_).x
  walk_at "R"
  refine sbI (by decide) (by decide) rfl ?_
  walk_at "R"
  by_cases hs : isS t
  · -- a compound
    obtain ⟨f, l, rfl⟩ : ∃ f l, t = .s f l := by cases t <;> first | exact hs.elim | exact ⟨_, _, rfl⟩
    rw [(comp_yes x hs).1]
    have tg : c'.1 = 2 ∨ c'.1 = 3 := by simpa using (comp_yes (tr := tr) x hs).2
    refine e_int (fun q => absurd q (by rcases tg with z | z <;> rw [z] <;> decide)) fun _ => b_f ?_
    walk_at "R"
    refine e_int (fun q => absurd q (by rcases tg with z | z <;> rw [z] <;> decide)) fun _ => b_f ?_
    walk_at "R"
    refine e_int (fun q => absurd q (by rcases tg with z | z <;> rw [z] <;> decide)) fun _ => b_f ?_
    walk_at "R"
    refine sbI (by decide) (by decide) rfl ?_
    walk_at "R"
    refine .inl ⟨_, _, _, rfl, rfl, hH.kn, ?_⟩
    cases hn : kn.lookup (c'.2 : Int) with
    | some v =>
      refine b_t ?_
      have dn : Dn h F tr kn sz c'.2 := (hG.kv c'.2 v hn).resolve_left fun q => by
        have h1 := hG.go.2.1 _ q.1
        have h2 := x.1
        (first | lia | omega)
      have ev := (dn b' c' (.s f l) trivial rfl x).1
      walk_at "R"
      refine sbI (by decide) (by decide) rfl ?_
      refine subV.dictI hH.kn ev ?_
      walk_at "R"
      refine cm_is ?_
      refine b_f ?_
      walk_at "R"
      refine ap1 hH.rs ?_
      walk_at "R"
      refine ap2 hH.rs hrl ?_
      walk_at "R"
      exact hP _ _ _ lw (.of ⟨l0, l2, l3, l4, l5, l6⟩ (hG.leaf (go_memo hG.go dn) hG.tb) (hH.setR g _) (map_snoc _ _ _) rfl)
    | none =>
      refine b_f ?_
      obtain ⟨cs, ecs, hcs⟩ := laid_cells x.2.2.2.2
      have hG' := hG.open hn ecs hcs
      have hw' := wts_kids (b := c'.2 + 1) (W := .bld c' f l :: W) ecs
      have hr' := hG'.r
      have hwl : cs.length + (W.length + 1) ≤ 3000 := by
        have h1 := wts_len (kidW (c'.2 + 1) cs l ++ .bld c' f l :: W)
        have h2 : (kidW (c'.2 + 1) cs l).length = cs.length := by simpa using congrArg List.length (kidW_val (b := c'.2 + 1) ecs)
        rw [List.length_append, h2, List.length_cons] at h1
        clear hw' hw lw hr hk hrl
        (first | lia | omega)
      walk_at "R"
      refine sbI (by decide) (by decide) rfl ?_
      refine setV.dictI hH.kn (by (first | lia | omega)) ?_
      have hH1 := hH.setK g (kst kn (c'.2 : Int) .none)
      clear hH st0 to td
      generalize upd H a (.dictI (kst kn (c'.2 : Int) .none)) = H1 at *
      walk_at "R"
      refine ap1 hH1.ws ?_
      walk_at "R"
      refine ap2 hH1.ws (by rw [List.length_map, List.length_reverse]; (first | lia | omega)) ?_
      have hH2 := hH1.setW g (W.reverse.map Wk.val ++ [.tup [.int 1, clV c']])
      clear hH1
      generalize upd H1 d (.list (W.reverse.map Wk.val ++ [.tup [.int 1, clV c']])) = H2 at *
      have st2 := hH2.st
      have to := st2.st
      have td := st2.sd
      walk_at "R"
      refine (c_base Fn ?_).x
      walk_at "R"
      obtain ⟨a1, hwd⟩ := laid_wd x
      obtain ⟨a2, ha2⟩ := x.2.1
      have hf := ok.flt ha2
      refine (c_width Fn st2 hH2.sy hwd x.2.2.2.1 hf ?_).x
      walk_at "R"
      refine bi2 ?_
      walk_at "R"
      refine ex1 ?_
      walk_at "R"
      refine ex1 ?_
      walk_at "R"
      refine .inr ⟨_, rfl, by (first | lia | omega), by (first | lia | omega), ?_⟩
      refine ⟨fun i lo' H' => TkL L D a b c d lo' ∧ lo' 12 = some (.int (bsC c' : Nat)) ∧ TkH L h A F D a b c d H0 tb (kst kn (c'.2 : Int) .none) sz (R.map tmV) (W.reverse.map Wk.val ++ [.tup [.int 1, clV c']] ++ (cs.drop (l.length - i)).reverse.map visV) H',
        ⟨⟨l0, l2, l3, l4, l5, l6⟩, rfl, ?_⟩, fun _ _ _ _ => trivial, fun i v lo' H' J hv => ?_, fun lo' H' J => ?_⟩
      · rw [Nat.sub_zero, ← ecs, List.drop_length]
        simpa using hH2
      · obtain ⟨hi, rfl⟩ := ranged_dn hv
        have lt : l.length - 1 - i < cs.length := by (first | lia | omega)
        obtain ⟨y, hy⟩ : ∃ y, cs[l.length - 1 - i]? = some y := ⟨_, List.getElem?_eq_getElem lt⟩
        have hy2 := (hcs _ lt).trans hy
        have j0 := J.1.l0
        have j6 := J.1.l6
        have j12 := J.2.1
        have hH3 := J.2.2
        have st3 := hH3.st
        have to := st3.st
        have td := st3.sd
        have hlen := len_lt hy2
        have hdl : ((cs.drop (l.length - i)).reverse.map visV).length ≤ cs.length := by simp
        clear hv
        walk_at "R"
        refine ap1 hH3.ws ?_
        walk_at "R"
        refine bi2 ?_
        walk_at "R"
        rw [nat_add]
        refine sbH st3.hp hy2 (by (first | lia | omega)) ?_
        walk_at "R"
        refine ap2 hH3.ws (by rw [List.length_append, List.length_append, List.length_map, List.length_reverse, List.length_singleton]; (first | lia | omega)) ?_
        walk_at "R"
        have e := drop_rev ecs hi hy
        rw [visV] at e
        rw [List.append_assoc, e]
        exact ⟨⟨J.1.l0, J.1.l2, J.1.l3, J.1.l4, J.1.l5, J.1.l6⟩, j12, hH3.setW g _⟩
      · have hH3 := J.2.2
        rw [ranged_dlen, Nat.sub_self, List.drop_zero] at hH3
        refine hP _ _ _ ?_ (.of J.1 hG' hH3 rfl ?_)
        · rw [hw']; simp only [wts, Wk.wt, tsz]; (first | lia | omega)
        · simp [List.map_reverse, kidW_val ecs, Wk.val]
  · have hgo := go_leaf hG.go hs
    cases t with
    | s f l => exact absurd trivial hs
    | a k =>
      have e : c' = (4, k) := x
      subst e
      rw [drC_ne (show (4 : Nat) ≠ 0 by decide)]
      refine e_int (fun q => absurd q (show ¬ ((4 : Nat) : Int) = 0 by decide)) fun _ => b_f ?_
      walk_at "R"
      refine e_int (fun _ => b_t ?_) fun q => absurd rfl q
      walk_at "R"
      refine ap1 hH.rs ?_
      walk_at "R"
      refine sbI (by decide) (by decide) rfl ?_
      walk_at "R"
      refine ap2 hH.rs hrl ?_
      walk_at "R"
      exact hP _ _ _ lw (.of ⟨l0, l2, l3, l4, l5, l6⟩ (hG.leaf hgo hG.tb) (hH.setR g _) (map_snoc tmV _ (.a k)) rfl)
    | i k =>
      have e : c' = (5, k) := x
      subst e
      rw [drC_ne (show (5 : Nat) ≠ 0 by decide)]
      refine e_int (fun q => absurd q (show ¬ ((5 : Nat) : Int) = 0 by decide)) fun _ => b_f ?_
      walk_at "R"
      refine e_int (fun q => absurd q (show ¬ ((5 : Nat) : Int) = 4 by decide)) fun _ => b_f ?_
      walk_at "R"
      refine e_int (fun _ => b_t ?_) fun q => absurd rfl q
      walk_at "R"
      refine ap1 hH.rs ?_
      walk_at "R"
      refine sbI (by decide) (by decide) rfl ?_
      walk_at "R"
      refine ap2 hH.rs hrl ?_
      walk_at "R"
      exact hP _ _ _ lw (.of ⟨l0, l2, l3, l4, l5, l6⟩ (hG.leaf hgo hG.tb) (hH.setR g _) (map_snoc tmV _ (.i k)) rfl)
    | v k =>
      obtain ⟨rfl, hk3⟩ := x
      by_cases e1 : k = 1
      · subst e1
        rw [show drC tr (0, 1) = (4, tr) from rfl]
        refine e_int (fun q => absurd q (show ¬ ((4 : Nat) : Int) = 0 by decide)) fun _ => b_f ?_
        walk_at "R"
        refine e_int (fun _ => b_t ?_) fun q => absurd rfl q
        walk_at "R"
        refine ap1 hH.rs ?_
        walk_at "R"
        refine sbI (by decide) (by decide) rfl ?_
        walk_at "R"
        refine ap2 hH.rs hrl ?_
        walk_at "R"
        exact hP _ _ _ lw (.of ⟨l0, l2, l3, l4, l5, l6⟩ (hG.leaf hgo hG.tb) (hH.setR g _) (map_snoc tmV _ (.a tr)) rfl)
      · have ed : drC tr (0, k) = (0, 0) := by unfold drC; rw [if_pos rfl, if_neg e1]
        have ef : fol tr (.v k) = .v 0 := by rw [fol, if_neg e1]
        rw [ed]
        refine e_int (fun _ => b_t ?_) fun q => absurd rfl q
        have fin : ∀ lo' H1, TkL L D a b c d lo' → TkH L h A F D a b c d H0 [(0, .int 0)] kn sz (R.map tmV) (W.reverse.map Wk.val) H1 → lo' 1 = some (clV (0, 0)) →
            wpSs prog (tab K) (n + 3) X (.cons (.expr (.append (.var 5) (.tup (.cons (.const (.str (sx 36))) (.cons (.sub (.var 2) (.sub (.var 1) (.const (.int 1)))) .nil))))) .nil) lo' H1 (seqQ prog (tab K) (n + 3) X .nil P) := fun lo' H1 hL' hH1 h1' => by
          have l2 := hL'.l2
          have l5 := hL'.l5
          walk_at "R"
          refine ap1 hH1.rs ?_
          walk_at "R"
          refine sbI (by decide) (by decide) rfl ?_
          refine subV.dictI (z := .int 0) hH1.tb rfl ?_
          walk_at "R"
          refine ap2 hH1.rs hrl ?_
          walk_at "R"
          exact hP _ _ _ lw (.of hL' (hG.leaf hgo (.inr rfl)) (hH1.setR g _) (by rw [ef]; exact map_snoc tmV _ (.v 0)) rfl)
        walk_at "R"
        refine sbI (by decide) (by decide) rfl ?_
        walk_at "R"
        refine .inl ⟨_, _, _, rfl, rfl, hH.tb, ?_⟩
        rcases hG.tb with q | q
        · subst q
          refine b_t ?_
          walk_at "R"
          refine bQ.lenD hH.tb (by simp) ?_
          walk_at "R"
          refine sbI (by decide) (by decide) rfl ?_
          refine setV.dictI hH.tb (by simp) ?_
          refine q_next (w_nil (q_next (fin _ _ ?_ (hH.setT g _) ?_)))
          · exact ⟨l0, l2, l3, l4, l5, l6⟩
          · rfl
        · subst q
          refine b_f ?_
          refine w_nil (q_next (fin _ _ ?_ hH ?_))
          · exact ⟨l0, l2, l3, l4, l5, l6⟩
          · rfl
end

set_option maxHeartbeats 1000000

section
variable {prog : Program} {K : Frag} {H : HM} {Q : QV} {n : Nat} {L : Ly} {h : List Cl} {A : List Str} {F : List FR} {tr : Nat} {T0 : Tm}
theorem known_ne {H : HM} {L : Ly} {h : List Cl} {A : List Str} {F : List FR} (t : StAt H L h) (s : SyAt H L.y A F) {x : Addr} (hx : (∃ l, H x = some (.dictI l)) ∨ H x = none) : x ∉ L.y.all ++ L.own := fun q => by
  have key : ∀ m, H x = some m → (∀ l, m ≠ .dictI l) → False := fun m e hm => by
    rcases hx with ⟨l, z⟩ | z
    · rw [z] at e; exact hm l (Option.some.inj e).symm
    · first | exact (no z e).elim | exact (no e z).elim | obtain rfl := so z e | (rw [z] at e; cases e)
  simp only [Sy.all, Ly.own, List.mem_append, List.mem_cons, List.mem_nil_iff, or_false] at q
  rcases q with (rfl | rfl | rfl | rfl | rfl | rfl) | rfl | rfl | rfl | rfl | rfl
  · exact key _ s.o fun _ z => by cases z
  · exact key _ s.d fun _ z => by cases z
  · exact key _ s.tx fun _ z => by cases z
  · exact key _ s.an fun _ z => by cases z
  · exact key _ s.fs fun _ z => by cases z
  · exact key _ s.fn fun _ z => by cases z
  · exact key _ t.st fun _ z => by cases z
  · exact key _ t.sd fun _ z => by cases z
  · exact key _ t.hp fun _ z => by cases z
  · exact key _ t.sk fun _ z => by cases z
  · exact key _ t.tr fun _ z => by cases z
theorem back_none {H : HM} {a x : Addr} {m : M} (h : upd H a m x = none) : H x = none := (none_of h).1
theorem c_take_term (Fn : Fns K) (t : StAt H L h) (hb : h.length ≤ 100000) (s : SyAt H L.y A F) (ok : SyOk A F) (hd : Hd h tr) (hT : tsz T0 ≤ 1000) {b' : Nat} {c' : Cl} (x : LaidAt h F T0 b' c') {D : Addr} (hD : H D = some (.dictI []))
    (hq : ∀ H', StAt H' L h → SyAt H' L.y A F → Off [D] H H' → Q (tmV (fol tr T0)) H') : CC prog (tab K) (n + 4) (.ref 399) [.ref L.st, clV c', .ref D] H Q := by
  refine cc_fn Fn.f_Store_take_term rfl ?_
  unfold s_Store_take_term
  walk_at "R"
  refine fun a ha => ?_
  walk_at "R"
  refine fun b hb' => ?_
  walk_at "R"
  refine fun c hc => ?_
  obtain ⟨T1, x1, e1, eS⟩ := x.dr (tr := tr)
  have hT1 : tsz T1 ≤ 1000 := by
    by_cases hs : isS T0
    · rw [eS hs]; exact hT
    · have : ¬ isS T1 := fun q => by
        have h1 := comp_no (tr := tr) x hs
        have h2 := (comp_yes (tr := tr) x1 q).2
        first | exact (no h1 h2).elim | exact (no h2 h1).elim | obtain rfl := so h1 h2 | (rw [h1] at h2; cases h2)
      rw [tsz_no this]; decide
  have o1 : Off [] H (upd (upd (upd H a (.dictI [])) b (.dictI [])) c (.list [])) := ((Off.nw _ ha).trans (Off.nw _ hb')).trans (Off.nw _ hc)
  have t1 := t.off o1 fun _ _ => by simp
  have s1 := s.off o1 fun _ _ => by simp
  have to := t1.st
  have td := t1.sd
  walk_at "R"
  refine (c_globalise Fn t1 hd x.ok ?_).x
  walk_at "R"
  walk_at "R"
  refine fun d hd' => ?_
  have nb := back_none hb'
  have nc := back_none (back_none hc)
  have nd := back_none (back_none (back_none hd'))
  have g : TkA L D a b c d := {
    nd := by
      have q1 := ne_new ha hD
      have q2 := ne_new nb hD
      have q3 := ne_new nc hD
      have q4 := ne_new nd hD
      have q5 := (none_of hb').2
      have q6 := (none_of (back_none hc)).2
      have q7 := (none_of hc).2
      have q8 := (none_of (back_none (back_none hd'))).2
      have q9 := (none_of (back_none hd')).2
      have q10 := (none_of hd').2
      simp only [List.nodup_cons, List.mem_cons, List.mem_nil_iff, or_false, not_or, List.nodup_nil, and_true, not_false_iff]
      exact ⟨⟨q1.symm, q2.symm, q3.symm, q4.symm⟩, ⟨q5.symm, q6.symm, q8.symm⟩, ⟨q7.symm, q9.symm⟩, q10.symm⟩
    ap := fun y hy q => by
      simp only [List.mem_cons, List.mem_nil_iff, or_false] at q
      rcases q with rfl | rfl | rfl | rfl | rfl
      · exact known_ne t s (.inl ⟨_, hD⟩) hy
      · exact known_ne t s (.inr ha) hy
      · exact known_ne t s (.inr nb) hy
      · exact known_ne t s (.inr nc) hy
      · exact known_ne t s (.inr nd) hy }
  have hG : TkG h F tr T1 [] [] [] [.vis b' (drC tr c') T1] [] := {
    go := ⟨x1, (fun _ hq => absurd hq List.not_mem_nil), rfl⟩
    kv := fun _ _ q => by cases q
    tb := .inl rfl
    r := by simp [wts, Wk.wt]; (first | lia | omega)
    k := by simp [wts, Wk.wt]; (first | lia | omega)
    z := by simp [wts, Wk.wt]; (first | lia | omega)
    b := fun w hw => by simp only [List.mem_singleton] at hw; subst hw; exact hT1 }
  have hH : TkH L h A F D a b c d H [] [] [] [] [.tup [.int 0, clV (drC tr c')]] (upd (upd (upd (upd H a (.dictI [])) b (.dictI [])) c (.list [])) d (.list [.tup [.int 0, clV (drC tr c')]])) := {
    st := t1.off (Off.nw (l := []) _ hd') fun _ _ => by simp
    sy := s1.off (Off.nw (l := []) _ hd') fun _ _ => by simp
    tb := nw hd' (nw hc (nw hb' (nw ha hD)))
    kn := nw hd' (nw hc (nw hb' (upd_self _ _ _)))
    sz := nw hd' (nw hc (upd_self _ _ _))
    rs := nw hd' (upd_self _ _ _)
    ws := upd_self _ _ _
    off := (o1.trans (Off.nw _ hd')).sub fun _ q => by cases q }
  have fa := Fresh.of ha
  have fb := Fresh.of nb
  have fc := Fresh.of nc
  have fd := Fresh.of nd
  clear to td t1 s1 ha hb' hc hd' nb nc nd o1
  generalize upd (upd (upd (upd H a (.dictI [])) b (.dictI [])) c (.list [])) d (.list [.tup [.int 0, clV (drC tr c')]]) = H1 at *
  walk_at "R"
  refine ⟨fun m lo H' => TkI L h A F tr T1 D a b c d H m lo H', ⟨_, .of (W := [.vis b' (drC tr c') T1]) (R := []) ?_ hG hH rfl rfl⟩, fun m lo H' I => ?_⟩
  · exact ⟨rfl, rfl, rfl, rfl, rfl, rfl⟩
  obtain ⟨hL, W, R, tb, kn, sz, hG, hH, rfl⟩ := I
  have l0 := hL.l0
  have l5 := hL.l5
  have l6 := hL.l6
  walk_at "R"
  have hw := wts_len W
  have hr := hG.r
  refine bQ.lenL hH.ws rfl (by rw [List.length_map, List.length_reverse]; clear hb hT hT1; (first | lia | omega)) ?_
  walk_at "R"
  cases W with
  | nil =>
    refine bi2 (b_ifd (fun q => absurd q (by simp)) fun _ => ?_)
    have e : R = [fol tr T1] := hG.go
    subst e
    walk_at "R"
    refine subV.list (z := tmV (fol tr T1)) hH.rs (by decide) (by decide) rfl ?_
    rw [e1]
    refine hq H' hH.st hH.sy (hH.off.less fun y hy => ?_)
    simp only [List.mem_cons, List.mem_nil_iff, or_false] at hy
    rcases hy with rfl | rfl | rfl | rfl | rfl
    · exact .inl (by simp)
    · exact .inr fa
    · exact .inr fb
    · exact .inr fc
    · exact .inr fd
  | cons w W =>
    refine bi2 (b_ifd (fun _ => ?_) fun q => absurd (by simp) q)
    have hH2 := hH.pop
    have hlen : (W.reverse.map Wk.val).length ≤ 1000000 := by
      rw [List.length_map, List.length_reverse]; rw [List.length_cons] at hw; clear hb hT hT1; (first | lia | omega)
    walk_at "R"
    refine ⟨_, _, _, rfl, hH2.ws, hlen, ?_⟩
    have hH3 := hH2.setW g (W.reverse.map Wk.val)
    cases w with
    | vis b2 c2 t2 =>
      refine ⟨_, _, rfl, ?_⟩
      walk_at "R"
      refine e_int (fun q => absurd q (by decide)) fun _ => b_f ?_
      refine w_nil (q_next ?_)
      refine tk_vis Fn g hb ok hd hG hH3 ?_ rfl fun m lo' H2 hm I => ?_
      · exact ⟨l0, hL.l2, hL.l3, hL.l4, l5, l6⟩
      · exact ⟨m, hm, I⟩
    | bld c2 f l =>
      obtain ⟨R0, hR, _⟩ := hG.go.2.2
      subst hR
      refine ⟨_, _, rfl, ?_⟩
      refine q_next ?_
      refine tk_build Fn g hb ok hd hG hH3 ?_ rfl rfl fun lo' H2 I => ?_
      · exact ⟨l0, hL.l2, hL.l3, hL.l4, l5, l6⟩
      · exact ⟨_, by simp only [wts, Wk.wt]; clear hr hb hT hT1; (first | lia | omega), I⟩
end

set_option maxHeartbeats 1000000

mutual
noncomputable def WfT (F : List FR) : Tm → Prop
  | .v n => n < 3
  | .a _ => True
  | .i _ => True
  | .s f l => (∃ a, F[f]? = some (a, l.length)) ∧ (f = 0 → l.length = 2) ∧ WfL F l
noncomputable def WfL (F : List FR) : List Tm → Prop
  | [] => True
  | t :: l => WfT F t ∧ WfL F l
end
mutual
noncomputable def cst : Tm → Nat
  | .v _ => 0
  | .a _ => 0
  | .i _ => 0
  | .s _ l => 1 + l.length + csts l
noncomputable def csts : List Tm → Nat
  | [] => 0
  | t :: l => cst t + csts l
end
mutual
theorem cst_le : ∀ t : Tm, cst t + 1 ≤ 2 * tsz t
  | .v _ => Nat.le_succ 1
  | .a _ => Nat.le_succ 1
  | .i _ => Nat.le_succ 1
  | .s _ l => by have := csts_le l; rw [cst, tsz]; (first | lia | omega)
theorem csts_le : ∀ l : List Tm, csts l + l.length ≤ 2 * tszs l
  | [] => Nat.le_refl _
  | t :: l => by have := cst_le t; have := csts_le l; rw [csts, tszs, List.length_cons]; (first | lia | omega)
end
noncomputable abbrev Pd := List (Nat × Tm)
/-- the places of a block's cells, with the terms that are due there -/
noncomputable def kidP : Nat → List Tm → Pd
  | _, [] => []
  | q, t :: l => (q, t) :: kidP (q + 1) l
noncomputable def pcs : Pd → Nat
  | [] => 0
  | x :: r => cst x.2 + pcs r
theorem pcs_app : ∀ a b : Pd, pcs (a ++ b) = pcs a + pcs b
  | [], b => by rw [List.nil_append, pcs, Nat.zero_add]
  | x :: a, b => by rw [List.cons_append, pcs, pcs, pcs_app a b, Nat.add_assoc]
theorem pcs_kid : ∀ (q : Nat) (l : List Tm), pcs (kidP q l) = csts l
  | _, [] => rfl
  | q, t :: l => by rw [kidP, pcs, csts, pcs_kid]
theorem kid_mem : ∀ {l : List Tm} {q : Nat} {x : Nat × Tm}, x ∈ kidP q l → q ≤ x.1 ∧ x.1 < q + l.length ∧ x.2 ∈ l
  | t :: l, q, x, h => by
    rcases List.mem_cons.mp h with rfl | h
    · exact ⟨Nat.le_refl _, by simp, .head _⟩
    · obtain ⟨h1, h2, h3⟩ := kid_mem h
      exact ⟨by (first | lia | omega), by rw [List.length_cons]; (first | lia | omega), .tail _ h3⟩
theorem kid_nd : ∀ (l : List Tm) (q : Nat), ((kidP q l).map (·.1)).Nodup
  | [], _ => .nil
  | t :: l, q => by
    refine List.nodup_cons.mpr ⟨fun h => ?_, kid_nd l (q + 1)⟩
    obtain ⟨x, hx, e⟩ := List.mem_map.mp h
    have h1 := (kid_mem hx).1
    have h2 : x.1 = q := e
    (first | lia | omega)
theorem wfl_mem {F : List FR} : ∀ {l : List Tm} {t : Tm}, WfL F l → t ∈ l → WfT F t
  | _ :: l, t, h, m => by
    rcases List.mem_cons.mp m with rfl | m
    · exact h.1
    · exact wfl_mem h.2 m
noncomputable def Sat (h : List Cl) (F : List FR) (P : Pd) : Prop := ∀ x ∈ P, ∃ c, h[x.1]? = some c ∧ LaidAt h F x.2 (x.1 + 1) c
noncomputable def Agr (h h' : List Cl) (P : Pd) : Prop := ∀ q, q < h.length → (∀ x ∈ P, x.1 ≠ q) → h'[q]? = h[q]?
theorem sat_kids {h : List Cl} {F : List FR} {b : Nat} : ∀ {l : List Tm} {q : Nat}, b ≤ q + 1 → (∀ x ∈ kidP q l, ∃ c, h[x.1]? = some c ∧ LaidAt h F x.2 (x.1 + 1) c) → LaidL h F l b q
  | [], _, _, _ => trivial
  | t :: l, q, hb, s => by
    obtain ⟨c, h1, h2⟩ := s (q, t) (.head _)
    exact ⟨⟨c, h1, h2.lower hb⟩, sat_kids (by (first | lia | omega)) fun x hx => s x (.tail _ hx)⟩
structure PI (h : List Cl) (F : List FR) (tr : Nat) (T0 : Tm) (c0 : Cl) (P : Pd) : Prop where
  go : ∀ h', Agr h h' P → Sat h' F P → LaidAt h' F T0 0 c0
  wf : ∀ x ∈ P, WfT F x.2
  lo : ∀ x ∈ P, 3 ≤ x.1
  hi : ∀ x ∈ P, x.1 < h.length
  nd : (P.map (·.1)).Nodup
  hd : Hd h tr
  sz : h.length + pcs P ≤ 50000
theorem Hd.len {h : List Cl} {tr : Nat} (x : Hd h tr) : 3 ≤ h.length := len_lt x.h2
theorem Hd.set {h : List Cl} {tr p : Nat} {c : Cl} (x : Hd h tr) (hp : 3 ≤ p) : Hd (h.set p c) tr :=
  have key : ∀ i, i < 3 → (h.set p c)[i]? = h[i]? := fun i hi => List.getElem?_set_ne (by (first | lia | omega))
  ⟨(key 0 (by decide)).trans x.h0, (key 1 (by decide)).trans x.h1, (key 2 (by decide)).trans x.h2⟩
theorem Hd.app {h r : List Cl} {tr : Nat} (x : Hd h tr) : Hd (h ++ r) tr :=
  have key : ∀ i, i < 3 → (h ++ r)[i]? = h[i]? := fun i hi => List.getElem?_append_left (Nat.lt_of_lt_of_le hi x.len)
  ⟨(key 0 (by decide)).trans x.h0, (key 1 (by decide)).trans x.h1, (key 2 (by decide)).trans x.h2⟩
theorem PI.fin {h : List Cl} {F : List FR} {tr : Nat} {T0 : Tm} {c0 : Cl} (x : PI h F tr T0 c0 []) : LaidAt h F T0 0 c0 := x.go h (fun _ _ _ => rfl) fun _ q => by cases q
/-- a leaf is written -/
theorem PI.leaf {h : List Cl} {F : List FR} {tr p : Nat} {T0 t : Tm} {c0 c : Cl} {P : Pd} (x : PI h F tr T0 c0 ((p, t) :: P)) (hs : ∀ h', LaidAt h' F t (p + 1) c) : PI (h.set p c) F tr T0 c0 P := by
  have nd := List.nodup_cons.mp x.nd
  have hp : ∀ y ∈ P, y.1 ≠ p := fun y hy e => nd.1 (List.mem_map.mpr ⟨y, hy, e⟩)
  have hlt : p < h.length := x.hi _ (.head _)
  refine ⟨fun h' ag sa => ?_, fun y hy => x.wf y (.tail _ hy), fun y hy => x.lo y (.tail _ hy), fun y hy => by rw [List.length_set]; exact x.hi y (.tail _ hy), nd.2, x.hd.set (x.lo _ (.head _)), ?_⟩
  · refine x.go h' (fun q hq hn => ?_) fun y hy => ?_
    · have e1 : p ≠ q := hn (p, t) (.head _)
      rw [ag q (by rw [List.length_set]; exact hq) fun y hy => hn y (.tail _ hy)]
      exact List.getElem?_set_ne e1
    · rcases List.mem_cons.mp hy with rfl | hy
      · refine ⟨c, ?_, hs h'⟩
        rw [ag p (by rw [List.length_set]; exact hlt) hp, List.getElem?_set_self hlt]
      · exact sa y hy
  · have := x.sz
    rw [List.length_set]
    exact Nat.le_trans (Nat.add_le_add_left (Nat.le_add_left _ _) _) this
noncomputable def newB (h : List Cl) (f r : Nat) : List Cl := if f = 0 then h ++ blk h.length 2 else h ++ (6, f) :: (blk h.length (r + 1)).tail
noncomputable def newC (h : List Cl) (f : Nat) : Cl := (if f = 0 then 3 else 2, h.length)
theorem newB_len (h : List Cl) (f r : Nat) (h0 : f = 0 → r = 2) : h.length ≤ bsC (newC h f) ∧ (newB h f r).length = bsC (newC h f) + r ∧ (newB h f r).length ≤ h.length + 1 + r := by
  unfold newB bsC newC blk
  by_cases e : f = 0
  · have := h0 e
    subst this
    rw [if_pos e, if_pos e]; simp
  · rw [if_neg e, if_neg e]; simp; (first | lia | omega)
theorem newB_old {h : List Cl} {f r q : Nat} (hq : q < h.length) : (newB h f r)[q]? = h[q]? := by
  unfold newB; split <;> exact List.getElem?_append_left hq
theorem newB_fn {h : List Cl} {f r : Nat} (h0 : f ≠ 0) : (newB h f r)[h.length]? = some (6, f) := by
  unfold newB; rw [if_neg h0, List.getElem?_append_right (Nat.le_refl _), Nat.sub_self]; rfl
theorem newB_pre (h : List Cl) (f r : Nat) : ∃ x, newB h f r = h ++ x := by
  unfold newB; split <;> exact ⟨_, rfl⟩
/-- a new block's cells are due -/
theorem PI.node {h : List Cl} {F : List FR} {tr p f : Nat} {T0 : Tm} {l : List Tm} {c0 : Cl} {P : Pd} (x : PI h F tr T0 c0 ((p, .s f l) :: P)) : PI ((newB h f l.length).set p (newC h f)) F tr T0 c0 (P ++ kidP (bsC (newC h f)) l) := by
  have nd := List.nodup_cons.mp x.nd
  have hp : ∀ y ∈ P, y.1 ≠ p := fun y hy e => nd.1 (List.mem_map.mpr ⟨y, hy, e⟩)
  have hlt : p < h.length := x.hi _ (.head _)
  have wf := x.wf _ (.head _)
  obtain ⟨n1, n2, n3⟩ := newB_len h f l.length wf.2.1
  have hsz := x.sz
  simp only [pcs, cst] at hsz
  have hl : ((newB h f l.length).set p (newC h f)).length = bsC (newC h f) + l.length := by rw [List.length_set, n2]
  have ge : ∀ y ∈ kidP (bsC (newC h f)) l, h.length ≤ y.1 := fun y hy => Nat.le_trans n1 (kid_mem hy).1
  refine ⟨fun h' ag sa => ?_, fun y hy => ?_, fun y hy => ?_, fun y hy => ?_, ?_, ?_, ?_⟩
  · refine x.go h' (fun q hq hn => ?_) fun y hy => ?_
    · have e1 : p ≠ q := hn (p, _) (.head _)
      rw [ag q (by (first | lia | omega)) fun y hy => ?_, List.getElem?_set_ne e1, newB_old hq]
      rcases List.mem_append.mp hy with hy | hy
      · exact hn y (.tail _ hy)
      · have := ge y hy; (first | lia | omega)
    · rcases List.mem_cons.mp hy with rfl | hy
      · refine ⟨newC h f, ?_, ?_⟩
        · rw [ag p (by (first | lia | omega)) fun y hy => ?_, List.getElem?_set_self (by (first | lia | omega))]
          rcases List.mem_append.mp hy with hy | hy
          · exact hp y hy
          · have := ge y hy; (first | lia | omega)
        · refine ⟨hlt, wf.1, ?_, by show h.length < 100000; (first | lia | omega), sat_kids (Nat.succ_le_succ n1) fun y hy => sa y (List.mem_append_right _ hy)⟩
          by_cases e : f = 0
          · exact .inl ⟨e, by unfold newC; rw [if_pos e], wf.2.1 e⟩
          · refine .inr ⟨e, by unfold newC; rw [if_neg e], ?_⟩
            have eb : bsC (newC h f) = h.length + 1 := by unfold bsC newC; rw [if_neg e]; rfl
            show h'[h.length]? = _
            rw [ag h.length (by (first | lia | omega)) fun y hy => ?_, List.getElem?_set_ne (by (first | lia | omega)), newB_fn e]
            rcases List.mem_append.mp hy with hy | hy
            · have := x.hi y (.tail _ hy); (first | lia | omega)
            · have := (kid_mem hy).1; (first | lia | omega)
      · exact sa y (List.mem_append_left _ hy)
  · rcases List.mem_append.mp hy with hy | hy
    · exact x.wf y (.tail _ hy)
    · exact wfl_mem wf.2.2 (kid_mem hy).2.2
  · rcases List.mem_append.mp hy with hy | hy
    · exact x.lo y (.tail _ hy)
    · have := ge y hy; have := x.hd.len; (first | lia | omega)
  · rcases List.mem_append.mp hy with hy | hy
    · have := x.hi y (.tail _ hy); (first | lia | omega)
    · have := (kid_mem hy).2.1; (first | lia | omega)
  · rw [List.map_append]
    refine List.nodup_append.mpr ⟨nd.2, kid_nd _ _, fun a ha b hb e => ?_⟩
    obtain ⟨y, hy, rfl⟩ := List.mem_map.mp ha
    obtain ⟨z, hz, rfl⟩ := List.mem_map.mp hb
    have h1 := x.hi y (.tail _ hy)
    have h2 := ge z hz
    (first | lia | omega)
  · obtain ⟨r, hr⟩ := newB_pre h f l.length
    rw [hr]
    exact x.hd.app.set (x.lo _ (.head _))
  · rw [hl, pcs_app, pcs_kid]
    (first | lia | omega)
/-- the first block -/
theorem PI.start {h : List Cl} {F : List FR} {tr f : Nat} {l : List Tm} (hd : Hd h tr) (wf : WfT F (.s f l)) (hs : h.length + cst (.s f l) ≤ 50000) : PI (newB h f l.length) F tr (.s f l) (newC h f) (kidP (bsC (newC h f)) l) := by
  obtain ⟨n1, n2, n3⟩ := newB_len h f l.length wf.2.1
  have h3 := hd.len
  simp only [cst] at hs
  have ge : ∀ y ∈ kidP (bsC (newC h f)) l, h.length ≤ y.1 := fun y hy => Nat.le_trans n1 (kid_mem hy).1
  refine ⟨fun h' ag sa => ?_, fun y hy => wfl_mem wf.2.2 (kid_mem hy).2.2, fun y hy => Nat.le_trans h3 (ge y hy), fun y hy => by have := (kid_mem hy).2.1; (first | lia | omega), kid_nd _ _, ?_, by rw [pcs_kid]; (first | lia | omega)⟩
  · refine ⟨Nat.zero_le _, wf.1, ?_, by show h.length < 100000; (first | lia | omega), sat_kids (Nat.succ_le_succ n1) sa⟩
    by_cases e : f = 0
    · exact .inl ⟨e, by unfold newC; rw [if_pos e], wf.2.1 e⟩
    · refine .inr ⟨e, by unfold newC; rw [if_neg e], ?_⟩
      have eb : bsC (newC h f) = h.length + 1 := by unfold bsC newC; rw [if_neg e]; rfl
      show h'[h.length]? = _
      rw [ag h.length (by (first | lia | omega)) fun y hy => ?_, newB_fn e]
      have := (kid_mem hy).1
      (first | lia | omega)
  · obtain ⟨r, hr⟩ := newB_pre h f l.length
    rw [hr]
    exact hd.app
-- the list of blocks that wait
noncomputable abbrev Wl := List (Nat × List Tm)
noncomputable def wlV (w : Nat × List Tm) : V := .tup [.int (w.1 : Nat), .tup (w.2.map tmV)]
noncomputable def pdW : Wl → Pd
  | [] => []
  | w :: r => kidP w.1 w.2 ++ pdW r
noncomputable def wlm : Wl → Nat
  | [] => 0
  | w :: r => 1 + 2 * tszs w.2 + wlm r
theorem pdW_app : ∀ a b : Wl, pdW (a ++ b) = pdW a ++ pdW b
  | [], b => rfl
  | x :: a, b => by rw [List.cons_append, pdW, pdW, pdW_app a b, List.append_assoc]
theorem wlm_app : ∀ a b : Wl, wlm (a ++ b) = wlm a + wlm b
  | [], b => by rw [List.nil_append, wlm, Nat.zero_add]
  | x :: a, b => by rw [List.cons_append, wlm, wlm, wlm_app a b]; (first | lia | omega)

set_option maxHeartbeats 1000000

section
variable {prog : Program} {K : Frag} {H : HM} {Q : QV} {n : Nat} {L : Ly} {h : List Cl} {A : List Str} {F : List FR} {tr : Nat} {T0 : Tm}
noncomputable def tblL : List (Int × V) := [(0, clV (0, 0)), (1, clV (0, 1)), (2, clV (0, 2))]
theorem tbl_get {n : Nat} (h : n < 3) : tblL.lookup (n : Int) = some (clV (0, n)) := by
  have : n = 0 ∨ n = 1 ∨ n = 2 := by (first | lia | omega)
  rcases this with rfl | rfl | rfl <;> rfl
theorem c_new_block' (Fn : Fns K) (t : StAt H L h) (s : SyAt H L.y A F) (ok : SyOk A F) {f r : Nat} (hf : ∃ a, F[f]? = some (a, r)) (h0 : f = 0 → r = 2) (hb : h.length + r + 1 ≤ 100000)
    (hq : ∀ H', StAt H' L (newB h f r) → SyAt H' L.y A F → Off [L.hp] H H' → Q (clV (newC h f)) H') : CC prog (tab K) (n + 2) (.ref 342) [.ref L.st, .int f] H Q := by
  obtain ⟨a, ha⟩ := hf
  exact c_new_block Fn t s ha (ok.flt ha) h0 hb hq
/-- what stands in the heap while a term is put; d: the list of blocks -/
structure PtH (L : Ly) (h : List Cl) (A : List Str) (F : List FR) (D d : Addr) (H0 : HM) (ws : Wl) (H : HM) : Prop where
  st : StAt H L h
  sy : SyAt H L.y A F
  tb : H D = some (.dictI tblL)
  ws : H d = some (.list (ws.map wlV))
  ne : d ∉ L.y.all ++ L.own ∧ d ≠ D ∧ D ≠ L.hp
  off : Off [L.hp, d] H0 H
variable {D d : Addr} {H0 : HM} {ws : Wl}
theorem PtH.setH (t : PtH L h A F D d H0 ws H) (h' : List Cl) : PtH L h' A F D d H0 ws (upd H L.hp (.list (h'.map clV))) where
  st := t.st.upH h'
  sy := t.sy.offH t.st (Off.wr _ (by simp))
  tb := (upd_ne t.ne.2.2).trans t.tb
  ws := (upd_ne fun e => t.ne.1 (by rw [e]; simp [Ly.own])).trans t.ws
  ne := t.ne
  off := t.off.trans (Off.wr _ (by simp))
theorem PtH.next (t : PtH L h A F D d H0 ws H) {h' : List Cl} {H' : HM} (st : StAt H' L h') (sy : SyAt H' L.y A F) (o : Off [L.hp] H H') : PtH L h' A F D d H0 ws H' where
  st := st
  sy := sy
  tb := o D _ rfl (by simpa using t.ne.2.2) t.tb
  ws := o d _ rfl (fun e => t.ne.1 (by rw [List.mem_singleton.mp e]; simp [Ly.own])) t.ws
  ne := t.ne
  off := t.off.trans (o.sub (by simp))
theorem PtH.setW (t : PtH L h A F D d H0 ws H) (ws' : Wl) : PtH L h A F D d H0 ws' (upd H d (.list (ws'.map wlV))) :=
  have o : Off [d] H (upd H d (.list (ws'.map wlV))) := Off.wr _ (by simp)
  { st := t.st.off o fun y hy q => t.ne.1 (by rw [← List.mem_singleton.mp q]; exact List.mem_append_right _ hy)
    sy := t.sy.off o fun y hy q => t.ne.1 (by rw [← List.mem_singleton.mp q]; exact List.mem_append_left _ hy)
    tb := (upd_ne t.ne.2.1.symm).trans t.tb
    ws := upd_self _ _ _
    ne := t.ne
    off := t.off.trans (Off.wr _ (by simp)) }
structure PtL (L : Ly) (D d : Addr) (c0 : Cl) (at_ : Nat) (lo : Lo) : Prop where
  l0 : lo 0 = some (.ref L.st)
  l2 : lo 2 = some (.ref D)
  l5 : lo 5 = some (clV c0)
  l6 : lo 6 = some (.ref d)
  l7 : lo 7 = some (.int (at_ : Nat))
/-- one block is filled: at its item i -/
structure PtJ (L : Ly) (A : List Str) (F : List FR) (tr : Nat) (T0 : Tm) (c0 : Cl) (D d : Addr) (H0 : HM) (m at_ p : Nat) (l : List Tm) (i : Nat) (lo : Lo) (H : HM) (ws : Wl) (h : List Cl) : Prop where
  pl : PtL L D d c0 at_ lo
  l9 : lo 9 = some (.int (p + i : Nat))
  le : at_ ≤ ws.length
  hH : PtH L h A F D d H0 ws H
  pi : PI h F tr T0 c0 (kidP (p + i) (l.drop i) ++ pdW (ws.drop at_))
  w : wlm (ws.drop at_) + 2 * tszs (l.drop i) + 1 ≤ m
  z : ws.length + wlm (ws.drop at_) + 2 * tszs (l.drop i) ≤ 5000
theorem drop_one {α : Type} {l : List α} {i : Nat} {x : α} (h : l[i]? = some x) : l.drop i = x :: l.drop (i + 1) := by
  have hlt := len_lt h
  rw [List.drop_eq_getElem_cons hlt]
  rw [List.getElem?_eq_getElem hlt] at h
  rw [Option.some.inj h]
theorem PtJ.leaf {c0 : Cl} {m at_ p i : Nat} {l : List Tm} {lo lo' : Lo} {t : Tm} {c : Cl} (j : PtJ L A F tr T0 c0 D d H0 m at_ p l i lo H ws h) (ht : l[i]? = some t) (hs : ∀ h', LaidAt h' F t (p + i + 1) c) (hl : PtL L D d c0 at_ lo') (h9 : lo' 9 = some (.int (p + (i + 1) : Nat))) :
    PtJ L A F tr T0 c0 D d H0 m at_ p l (i + 1) lo' (upd H L.hp (.list ((h.set (p + i) c).map clV))) ws (h.set (p + i) c) := by
  have pi := j.pi
  have w := j.w
  have z := j.z
  have e := tsz_pos t
  rw [drop_one ht] at pi w z
  rw [tszs] at w z
  exact ⟨hl, h9, j.le, j.hH.setH _, PI.leaf pi hs, by (first | lia | omega), by (first | lia | omega)⟩
theorem PtJ.node {c0 : Cl} {m at_ p i f : Nat} {l k : List Tm} {lo lo' : Lo} (j : PtJ L A F tr T0 c0 D d H0 m at_ p l i lo H ws h) (ht : l[i]? = some (.s f k)) (hl : PtL L D d c0 at_ lo') (h9 : lo' 9 = some (.int (p + (i + 1) : Nat)))
    {H' : HM} (hH : PtH L ((newB h f k.length).set (p + i) (newC h f)) A F D d H0 (ws ++ [(bsC (newC h f), k)]) H') :
    PtJ L A F tr T0 c0 D d H0 m at_ p l (i + 1) lo' H' (ws ++ [(bsC (newC h f), k)]) ((newB h f k.length).set (p + i) (newC h f)) := by
  have pi := j.pi
  have w := j.w
  have z := j.z
  rw [drop_one ht] at pi w z
  rw [tszs, tsz] at w z
  have e : (ws ++ [(bsC (newC h f), k)]).drop at_ = ws.drop at_ ++ [(bsC (newC h f), k)] := List.drop_append_of_le_length j.le
  refine ⟨hl, h9, by rw [List.length_append]; exact Nat.le_trans j.le (Nat.le_add_right _ _), hH, ?_, ?_, ?_⟩
  · rw [e, pdW_app]
    have := PI.node (P := kidP (p + (i + 1)) (l.drop (i + 1)) ++ pdW (ws.drop at_)) pi
    rw [List.append_assoc] at this
    simpa only [pdW, List.append_nil] using this
  · rw [e, wlm_app]; simp only [wlm]; (first | lia | omega)
  · rw [e, wlm_app, List.length_append]; simp only [wlm, List.length_singleton]; (first | lia | omega)
theorem pd_lt {c0 : Cl} {m at_ p i : Nat} {l : List Tm} {lo : Lo} {t : Tm} (j : PtJ L A F tr T0 c0 D d H0 m at_ p l i lo H ws h) (ht : l[i]? = some t) : p + i < h.length ∧ h.length ≤ 50000 := by
  have pi := j.pi
  rw [drop_one ht] at pi
  exact ⟨pi.hi _ (.head _), Nat.le_trans (Nat.le_add_right _ _) pi.sz⟩
theorem set_hp {hp : Addr} {h : List Cl} {q : Nat} {c : Cl} {P : HM → Prop} (hh : H hp = some (.list (h.map clV))) (hq : q < h.length) (hb : h.length ≤ 100000) (k : P (upd H hp (.list ((h.set q c).map clV)))) : setV (.ref hp) (.int (q : Nat)) (clV c) H P := by
  refine setV.list hh (Int.natCast_nonneg _) (by rw [List.length_map]; exact Int.ofNat_lt.mpr hq) (by rw [List.length_map]; exact Nat.le_trans hb (by decide)) ?_
  rw [Int.toNat_natCast, show (h.map clV).set q (clV c) = (h.set q c).map clV from (List.map_set ..).symm]
  exact k
end

set_option maxHeartbeats 1000000

section
variable {prog : Program} {K : Frag} {H : HM} {Q : QV} {n : Nat} {L : Ly} {h : List Cl} {A : List Str} {F : List FR} {tr : Nat} {T0 : Tm} {D d : Addr} {H0 : HM} {ws : Wl}
theorem get_tms {l : List Tm} {i : Nat} {v : V} (h : (l.map tmV)[i]? = some v) : ∃ t, l[i]? = some t ∧ v = tmV t := by
  rw [List.getElem?_map] at h
  obtain ⟨t, h1, h2⟩ := Option.map_eq_some_iff.mp h
  exact ⟨t, h1, h2.symm⟩
theorem w_augN' {T : Tab} {X : Addr → HM → Prop} {lo : Lo} {x : Nat} {i j : Int} {Q : QS} (hi : lo x = some (.int i)) (h : Q .next (upN lo x (.int (i + j))) H) : wpS prog T n X (.augN x (.const (.int j))) lo H Q := ⟨i, hi, j, rfl, h⟩
theorem i_succ (p i : Nat) : ((p + i : Nat) : Int) + 1 = ((p + (i + 1) : Nat) : Int) := by (first | lia | omega)
/-- one item is written -/
theorem pt_item (Fn : Fns K) (ok : SyOk A F) {c0 : Cl} {m at_ p i : Nat} {l : List Tm} {lo : Lo} {t : Tm} (j : PtJ L A F tr T0 c0 D d H0 m at_ p l i lo H ws h) (ht : l[i]? = some t) {P : QS} {X : Addr → HM → Prop}
    (hP : ∀ lo' H' ws' h', PtJ L A F tr T0 c0 D d H0 m at_ p l (i + 1) lo' H' ws' h' → P .next lo' H') :
    wpSs prog (tab K) (n + 2) X (.cons (.asgn 4 (.sub (.var 8) (.const (.int 0)))) (.cons (.ite (.cmp .Eq (.var 4) (.const (.str (sx 36)))) (.cons (.ite (.cmp .In (.sub (.var 8) (.const (.int 1))) (.var 2)) (.cons (.asgnS (.attr (.var 0) 2) (.var 9) (.sub (.var 2) (.sub (.var 8) (.const (.int 1))))) .nil) (.cons (.asgnS (.var 2) (.sub (.var 8) (.const (.int 1))) (.tup (.cons (.const (.int 0)) (.cons (.var 9) .nil)))) .nil)) .nil) (.cons (.ite (.cmp .Eq (.var 4) (.const (.str (sx 30)))) (.cons (.asgnS (.attr (.var 0) 2) (.var 9) (.tup (.cons (.const (.int 4)) (.cons (.sub (.var 8) (.const (.int 1))) .nil)))) .nil) (.cons (.ite (.cmp .Eq (.var 4) (.const (.str (sx 37)))) (.cons (.asgnS (.attr (.var 0) 2) (.var 9) (.tup (.cons (.const (.int 5)) (.cons (.sub (.var 8) (.const (.int 1))) .nil)))) .nil) (.cons (.asgn 11 (.meth (.var 0) 46 (.cons (.sub (.var 8) (.const (.int 1))) .nil))) (.cons (.asgnS (.attr (.var 0) 2) (.var 9) (.var 11)) (.cons (.expr (.append (.var 6) (.tup (.cons (.meth (.var 0) 44 (.cons (.var 11) .nil)) (.cons (.sub (.var 8) (.const (.int 2))) .nil))))) .nil)))) .nil)) .nil)) (.cons (.augN 9 (.const (.int 1))) .nil))) (upN lo 8 (tmV t)) H P := by
  obtain ⟨hlt, hle⟩ := pd_lt j ht
  have l0 := j.pl.l0
  have l2 := j.pl.l2
  have l5 := j.pl.l5
  have l6 := j.pl.l6
  have l7 := j.pl.l7
  have l9 := j.l9
  have st0 := j.hH.st
  have to := st0.st
  have td := st0.sd
  cases t with
  | v k =>
    have hk : k < 3 := by have := j.pi.wf; rw [drop_one ht] at this; exact this _ (.head _)
    rw [show tmV (.v k) = .tup [.str (sx 36), .int k] by rw [tmV]]
    walk_at "R"
    refine sbI (by decide) (by decide) rfl ?_
    walk_at "R"
    refine e_str (by decide) (by decide) (fun _ => b_t ?_) fun q => absurd rfl q
    walk_at "R"
    refine sbI (by decide) (by decide) rfl ?_
    walk_at "R"
    refine .inl ⟨_, _, _, rfl, rfl, j.hH.tb, ?_⟩
    rw [tbl_get hk]
    refine b_t ?_
    walk_at "R"
    refine sbI (by decide) (by decide) rfl ?_
    refine subV.dictI j.hH.tb (tbl_get hk) ?_
    walk_at "R"
    refine set_hp st0.hp hlt (Nat.le_trans hle (by decide)) ?_
    walk_at "R"
    refine w_augN' l9 ?_
    walk_at "R"
    exact hP _ _ _ _ (j.leaf ht (fun h' => ⟨rfl, hk⟩) ⟨l0, l2, l5, l6, l7⟩ (by rw [← i_succ]; rfl))
  | a k =>
    rw [show tmV (.a k) = .tup [.str (sx 30), .int k] by rw [tmV]]
    walk_at "R"
    refine sbI (by decide) (by decide) rfl ?_
    walk_at "R"
    refine e_str (by decide) (by decide) (fun q => absurd q (by decide)) fun _ => b_f ?_
    walk_at "R"
    refine e_str (by decide) (by decide) (fun _ => b_t ?_) fun q => absurd rfl q
    walk_at "R"
    refine sbI (by decide) (by decide) rfl ?_
    walk_at "R"
    walk_at "R"
    refine set_hp (c := (4, k)) st0.hp hlt (Nat.le_trans hle (by decide)) ?_
    walk_at "R"
    refine w_augN' l9 ?_
    walk_at "R"
    exact hP _ _ _ _ (j.leaf ht (fun h' => rfl) ⟨l0, l2, l5, l6, l7⟩ (by rw [← i_succ]; rfl))
  | i k =>
    rw [show tmV (.i k) = .tup [.str (sx 37), .int k] by rw [tmV]]
    walk_at "R"
    refine sbI (by decide) (by decide) rfl ?_
    walk_at "R"
    refine e_str (by decide) (by decide) (fun q => absurd q (by decide)) fun _ => b_f ?_
    walk_at "R"
    refine e_str (by decide) (by decide) (fun q => absurd q (by decide)) fun _ => b_f ?_
    walk_at "R"
    refine e_str (by decide) (by decide) (fun _ => b_t ?_) fun q => absurd rfl q
    walk_at "R"
    refine sbI (by decide) (by decide) rfl ?_
    walk_at "R"
    walk_at "R"
    refine set_hp (c := (5, k)) st0.hp hlt (Nat.le_trans hle (by decide)) ?_
    walk_at "R"
    refine w_augN' l9 ?_
    walk_at "R"
    exact hP _ _ _ _ (j.leaf ht (fun h' => rfl) ⟨l0, l2, l5, l6, l7⟩ (by rw [← i_succ]; rfl))
  | s f k =>
    have hw : WfT F (.s f k) := by have := j.pi.wf; rw [drop_one ht] at this; exact this _ (.head _)
    have hsz : h.length + (1 + k.length) ≤ 50000 := by
      have := j.pi.sz
      rw [drop_one ht] at this
      simp only [kidP, List.cons_append, pcs, cst] at this
      clear hle hlt
      (first | lia | omega)
    obtain ⟨n1, n2, n3⟩ := newB_len h f k.length hw.2.1
    rw [show tmV (.s f k) = .tup [.str (sx 29), .int f, .tup (k.map tmV)] by rw [tmV, tmVs_map]]
    walk_at "R"
    refine sbI (by decide) (by decide) rfl ?_
    walk_at "R"
    refine e_str (by decide) (by decide) (fun q => absurd q (by decide)) fun _ => b_f ?_
    walk_at "R"
    refine e_str (by decide) (by decide) (fun q => absurd q (by decide)) fun _ => b_f ?_
    walk_at "R"
    refine e_str (by decide) (by decide) (fun q => absurd q (by decide)) fun _ => b_f ?_
    walk_at "R"
    refine sbI (by decide) (by decide) rfl ?_
    walk_at "R"
    refine (c_new_block' Fn st0 j.hH.sy ok hw.1 hw.2.1 (by clear hle hlt n1 n2 n3; (first | lia | omega)) fun H1 st1 sy1 o1 => ?_).x
    have hH1 := j.hH.next st1 sy1 o1
    clear to td
    have to := st1.st
    have td := st1.sd
    walk_at "R"
    refine set_hp st1.hp (Nat.lt_of_lt_of_le hlt (by rw [n2]; exact Nat.le_trans n1 (Nat.le_add_right _ _))) (Nat.le_trans n3 (by clear hle hlt n1 n2 n3; (first | lia | omega))) ?_
    have hH2 := hH1.setH ((newB h f k.length).set (p + i) (newC h f))
    clear hH1 to td st1 sy1
    have st2 := hH2.st
    have to := st2.st
    have td := st2.sd
    generalize upd H1 L.hp (.list (((newB h f k.length).set (p + i) (newC h f)).map clV)) = H2 at *
    walk_at "R"
    refine ap1 hH2.ws ?_
    walk_at "R"
    refine (c_base Fn ?_).x
    walk_at "R"
    refine sbI (by decide) (by decide) rfl ?_
    walk_at "R"
    have hz := j.z
    refine ap2 hH2.ws (by rw [List.length_map]; exact Nat.le_trans (Nat.le_trans (Nat.le_trans (Nat.le_add_right _ _) (Nat.le_add_right _ _)) hz) (by decide)) ?_
    walk_at "R"
    have hH3 := hH2.setW (ws ++ [(bsC (newC h f), k)])
    rw [show ws.map wlV ++ [.tup [.int (bsC (newC h f) : Nat), .tup (k.map tmV)]] = (ws ++ [(bsC (newC h f), k)]).map wlV by rw [List.map_append]; rfl]
    refine w_augN' l9 ?_
    walk_at "R"
    refine hP _ _ _ _ (j.node ht ?_ ?_ hH3)
    · exact ⟨l0, l2, l5, l6, l7⟩
    · rw [← i_succ]; rfl
theorem c_put_term (Fn : Fns K) (t : StAt H L h) (s : SyAt H L.y A F) (ok : SyOk A F) (hd : Hd h tr) (wf : WfT F T0) (hT : tsz T0 ≤ 1000) (hN : h.length + cst T0 ≤ 50000) {D : Addr} (hD : H D = some (.dictI tblL))
    (hq : ∀ H' h' c, StAt H' L h' → SyAt H' L.y A F → Hd h' tr → LaidAt h' F T0 0 c → h'.length ≤ 50000 → Off [L.hp] H H' → Q (clV c) H') : CC prog (tab K) (n + 3) (.ref 385) [.ref L.st, tmV T0, .ref D] H Q := by
  refine cc_fn Fn.f_Store_put_term rfl ?_
  unfold s_Store_put_term
  have hlen : h.length ≤ 50000 := Nat.le_trans (Nat.le_add_right _ _) hN
  walk_at "R"
  refine bQ.lstD hD (by decide) (fun q hq0 => ?_)
  have o1 : Off [] H (upd H q (.list (tblL.map fun p => .int p.1))) := Off.nw _ hq0
  have t1 := t.off o1 fun _ _ => by simp
  have s1 := s.off o1 fun _ _ => by simp
  have hD1 := nw (m := .list (tblL.map fun p => .int p.1)) hq0 hD
  have hq1 := upd_self H q (.list (tblL.map fun p => .int p.1))
  clear hq0
  generalize upd H q (.list (tblL.map fun p => .int p.1)) = H1 at *
  refine SeqSrc.list hq1 ⟨fun i lo H' => H' = H1 ∧ lo 0 = some (.ref L.st) ∧ lo 1 = some (tmV T0) ∧ lo 2 = some (.ref D), ⟨rfl, rfl, rfl, rfl⟩, fun _ _ _ J => by rw [J.1]; exact hq1, fun i y lo H' J hy => ?_, fun lo H' J => ?_⟩
  · obtain ⟨e, l0, l1, l2⟩ := J
    subst e
    obtain ⟨k, hk, rfl⟩ : ∃ k : Nat, k < 3 ∧ y = .int k := by
      have : i < 3 := len_lt hy
      have : i = 0 ∨ i = 1 ∨ i = 2 := by (first | lia | omega)
      rcases this with rfl | rfl | rfl
      · exact ⟨0, by decide, (Option.some.inj hy).symm⟩
      · exact ⟨1, by decide, (Option.some.inj hy).symm⟩
      · exact ⟨2, by decide, (Option.some.inj hy).symm⟩
    walk_at "R"
    refine subV.dictI hD1 (tbl_get hk) ?_
    walk_at "R"
    refine sbI (H := H') (by decide) (by decide) rfl ?_
    walk_at "R"
    refine e_int (fun z => absurd z (show ¬ ((0 : Nat) : Int) = 1 by decide)) fun _ => b_f ?_
    walk_at "R"
    exact ⟨rfl, l0, l1, l2⟩
  obtain ⟨e, l0, l1, l2⟩ := J
  subst e
  have to := t1.st
  have td := t1.sd
  have done : ∀ c, LaidAt h F T0 0 c → Q (clV c) H' := fun c x => hq H' h c t1 s1 hd x hlen (o1.sub fun _ q => by cases q)
  walk_at "R"
  cases T0 with
  | v k =>
    have hk : k < 3 := wf
    rw [show tmV (.v k) = .tup [.str (sx 36), .int k] by rw [tmV]] at l1 ⊢
    refine sbI (by decide) (by decide) rfl ?_
    walk_at "R"
    refine e_str (by decide) (by decide) (fun _ => b_t ?_) fun q => absurd rfl q
    walk_at "R"
    refine sbI (by decide) (by decide) rfl ?_
    walk_at "R"
    refine .inl ⟨_, _, _, rfl, rfl, hD1, ?_⟩
    rw [tbl_get hk]
    refine b_f ?_
    walk_at "R"
    refine sbI (by decide) (by decide) rfl ?_
    refine subV.dictI hD1 (tbl_get hk) ?_
    walk_at "R"
    exact done _ ⟨rfl, hk⟩
  | a k =>
    rw [show tmV (.a k) = .tup [.str (sx 30), .int k] by rw [tmV]] at l1 ⊢
    refine sbI (by decide) (by decide) rfl ?_
    walk_at "R"
    refine e_str (by decide) (by decide) (fun q => absurd q (by decide)) fun _ => b_f ?_
    walk_at "R"
    refine e_str (by decide) (by decide) (fun _ => b_t ?_) fun q => absurd rfl q
    walk_at "R"
    refine sbI (by decide) (by decide) rfl ?_
    walk_at "R"
    walk_at "R"
    exact done (4, k) rfl
  | i k =>
    rw [show tmV (.i k) = .tup [.str (sx 37), .int k] by rw [tmV]] at l1 ⊢
    refine sbI (by decide) (by decide) rfl ?_
    walk_at "R"
    refine e_str (by decide) (by decide) (fun q => absurd q (by decide)) fun _ => b_f ?_
    walk_at "R"
    refine e_str (by decide) (by decide) (fun q => absurd q (by decide)) fun _ => b_f ?_
    walk_at "R"
    refine e_str (by decide) (by decide) (fun _ => b_t ?_) fun q => absurd rfl q
    walk_at "R"
    refine sbI (by decide) (by decide) rfl ?_
    walk_at "R"
    walk_at "R"
    exact done (5, k) rfl
  | s f k =>
    clear done
    have pi0 := PI.start hd wf hN
    obtain ⟨n1, n2, n3⟩ := newB_len h f k.length wf.2.1
    rw [show tmV (.s f k) = .tup [.str (sx 29), .int f, .tup (k.map tmV)] by rw [tmV, tmVs_map]] at l1 ⊢
    refine sbI (by decide) (by decide) rfl ?_
    walk_at "R"
    refine e_str (by decide) (by decide) (fun q => absurd q (by decide)) fun _ => b_f ?_
    walk_at "R"
    refine e_str (by decide) (by decide) (fun q => absurd q (by decide)) fun _ => b_f ?_
    walk_at "R"
    refine e_str (by decide) (by decide) (fun q => absurd q (by decide)) fun _ => b_f ?_
    walk_at "R"
    refine sbI (by decide) (by decide) rfl ?_
    walk_at "R"
    refine (c_new_block' Fn t1 s1 ok wf.1 wf.2.1 (by rw [cst] at hN; clear hlen n1 n2 n3 hT; (first | lia | omega)) fun H2 st2 sy2 o2 => ?_).x
    have hD2 : H2 D = some (.dictI tblL) := o2 D _ rfl (fun z => by rw [List.mem_singleton.mp z, t1.hp] at hD1; cases hD1) hD1
    clear to td
    have to := st2.st
    have td := st2.sd
    walk_at "R"
    refine (c_base Fn ?_).x
    walk_at "R"
    refine sbI (by decide) (by decide) rfl ?_
    walk_at "R"
    walk_at "R"
    refine fun d hd' => ?_
    have hne : d ∉ L.y.all ++ L.own := known_ne st2 sy2 (.inr hd')
    have hH : PtH L (newB h f k.length) A F D d H [(bsC (newC h f), k)] (upd H2 d (.list [.tup [.int (bsC (newC h f) : Nat), .tup (k.map tmV)]])) := {
      st := st2.off (Off.nw (l := []) _ hd') fun _ _ => by simp
      sy := sy2.off (Off.nw (l := []) _ hd') fun _ _ => by simp
      tb := nw hd' hD2
      ws := upd_self _ _ _
      ne := ⟨hne, ne_new hd' hD2, fun e => by rw [e, t1.hp] at hD1; cases hD1⟩
      off := ((o1.sub (by simp)).trans (o2.sub (by simp))).trans (Off.nw _ hd') }
    have fd : Fresh H d := ((Fresh.of hd').back (l := [L.hp]) ((o1.sub (by simp)).trans o2) fun e => hne (by rw [List.mem_singleton.mp e]; simp [Ly.own]))
    clear to td st2 sy2 o2 hd' hne hD2
    generalize upd H2 d (.list [.tup [.int (bsC (newC h f) : Nat), .tup (k.map tmV)]]) = H3 at *
    walk_at "R"
    refine ⟨fun m lo H' => ∃ at_ ws h', PtL L D d (newC h f) at_ lo ∧ at_ ≤ ws.length ∧ PtH L h' A F D d H ws H' ∧ PI h' F tr (.s f k) (newC h f) (pdW (ws.drop at_)) ∧ wlm (ws.drop at_) ≤ m ∧ ws.length + wlm (ws.drop at_) ≤ 5000, ⟨_, 0, _, _, ⟨l0, l2, rfl, rfl, rfl⟩, Nat.zero_le _, hH, ?_, Nat.le_refl _, ?_⟩, fun m lo H' I => ?_⟩
    · simpa [pdW] using pi0
    · rw [tsz] at hT
      simp only [List.drop_zero, wlm, List.length_singleton]
      clear hlen n1 n2 n3 hN
      (first | lia | omega)
    clear hH
    obtain ⟨at_, ws, h', hL, hle, hH, pi, hm, hz⟩ := I
    have l0 := hL.l0
    have l5 := hL.l5
    have l6 := hL.l6
    have l7 := hL.l7
    have hz' : ws.length ≤ 5000 := Nat.le_trans (Nat.le_add_right _ _) hz
    walk_at "R"
    refine bQ.lenL hH.ws (List.length_map _) (Nat.le_trans hz' (by decide)) ?_
    walk_at "R"
    refine bi2 (b_ifd (fun hlt => ?_) fun hge => ?_)
    · have hlt' : at_ < ws.length := Int.ofNat_lt.mp hlt
      obtain ⟨w, hw⟩ : ∃ w, ws[at_]? = some w := ⟨_, List.getElem?_eq_getElem hlt'⟩
      obtain ⟨p, l⟩ := w
      rw [drop_one hw] at pi hm hz
      walk_at "R"
      refine subV.list (z := wlV (p, l)) hH.ws (Int.natCast_nonneg _) (Int.ofNat_lt.mpr (Nat.lt_of_lt_of_le hlt' (Nat.le_trans hz' (by decide)))) (by rw [Int.toNat_natCast, List.getElem?_map, hw]; rfl) ?_
      refine ⟨_, _, rfl, ?_⟩
      walk_at "R"
      refine w_augN' l7 ?_
      walk_at "R"
      refine .tup ⟨fun i lo H' => ∃ ws h', PtJ L A F tr (.s f k) (newC h f) D d H m (at_ + 1) p l i lo H' ws h', ⟨ws, h', ⟨l0, hL.l2, l5, l6, rfl⟩, rfl, hlt', hH, ?_, ?_, ?_⟩, fun _ _ _ _ => trivial, fun i y lo H' J hy => ?_, fun lo H' J => ?_⟩
      · simpa [pdW] using pi
      · rw [List.drop_zero]; simp only [wlm] at hm; clear hlen n1 n2 n3 hN hT hz hz'; (first | lia | omega)
      · rw [List.drop_zero]; simp only [wlm] at hz; clear hlen n1 n2 n3 hN hT hm hz'; (first | lia | omega)
      · obtain ⟨ws, h', j⟩ := J
        obtain ⟨t, ht, rfl⟩ := get_tms hy
        exact pt_item Fn ok j ht fun lo' H' ws' h' j' => ⟨ws', h', j'⟩
      · obtain ⟨ws, h', j⟩ := J
        have hpi := j.pi
        have hw := j.w
        have hzz := j.z
        rw [List.length_map, List.drop_length] at hpi hw hzz
        walk_at "R"
        exact ⟨wlm (ws.drop (at_ + 1)), hw, at_ + 1, ws, h', j.pl, j.le, j.hH, hpi, Nat.le_refl _, hzz⟩
    · have hge' : ws.length ≤ at_ := Nat.le_of_not_lt fun q => hge (Int.ofNat_lt.mpr q)
      rw [List.drop_eq_nil_of_le hge'] at pi
      walk_at "R"
      refine hq H' h' _ hH.st hH.sy pi.hd pi.fin (Nat.le_trans (Nat.le_add_right _ _) pi.sz) (hH.off.less fun y hy => ?_)
      rcases List.mem_cons.mp hy with rfl | hy
      · exact .inl (by simp)
      · exact .inr (by rw [List.mem_singleton.mp hy]; exact fd)
end

set_option maxHeartbeats 1000000

/-- an object under making: its class and dict, what was made beside it -/
structure Ini (H0 H : HM) (x dx : Addr) (C : Nat) (l : List (Nat × V)) (ls : List (Addr × M)) : Prop where
  hx : H x = some (.inst C dx)
  hd : H dx = some (.attrs (atL l))
  ne : x ≠ dx
  off : Off [dx] H0 H
  al : ∀ p ∈ ls, H p.1 = some p.2 ∧ Fresh H0 p.1 ∧ p.1 ≠ dx ∧ p.1 ≠ x
  nd : (ls.map (·.1)).Nodup
section
variable {prog : Program} {K : Frag} {H H0 : HM} {Q : QV} {n : Nat} {L : Ly} {h : List Cl} {A : List Str} {F : List FR} {x dx : Addr} {C : Nat} {l : List (Nat × V)} {ls : List (Addr × M)}
theorem Ini.alloc (I : Ini H0 H x dx C l ls) {a : Addr} (ha : H a = none) (m : M) : Ini H0 (upd H a m) x dx C l ((a, m) :: ls) where
  hx := nw ha I.hx
  hd := nw ha I.hd
  ne := I.ne
  off := I.off.trans (Off.nw _ ha)
  al p hp := by
    rcases List.mem_cons.mp hp with rfl | hp
    · exact ⟨upd_self _ _ _, (Fresh.of ha).back I.off (by simpa using ne_new ha I.hd), ne_new ha I.hd, ne_new ha I.hx⟩
    · have q := I.al p hp
      exact ⟨nw ha q.1, q.2⟩
  nd := by
    refine List.nodup_cons.mpr ⟨fun q => ?_, I.nd⟩
    obtain ⟨p, hp, e⟩ := List.mem_map.mp q
    have := (I.al p hp).1
    rw [show p.1 = a from e, ha] at this; cases this
theorem Ini.sA0 (I : Ini H0 H x dx C l ls) {i : Nat} {y : V} {P : HM → Prop} (ho : okA l = true) (hi : Nat.blt i 57 = true) (ht : setaL.contains (C, i) = true) (hl : Nat.ble l.length 400 = true) (q : ∀ H', Ini H0 H' x dx C (putN l i y) ls → P H') : sA (tab K) (.ref x) (an i) y H P :=
  sA_ok I.hx I.hd ho hi ht hl (q _ {
    hx := (upd_ne I.ne).trans I.hx
    hd := upd_self _ _ _
    ne := I.ne
    off := I.off.trans (Off.wr _ (by simp))
    al := fun p hp => have q := I.al p hp; ⟨(upd_ne q.2.2.1).trans q.1, q.2⟩
    nd := I.nd })
theorem Ini.next (I : Ini H0 H x dx C l ls) {H' : HM} (o : Off [] H H') (hls : ∀ p ∈ ls, p.2.nt = true) : Ini H0 H' x dx C l ls where
  hx := o _ _ rfl (by simp) I.hx
  hd := o _ _ rfl (by simp) I.hd
  ne := I.ne
  off := I.off.trans (o.sub (by simp))
  al p hp := have q := I.al p hp; ⟨o _ _ (hls p hp) (by simp) q.1, q.2⟩
  nd := I.nd
theorem Ini.start {x dx : Addr} (hx : H x = none) (hd : H dx = none) (hne : x ≠ dx) : Ini (upd (upd H dx (.attrs (atL []))) x (.inst C dx)) (upd (upd H dx (.attrs (atL []))) x (.inst C dx)) x dx C [] [] where
  hx := upd_self _ _ _
  hd := (upd_ne hne.symm).trans (upd_self _ _ _)
  ne := hne
  off := Off.refl _ _
  al p hp := by cases hp
  nd := .nil
theorem c_Store (Fn : Fns K) {y : Sy} (s : SyAt H y A F) (hq : ∀ L H', L.y = y → SyAt H' y A F → StAt H' L [] → Off [] H H' → (∀ a ∈ L.own, Fresh H a) → Q (.ref L.st) H') : CC prog (tab K) (n + 2) (.ref 402) [.ref y.o, .int 100000] H Q := by
  refine cc_make (fI := 216) rfl fun x dx h1 h2 hne => ?_
  have I := Ini.start (C := 402) h1 h2 hne
  have o0 : Off [] H (upd (upd H dx (.attrs (atL []))) x (.inst 402 dx)) := (Off.nw _ h2).trans (Off.nw _ (by rw [upd_ne hne]; exact h1))
  rw [show (M.attrs []) = .attrs (atL []) from rfl]
  generalize upd (upd H dx (.attrs (atL []))) x (.inst 402 dx) = H1 at *
  refine cc_fn Fn.f_Cells_init rfl ?_
  unfold s_Cells_init
  walk_at "S"
  refine I.sA0 rfl rfl rfl rfl fun H2 I => ?_
  walk_at "S"
  refine I.sA0 rfl rfl rfl rfl fun H3 I => ?_
  walk_at "S"
  refine fun a1 n1 => ?_
  replace I := I.alloc n1 (.list [])
  walk_at "S"
  refine I.sA0 rfl rfl rfl rfl fun H4 I => ?_
  walk_at "S"
  refine fun a2 n2 => ?_
  replace I := I.alloc n2 (.list [])
  walk_at "S"
  refine I.sA0 rfl rfl rfl rfl fun H5 I => ?_
  walk_at "S"
  refine fun a3 n3 => ?_
  replace I := I.alloc n3 (.list [])
  walk_at "S"
  refine I.sA0 rfl rfl rfl rfl fun H6 I => ?_
  walk_at "S"
  refine I.sA0 rfl rfl rfl rfl fun H7 I => ?_
  walk_at "S"
  refine I.sA0 rfl rfl rfl rfl fun H8 I => ?_
  walk_at "S"
  refine ⟨rfl, ?_⟩
  have l3 := I.al (a3, .list []) (by simp)
  have l2 := I.al (a2, .list []) (by simp)
  have l1 := I.al (a1, .list []) (by simp)
  have oo : Off [] H H8 := o0.chain I.off fun a ha => .inr (by rw [List.mem_singleton.mp ha]; exact .of h2)
  have fr : ∀ {a}, Fresh H1 a → Fresh H a := fun f => f.back o0 (by simp)
  have own : ∀ a ∈ [x, dx, a1, a2, a3], Fresh H a := fun a ha => by
    simp only [List.mem_cons, List.mem_nil_iff, or_false] at ha
    rcases ha with rfl | rfl | rfl | rfl | rfl
    · exact .of h1
    · exact .of h2
    · exact fr l1.2.1
    · exact fr l2.2.1
    · exact fr l3.2.1
  refine hq ⟨y, x, dx, a1, a2, a3⟩ H8 rfl (s.off oo fun _ _ => by simp) ⟨I.hx, I.hd, l1.1, l2.1, l3.1, ?_⟩ oo own
  refine List.nodup_append.mpr ⟨s.nd, ?_, fun a ha b hb e => ?_⟩
  · have nd := I.nd
    simp only [List.map_cons, List.map_nil, List.nodup_cons, List.mem_cons, List.mem_nil_iff, or_false, not_or, List.nodup_nil, and_true, not_false_iff] at nd
    simp only [Ly.own, List.nodup_cons, List.mem_cons, List.mem_nil_iff, or_false, not_or, List.nodup_nil, and_true, not_false_iff]
    exact ⟨⟨hne, l1.2.2.2.symm, l2.2.2.2.symm, l3.2.2.2.symm⟩, ⟨l1.2.2.1.symm, l2.2.2.1.symm, l3.2.2.1.symm⟩, ⟨Ne.symm nd.2, Ne.symm nd.1.2⟩, Ne.symm nd.1.1⟩
  · subst e
    have f := own a hb
    simp only [Sy.all, List.mem_cons, List.mem_nil_iff, or_false] at ha
    rcases ha with rfl | rfl | rfl | rfl | rfl | rfl
    · exact f _ rfl s.o
    · exact f _ rfl s.d
    · exact f _ rfl s.tx
    · exact f _ rfl s.an
    · exact f _ rfl s.fs
    · exact f _ rfl s.fn
noncomputable def arL (o c st x r g : Addr) : List (Nat × V) := [(0, .ref o), (11, .ref c), (1, .int 100000), (12, .bool true), (13, .int 4096), (14, .ref st), (15, .ref x), (16, .int 0), (17, .int 0), (18, .int (-1)), (19, .int (-1)), (20, .int (-1)), (21, .str (sx 39)), (22, .int 0), (23, .tup [.int 5, .int 0]), (24, .ref r), (25, .ref g), (26, .bool false)]
/-- the world: areas, store, symbols -/
structure Ar where
  L : Ly
  m : Addr
  md : Addr
  c : Addr
  x : Addr
  r : Addr
  g : Addr
structure ArAt (H : HM) (W : Ar) : Prop where
  m : H W.m = some (.inst 583 W.md)
  md : H W.md = some (.attrs (atL (arL W.L.y.o W.c W.L.st W.x W.r W.g)))
theorem Ini.to (I : Ini H0 H x dx C l ls) {i : Nat} {y : V} {P : HM → Prop} {l' : List (Nat × V)} (e : putN l i y = l') (ho : okA l = true) (hi : Nat.blt i 57 = true) (ht : setaL.contains (C, i) = true) (hl : Nat.ble l.length 400 = true) (q : ∀ H', Ini H0 H' x dx C l' ls → P H') : sA (tab K) (.ref x) (an i) y H P :=
  I.sA0 ho hi ht hl fun H' I' => q H' (e ▸ I')
theorem Ini.re (I : Ini H0 H x dx C l ls) : Ini H H x dx C l [] := ⟨I.hx, I.hd, I.ne, Off.refl _ _, (fun _ q => absurd q List.not_mem_nil), List.nodup_nil⟩
theorem c_reset (Fn : Fns K) {y : Sy} (s : SyAt H y A F) {c m md : Addr} (I : Ini H0 H m md 583 [(0, .ref y.o), (11, .ref c), (1, .int 100000), (12, .bool true), (13, .int 4096)] []) (hy : ∀ a ∈ y.all, a ≠ md)
    (hq : ∀ L H' x r g, L.y = y → H' m = some (.inst 583 md) → H' md = some (.attrs (atL (arL y.o c L.st x r g))) → SyAt H' y A F → StAt H' L [] → Off [md] H H' → (∀ a ∈ L.own, Fresh H a) → Q .none H') : CC prog (tab K) (n + 3) (.ref 447) [.ref m] H Q := by
  refine cc_fn Fn.f_Areas_reset rfl ?_
  unfold s_Areas_reset
  have hx := I.hx
  have hd := I.hd
  walk_at "R"
  refine (c_Store Fn s fun L H7 eL s7 t7 o7 own7 => ?_).x
  subst eL
  have hd0 := I.hd
  replace I := (I.next o7 (by simp)).re
  clear hx hd
  have hown : ∀ a ∈ L.own, a ≠ md := fun a ha e => by
    subst e
    simp only [Ly.own, List.mem_cons, List.mem_nil_iff, or_false] at ha
    have hd := I.hd
    rcases ha with rfl | rfl | rfl | rfl | rfl
    · first | exact (no t7.st hd).elim | exact (no hd t7.st).elim | obtain rfl := so t7.st hd | (rw [t7.st] at hd; cases hd)
    · exact own7 L.sd (by simp [Ly.own]) _ rfl hd0
    · first | exact (no t7.hp hd).elim | exact (no hd t7.hp).elim | obtain rfl := so t7.hp hd | (rw [t7.hp] at hd; cases hd)
    · first | exact (no t7.sk hd).elim | exact (no hd t7.sk).elim | obtain rfl := so t7.sk hd | (rw [t7.sk] at hd; cases hd)
    · first | exact (no t7.tr hd).elim | exact (no hd t7.tr).elim | obtain rfl := so t7.tr hd | (rw [t7.tr] at hd; cases hd)
  walk_at "S"
  refine I.to (l' := [(0, .ref L.y.o), (11, .ref c), (1, .int 100000), (12, .bool true), (13, .int 4096), (14, .ref L.st)]) rfl rfl rfl rfl rfl fun H8 J => ?_
  clear I
  have I := J
  clear J
  walk_at "S"
  refine fun a1 na1 => ?_
  replace I := I.alloc na1 (.list [.tup [.int 5, .int 0]])
  clear na1
  walk_at "S"
  refine I.to (l' := [(0, .ref L.y.o), (11, .ref c), (1, .int 100000), (12, .bool true), (13, .int 4096), (14, .ref L.st), (15, .ref a1)]) rfl rfl rfl rfl rfl fun H9 J => ?_
  clear I
  have I := J
  clear J
  walk_at "S"
  refine I.to (l' := [(0, .ref L.y.o), (11, .ref c), (1, .int 100000), (12, .bool true), (13, .int 4096), (14, .ref L.st), (15, .ref a1), (16, .int 0)]) rfl rfl rfl rfl rfl fun H10 J => ?_
  clear I
  have I := J
  clear J
  walk_at "S"
  refine I.to (l' := [(0, .ref L.y.o), (11, .ref c), (1, .int 100000), (12, .bool true), (13, .int 4096), (14, .ref L.st), (15, .ref a1), (16, .int 0), (17, .int 0)]) rfl rfl rfl rfl rfl fun H11 J => ?_
  clear I
  have I := J
  clear J
  walk_at "S"
  refine ⟨1, rfl, ?_⟩
  walk_at "S"
  refine I.to (l' := [(0, .ref L.y.o), (11, .ref c), (1, .int 100000), (12, .bool true), (13, .int 4096), (14, .ref L.st), (15, .ref a1), (16, .int 0), (17, .int 0), (18, .int (-1))]) rfl rfl rfl rfl rfl fun H12 J => ?_
  clear I
  have I := J
  clear J
  walk_at "S"
  refine ⟨1, rfl, ?_⟩
  walk_at "S"
  refine I.to (l' := [(0, .ref L.y.o), (11, .ref c), (1, .int 100000), (12, .bool true), (13, .int 4096), (14, .ref L.st), (15, .ref a1), (16, .int 0), (17, .int 0), (18, .int (-1)), (19, .int (-1))]) rfl rfl rfl rfl rfl fun H13 J => ?_
  clear I
  have I := J
  clear J
  walk_at "S"
  refine ⟨1, rfl, ?_⟩
  walk_at "S"
  refine I.to (l' := [(0, .ref L.y.o), (11, .ref c), (1, .int 100000), (12, .bool true), (13, .int 4096), (14, .ref L.st), (15, .ref a1), (16, .int 0), (17, .int 0), (18, .int (-1)), (19, .int (-1)), (20, .int (-1))]) rfl rfl rfl rfl rfl fun H14 J => ?_
  clear I
  have I := J
  clear J
  walk_at "S"
  refine I.to (l' := [(0, .ref L.y.o), (11, .ref c), (1, .int 100000), (12, .bool true), (13, .int 4096), (14, .ref L.st), (15, .ref a1), (16, .int 0), (17, .int 0), (18, .int (-1)), (19, .int (-1)), (20, .int (-1)), (21, .str (sx 39))]) rfl rfl rfl rfl rfl fun H15 J => ?_
  clear I
  have I := J
  clear J
  walk_at "S"
  refine I.to (l' := [(0, .ref L.y.o), (11, .ref c), (1, .int 100000), (12, .bool true), (13, .int 4096), (14, .ref L.st), (15, .ref a1), (16, .int 0), (17, .int 0), (18, .int (-1)), (19, .int (-1)), (20, .int (-1)), (21, .str (sx 39)), (22, .int 0)]) rfl rfl rfl rfl rfl fun H16 J => ?_
  clear I
  have I := J
  clear J
  walk_at "S"
  refine I.to (l' := [(0, .ref L.y.o), (11, .ref c), (1, .int 100000), (12, .bool true), (13, .int 4096), (14, .ref L.st), (15, .ref a1), (16, .int 0), (17, .int 0), (18, .int (-1)), (19, .int (-1)), (20, .int (-1)), (21, .str (sx 39)), (22, .int 0), (23, .tup [.int 5, .int 0])]) rfl rfl rfl rfl rfl fun H17 J => ?_
  clear I
  have I := J
  clear J
  walk_at "S"
  refine fun a2 na2 => ?_
  replace I := I.alloc na2 (.list [])
  clear na2
  walk_at "S"
  refine I.to (l' := [(0, .ref L.y.o), (11, .ref c), (1, .int 100000), (12, .bool true), (13, .int 4096), (14, .ref L.st), (15, .ref a1), (16, .int 0), (17, .int 0), (18, .int (-1)), (19, .int (-1)), (20, .int (-1)), (21, .str (sx 39)), (22, .int 0), (23, .tup [.int 5, .int 0]), (24, .ref a2)]) rfl rfl rfl rfl rfl fun H18 J => ?_
  clear I
  have I := J
  clear J
  walk_at "S"
  refine fun a3 na3 => ?_
  replace I := I.alloc na3 (.dictI [])
  clear na3
  walk_at "S"
  refine I.to (l' := [(0, .ref L.y.o), (11, .ref c), (1, .int 100000), (12, .bool true), (13, .int 4096), (14, .ref L.st), (15, .ref a1), (16, .int 0), (17, .int 0), (18, .int (-1)), (19, .int (-1)), (20, .int (-1)), (21, .str (sx 39)), (22, .int 0), (23, .tup [.int 5, .int 0]), (24, .ref a2), (25, .ref a3)]) rfl rfl rfl rfl rfl fun H19 J => ?_
  clear I
  have I := J
  clear J
  walk_at "S"
  refine I.to (l' := [(0, .ref L.y.o), (11, .ref c), (1, .int 100000), (12, .bool true), (13, .int 4096), (14, .ref L.st), (15, .ref a1), (16, .int 0), (17, .int 0), (18, .int (-1)), (19, .int (-1)), (20, .int (-1)), (21, .str (sx 39)), (22, .int 0), (23, .tup [.int 5, .int 0]), (24, .ref a2), (25, .ref a3), (26, .bool false)]) rfl rfl rfl rfl rfl fun H20 J => ?_
  clear I
  have I := J
  clear J
  walk_at "S"
  exact hq L _ a1 a2 a3 rfl I.hx I.hd (s7.off I.off fun a ha q => hy a ha (List.mem_singleton.mp q)) (t7.off I.off fun a ha q => hown a ha (List.mem_singleton.mp q)) ((o7.sub (by simp)).trans I.off) own7
theorem c_Areas (Fn : Fns K) {y : Sy} (s : SyAt H y A F) {c : Addr} (hq : ∀ W H', W.L.y = y → ArAt H' W → SyAt H' y A F → StAt H' W.L [] → Off [] H H' → (∀ a ∈ [W.m, W.md] ++ W.L.own, Fresh H a) → Q (.ref W.m) H') : CC prog (tab K) (n + 5) (.ref 583) [.ref y.o, .ref c] H Q := by
  refine cc_make (fI := 440) rfl fun x dx h1 h2 hne => ?_
  have I := Ini.start (C := 583) h1 h2 hne
  have o0 : Off [] H (upd (upd H dx (.attrs (atL []))) x (.inst 583 dx)) := (Off.nw _ h2).trans (Off.nw _ (by rw [upd_ne hne]; exact h1))
  rw [show (M.attrs []) = .attrs (atL []) from rfl]
  generalize upd (upd H dx (.attrs (atL []))) x (.inst 583 dx) = H1 at *
  refine cc_fnD Fn.f_Areas_init (dargs := [.int 100000, .bool true, .int 4096]) Fn.d rfl ?_
  unfold s_Areas_init
  walk_at "S"
  refine I.to (l' := [(0, .ref y.o)]) rfl rfl rfl rfl rfl fun H2 J => ?_
  clear I
  have I := J
  clear J
  walk_at "S"
  refine I.to (l' := [(0, .ref y.o), (11, .ref c)]) rfl rfl rfl rfl rfl fun H3 J => ?_
  clear I
  have I := J
  clear J
  walk_at "S"
  refine I.to (l' := [(0, .ref y.o), (11, .ref c), (1, .int 100000)]) rfl rfl rfl rfl rfl fun H4 J => ?_
  clear I
  have I := J
  clear J
  walk_at "S"
  refine I.to (l' := [(0, .ref y.o), (11, .ref c), (1, .int 100000), (12, .bool true)]) rfl rfl rfl rfl rfl fun H5 J => ?_
  clear I
  have I := J
  clear J
  walk_at "S"
  refine I.to (l' := [(0, .ref y.o), (11, .ref c), (1, .int 100000), (12, .bool true), (13, .int 4096)]) rfl rfl rfl rfl rfl fun H6 J => ?_
  clear I
  have I := J
  clear J
  have hx := I.hx
  have hd := I.hd
  walk_at "R"
  have oo : Off [] H H6 := o0.chain I.off fun a ha => .inr (by rw [List.mem_singleton.mp ha]; exact .of h2)
  have s6 : SyAt H6 y A F := s.off oo fun _ _ => by simp
  have fdx : ∀ a ∈ y.all, a ≠ dx := fun a ha e => by
    subst e
    simp only [Sy.all, List.mem_cons, List.mem_nil_iff, or_false] at ha
    rcases ha with rfl | rfl | rfl | rfl | rfl | rfl
    · first | exact (no s.o h2).elim | exact (no h2 s.o).elim | obtain rfl := so s.o h2 | (rw [s.o] at h2; cases h2)
    · first | exact (no s.d h2).elim | exact (no h2 s.d).elim | obtain rfl := so s.d h2 | (rw [s.d] at h2; cases h2)
    · first | exact (no s.tx h2).elim | exact (no h2 s.tx).elim | obtain rfl := so s.tx h2 | (rw [s.tx] at h2; cases h2)
    · first | exact (no s.an h2).elim | exact (no h2 s.an).elim | obtain rfl := so s.an h2 | (rw [s.an] at h2; cases h2)
    · first | exact (no s.fs h2).elim | exact (no h2 s.fs).elim | obtain rfl := so s.fs h2 | (rw [s.fs] at h2; cases h2)
    · first | exact (no s.fn h2).elim | exact (no h2 s.fn).elim | obtain rfl := so s.fn h2 | (rw [s.fn] at h2; cases h2)
  refine (c_reset Fn s6 I fdx fun L H7 x7 r7 g7 eL hm hmd s7 t7 o7 own7 => ?_).x
  walk_at "S"
  refine ⟨rfl, hq ⟨L, x, dx, c, x7, r7, g7⟩ H7 eL ⟨hm, by rw [eL]; exact hmd⟩ s7 t7 (oo.chain o7 fun a ha => .inr (by rw [List.mem_singleton.mp ha]; exact .of h2)) fun a ha => ?_⟩
  rcases List.mem_append.mp ha with ha | ha
  · simp only [List.mem_cons, List.mem_nil_iff, or_false] at ha
    rcases ha with rfl | rfl
    · exact .of h1
    · exact .of h2
  · exact (own7 a ha).back oo (by simp)
theorem c_take (Fn : Fns K) {W : Ar} (w : ArAt H W) (t : StAt H W.L h) (hb : h.length ≤ 100000) (s : SyAt H W.L.y A F) (ok : SyOk A F) {tr : Nat} (hd : Hd h tr) {T0 : Tm} (hT : tsz T0 ≤ 1000) {b' : Nat} {c' : Cl} (x : LaidAt h F T0 b' c')
    (hq : ∀ H', StAt H' W.L h → SyAt H' W.L.y A F → Off [] H H' → Q (tmV (fol tr T0)) H') : CC prog (tab K) (n + 5) (.ref 482) [.ref W.m, clV c'] H Q := by
  refine cc_fn Fn.f_Areas_take rfl ?_
  unfold s_Areas_take
  have wm := w.m
  have wd := w.md
  have to := t.st
  have td := t.sd
  walk_at "R"
  refine fun d hd' => ?_
  walk_at "R"
  have o0 : Off [] H (upd H d (.dictI [])) := Off.nw _ hd'
  refine (c_take_term Fn (t.off o0 fun _ _ => by simp) hb (s.off o0 fun _ _ => by simp) ok hd hT x (upd_self _ _ _) fun H' t' s' o' => ?_).x
  walk_at "S"
  exact hq H' t' s' (o0.chain o' fun a ha => .inr (by rw [List.mem_singleton.mp ha]; exact .of hd'))
end

set_option maxHeartbeats 1000000

/-- the world: areas, store and symbols -/
structure St (H : HM) (W : Ar) (A : List Str) (F : List FR) (h : List Cl) : Prop where
  ar : ArAt H W
  sy : SyAt H W.L.y A F
  ok : SyOk A F
  st : StAt H W.L h
  len : h.length ≤ 50000
noncomputable def Ar.all (W : Ar) : List Addr := [W.m, W.md] ++ W.L.y.all ++ W.L.own
theorem ArAt.ne {H : HM} {W : Ar} {A : List Str} {F : List FR} (w : ArAt H W) (s : SyAt H W.L.y A F) : W.m ∉ W.L.y.mut ∧ W.md ∉ W.L.y.mut := by
  have key : ∀ x, x ∈ W.L.y.mut → (∃ l, H x = some (.list l)) ∨ (∃ l, H x = some (.dictS l)) ∨ (∃ l, H x = some (.dictP l)) := fun x hx => by
    simp only [Sy.mut, List.mem_cons, List.mem_nil_iff, or_false] at hx
    rcases hx with rfl | rfl | rfl | rfl
    · exact .inl ⟨_, s.tx⟩
    · exact .inr (.inl ⟨_, s.an⟩)
    · exact .inl ⟨_, s.fs⟩
    · exact .inr (.inr ⟨_, s.fn⟩)
  constructor
  · intro q; rcases key _ q with ⟨l, e⟩ | ⟨l, e⟩ | ⟨l, e⟩ <;> (first | exact (no w.m e).elim | exact (no e w.m).elim | obtain rfl := so w.m e | (rw [w.m] at e; cases e))
  · intro q; rcases key _ q with ⟨l, e⟩ | ⟨l, e⟩ | ⟨l, e⟩ <;> (first | exact (no w.md e).elim | exact (no e w.md).elim | obtain rfl := so w.md e | (rw [w.md] at e; cases e))
theorem ArAt.off {H H' : HM} {W : Ar} {l : List Addr} (w : ArAt H W) (o : Off l H H') (h1 : W.m ∉ l) (h2 : W.md ∉ l) : ArAt H' W := ⟨o _ _ rfl h1 w.m, o _ _ rfl h2 w.md⟩
section
variable {prog : Program} {K : Frag} {H H' H0 : HM} {Q : QV} {n : Nat} {W : Ar} {h : List Cl} {A A' : List Str} {F F' : List FR} {tr : Nat}
theorem St.off0 (w : St H W A F h) (o : Off [] H H') : St H' W A F h := ⟨w.ar.off o (by simp) (by simp), w.sy.off o fun _ _ => by simp, w.ok, w.st.off o fun _ _ => by simp, w.len⟩
theorem St.offL (w : St H W A F h) {l : List Addr} (o : Off l H H') (hl : ∀ a ∈ W.all, a ∉ l) : St H' W A F h :=
  ⟨w.ar.off o (hl _ (by simp [Ar.all])) (hl _ (by simp [Ar.all])), w.sy.off o fun a ha => hl a (by simp [Ar.all, ha]), w.ok, w.st.off o fun a ha => hl a (by simp [Ar.all, ha]), w.len⟩
theorem St.offM (w : St H W A F h) (o : Off W.L.y.mut H H') (s : SyAt H' W.L.y A' F') (ok : SyOk A' F') : St H' W A' F' h :=
  ⟨w.ar.off o (w.ar.ne w.sy).1 (w.ar.ne w.sy).2, s, ok, w.st.offM o, w.len⟩
/-- what holds at a raise -/
structure XD (H0 H' : HM) (W : Ar) (A : List Str) (F : List FR) (h : List Cl) (e : Addr) (t : Tm) (A' : List Str) (F' : List FR) : Prop where
  er : ErrAt H0 H' e (tmV (ballT t))
  st : St H' W A' F' h
  a : A <+: A'
  f : F <+: F'
  off : Off W.L.y.mut H0 H'
noncomputable def XW (H0 : HM) (W : Ar) (A : List Str) (F : List FR) (h : List Cl) (B : List Str → List FR → Tm → Prop) (e : Addr) (H' : HM) : Prop := ∃ t A' F', XD H0 H' W A F h e t A' F' ∧ B A' F' t
theorem nt_tb {m : M} (h : m.nt = true) : ∀ fl, m ≠ .tb fl := fun fl e => by subst e; cases h
theorem step_off {e : Addr} {H H' : HM} (s : ExcStep e H H') (hf : ∃ C d tb, H e = some (.exc C d tb)) : ∀ b m, m.nt = true → (∀ C d tb, m ≠ .exc C d tb) → H b = some m → H' b = some m := fun b m hm hx hb => by
  refine s b m ?_ (nt_tb hm) hb
  rintro rfl
  obtain ⟨C, d, tb, z⟩ := hf
  rw [hb] at z
  exact hx _ _ _ (Option.some.inj z)
theorem XW.stable {B : List Str → List FR → Tm → Prop} : Stable (XW H0 W A F h B) := fun e H H' C d tb tb' s he he' x => by
  obtain ⟨t, A', F', x, hB⟩ := x
  have k := step_off s ⟨_, _, _, he⟩
  obtain ⟨d1, tb1, q1, q2, q3⟩ := x.er.at_
  rw [he] at q1
  have q1' := Option.some.inj q1
  simp only [M.exc.injEq] at q1'
  obtain ⟨rfl, rfl, _⟩ := q1'
  refine ⟨t, A', F', ⟨⟨⟨d1, tb', he', k _ _ rfl (fun _ _ _ z => by cases z) q2, q3⟩, x.er.fr⟩, ⟨⟨k _ _ rfl (fun _ _ _ z => by cases z) x.st.ar.m, k _ _ rfl (fun _ _ _ z => by cases z) x.st.ar.md⟩, ?_, x.st.ok, ?_, x.st.len⟩, x.a, x.f, fun b m hm hb e1 => ?_⟩, hB⟩
  · have s := x.st.sy
    exact ⟨k _ _ rfl (fun _ _ _ z => by cases z) s.o, k _ _ rfl (fun _ _ _ z => by cases z) s.d, k _ _ rfl (fun _ _ _ z => by cases z) s.tx, k _ _ rfl (fun _ _ _ z => by cases z) s.an, k _ _ rfl (fun _ _ _ z => by cases z) s.fs, k _ _ rfl (fun _ _ _ z => by cases z) s.fn, s.nd⟩
  · have s := x.st.st
    exact ⟨k _ _ rfl (fun _ _ _ z => by cases z) s.st, k _ _ rfl (fun _ _ _ z => by cases z) s.sd, k _ _ rfl (fun _ _ _ z => by cases z) s.hp, k _ _ rfl (fun _ _ _ z => by cases z) s.sk, k _ _ rfl (fun _ _ _ z => by cases z) s.tr, s.nd⟩
  · have e2 := x.off b m hm hb e1
    refine s b m ?_ (nt_tb hm) e2
    rintro rfl
    exact x.er.fr m hm e1
theorem ErrAt.back {H1 H2 : HM} {e : Addr} {b : V} (o : Off [] H0 H1) (x : ErrAt H1 H2 e b) : ErrAt H0 H2 e b := by
  obtain ⟨⟨d, tb, e1, e2, e3⟩, e4⟩ := x
  exact ⟨⟨d, tb, e1, e2, e3.back o (by simp)⟩, e4.back o (by simp)⟩
/-- raise instantiation_error(..) -/
theorem x_inst (Fn : Fns K) (hM : ExcMk K 51 48) {H1 : HM} (w : St H1 W A F h) (o : Off [] H0 H1) {B : List Str → List FR → Tm → Prop} (hB : ∀ A' F' k, A <+: A' → F <+: F' → SyOk A' F' → A'[k]? = some (sx 31) → B A' F' (.a k)) :
    CWX prog (tab K) (n + 4) (XW H0 W A F h B) (.ref 179) [.ref W.L.y.o] H1 fun x H2 => ∃ a d, x = .ref a ∧ H2 a = some (.exc (tab K).exc d none) ∧ XW H0 W A F h B a H2 :=
  (c_inst Fn hM w.sy w.ok fun e H2 A2 k p2 s2 ok2 o2 hk he er => by
    obtain ⟨d, hd⟩ := he
    exact ⟨e, _, rfl, hd, .a k, A2, F, ⟨er.back o, w.offM o2 s2 ok2, p2, List.prefix_refl _, (o.sub (by simp)).trans o2⟩, hB _ _ _ p2 (List.prefix_refl _) ok2 hk⟩).x
theorem x_type (Fn : Fns K) (hM : ExcMk K 51 48) {H1 : HM} (w : St H1 W A F h) (o : Off [] H0 H1) {t : Tm} {kd : Str} (hk : kd ∈ sxl) {B : List Str → List FR → Tm → Prop} (hB : ∀ A' F' kf kc, A <+: A' → F <+: F' → SyOk A' F' → IsF A' F' kf (sx 32) 2 → A'[kc]? = some kd → B A' F' (.s kf [.a kc, t])) :
    CWX prog (tab K) (n + 4) (XW H0 W A F h B) (.ref 186) [.ref W.L.y.o, .str kd, tmV t] H1 fun x H2 => ∃ a d, x = .ref a ∧ H2 a = some (.exc (tab K).exc d none) ∧ XW H0 W A F h B a H2 :=
  (c_type_error Fn hM w.sy w.ok hk fun e H2 A2 F2 kf kc p2 f2 s2 ok2 o2 h1 h2 he er => by
    obtain ⟨d, hd⟩ := he
    exact ⟨e, _, rfl, hd, _, A2, F2, ⟨er.back o, w.offM o2 s2 ok2, p2, f2, (o.sub (by simp)).trans o2⟩, hB _ _ _ _ p2 f2 ok2 h1 h2⟩).x
theorem x_dom (Fn : Fns K) (hM : ExcMk K 51 48) {H1 : HM} (w : St H1 W A F h) (o : Off [] H0 H1) {t : Tm} {kd : Str} (hk : kd ∈ sxl) {B : List Str → List FR → Tm → Prop} (hB : ∀ A' F' kf kc, A <+: A' → F <+: F' → SyOk A' F' → IsF A' F' kf (sx 33) 2 → A'[kc]? = some kd → B A' F' (.s kf [.a kc, t])) :
    CWX prog (tab K) (n + 4) (XW H0 W A F h B) (.ref 193) [.ref W.L.y.o, .str kd, tmV t] H1 fun x H2 => ∃ a d, x = .ref a ∧ H2 a = some (.exc (tab K).exc d none) ∧ XW H0 W A F h B a H2 :=
  (c_domain_error Fn hM w.sy w.ok hk fun e H2 A2 F2 kf kc p2 f2 s2 ok2 o2 h1 h2 he er => by
    obtain ⟨d, hd⟩ := he
    exact ⟨e, _, rfl, hd, _, A2, F2, ⟨er.back o, w.offM o2 s2 ok2, p2, f2, (o.sub (by simp)).trans o2⟩, hB _ _ _ _ p2 f2 ok2 h1 h2⟩).x
/-- a followed cell: free, an atom, or else -/
theorem dr_free {t : Tm} {b : Nat} {c : Cl} (x : LaidAt h F t b c) : ((drC tr c).1 ≠ 0 ∧ (drC tr c).1 ≠ 1 ∧ fol tr t ≠ .v 0) ∨ (drC tr c = (0, 0) ∧ fol tr t = .v 0) := by
  cases t with
  | v k =>
    obtain ⟨rfl, hk⟩ := x
    by_cases e : k = 1
    · subst e; exact .inl ⟨by unfold drC; simp, by unfold drC; simp, by simp [fol]⟩
    · exact .inr ⟨by unfold drC; simp [e], by simp [fol, e]⟩
  | a k => have e : c = (4, k) := x; subst e; exact .inl ⟨by unfold drC; simp, by unfold drC; simp, by simp [fol]⟩
  | i k => have e : c = (5, k) := x; subst e; exact .inl ⟨by unfold drC; simp, by unfold drC; simp, by simp [fol]⟩
  | s f l =>
    have q := comp_yes (tr := tr) x trivial
    rw [q.1]
    have := of_decide_eq_true q.2
    exact .inl ⟨by (first | lia | omega), by (first | lia | omega), by simp [fol]⟩
theorem dr_atom {t : Tm} {b k : Nat} {c : Cl} (x : LaidAt h F t b c) : drC tr c = (4, k) ↔ fol tr t = .a k := by
  cases t with
  | v j =>
    obtain ⟨rfl, hj⟩ := x
    by_cases e : j = 1
    · subst e; simp [drC, fol]
    · simp [drC, fol, e]
  | a j => have e : c = (4, j) := x; subst e; simp [drC, fol]
  | i j => have e : c = (5, j) := x; subst e; simp [drC, fol]
  | s f l =>
    have q := comp_yes (tr := tr) x trivial
    rw [q.1]
    have := of_decide_eq_true q.2
    constructor
    · intro e; rw [e] at this; simp at this
    · intro e; simp [fol] at e
theorem unb (Fn : Fns K) (t : StAt H W.L h) (hd : Hd h tr) {tm : Tm} {b : Nat} {c : Cl} (x : LaidAt h F tm b c) (h1 : fol tr tm = .v 0 → drC tr c = (0, 0) → Q (.bool true) H) (h2 : fol tr tm ≠ .v 0 → Q (.bool false) H) : CC prog (tab K) (n + 1) (.ref 258) [.ref W.L.st, clV (drC tr c)] H Q := by
  rcases dr_free (tr := tr) x with q | q
  · refine c_is_unbound Fn t hd (.inl ⟨q.1, q.2.1⟩) ?_
    rw [decide_eq_false (fun e => q.1 (by rw [e]))]
    exact h2 q.2.2
  · refine c_is_unbound Fn t hd (.inr q.1) ?_
    rw [decide_eq_true q.1]
    exact h1 q.2 q.1
end

set_option maxHeartbeats 1000000

section
variable {prog : Program} {K : Frag} {H H0 : HM} {Q : QV} {n : Nat} {W : Ar} {h : List Cl} {A : List Str} {F : List FR} {tr : Nat}
theorem dec_t {p : Prop} {i : Decidable p} (h : @decide p i = true) : p := of_decide_eq_true h
theorem dec_f {p : Prop} {i : Decidable p} (h : @decide p i = false) : ¬ p := of_decide_eq_false h
/-- the error of a row of cells -/
noncomputable def RowErr (tr : Nat) (els : List Tm) (en : Tm) (A : List Str) (F : List FR) (t : Tm) : Prop :=
  (fol tr en = .v 0 ∧ ∃ k, A[k]? = some (sx 31) ∧ t = .a k) ∨
  (fol tr en ≠ .v 0 ∧ fol tr en ≠ .a 0 ∧ ∃ kf kc, IsF A F kf (sx 32) 2 ∧ A[kc]? = some (sx 38) ∧ t = .s kf [.a kc, fol tr (lst en els)]) ∨
  (fol tr en = .a 0 ∧ (∃ e ∈ els, fol tr e = .v 0) ∧ ∃ k, A[k]? = some (sx 31) ∧ t = .a k)
theorem c_option_cells (Fn : Fns K) (hM : ExcMk K 51 48) (w : St H W A F h) (hd : Hd h tr) {els : List Tm} {en : Tm} (hen : ¬ isS en) (hl : els.length ≤ 1000) (hT : tsz (lst en els) ≤ 1000) {b : Nat} {c : Cl} (x : LaidAt h F (lst en els) b c)
    (hq : fol tr en = .a 0 → (∀ e ∈ els, fol tr e ≠ .v 0) → ∀ D H' cs, Els h F els cs → Fresh H D → H' D = some (.list (cs.map fun c => clV (drC tr c))) → Off [] H H' → Q (.ref D) H') :
    CCX prog (tab K) (n + 6) (.ref 411) [.ref W.m, clV c] H Q (XW H W A F h (RowErr tr els en)) := by
  refine ccx_fn Fn.f_option_cells rfl XW.stable ?_
  unfold s_option_cells
  have wm := w.ar.m
  have wd := w.ar.md
  have to := w.st.st
  have td := w.st.sd
  walk_at "R"
  refine (c_list_cells Fn w.st hd hen hl x fun D H1 cs ct hE ⟨b', hct⟩ fD hD o1 => ?_).x
  have w1 := w.off0 o1
  clear wm wd to td
  have wm := w1.ar.m
  have wd := w1.ar.md
  have to := w1.st.st
  have td := w1.st.sd
  walk_at "R"
  refine ⟨_, _, rfl, ?_⟩
  walk_at "R"
  refine (unb Fn w1.st hd hct (fun e1 e2 => ?_) fun e1 => ?_).x
  · refine ex1 (b_t ?_)
    walk_at "R"
    exact x_inst Fn hM w1 o1 fun A' F' k _ _ _ hk => .inl ⟨e1, k, hk, rfl⟩
  refine ex1 (b_f ?_)
  walk_at "R"
  refine (e_if (y := clV (4, 0)) (clV_plain _) (clV_plain _) (fun e => ?_) fun e => ?_)
  · refine b_nt ?_
    have e2 : fol tr en = .a 0 := (dr_atom hct).mp (clV_inj.mp e)
    walk_at "R"
    refine SeqSrc.list hD ⟨fun i lo H' => H' = H1 ∧ lo 0 = some (.ref W.m) ∧ lo 3 = some (.ref D) ∧ ∀ e ∈ els.take i, fol tr e ≠ .v 0, ⟨rfl, rfl, rfl, fun _ q => by simp at q⟩, fun _ _ _ J => by rw [J.1]; exact hD, fun i y lo H' J hy => ?_, fun lo H' J => ?_⟩
    · obtain ⟨e3, l0, l3, hj⟩ := J
      subst e3
      rw [List.getElem?_map] at hy
      obtain ⟨ci, hci, rfl⟩ := Option.map_eq_some_iff.mp hy
      obtain ⟨ei, hei⟩ : ∃ ei, els[i]? = some ei := ⟨_, List.getElem?_eq_getElem (hE.len ▸ len_lt hci)⟩
      obtain ⟨c2, b2, h2, x2⟩ := hE.get hei
      rw [hci] at h2
      cases h2
      walk_at "R"
      refine (unb Fn w1.st hd x2 (fun e1 e2 => ?_) fun e1 => ?_).x
      · refine ex1 (b_t ?_)
        walk_at "R"
        exact x_inst Fn hM w1 o1 fun A' F' k _ _ _ hk => .inr (.inr ⟨‹fol tr en = .a 0›, ⟨ei, List.mem_of_getElem? hei, e1⟩, k, hk, rfl⟩)
      · refine ex1 (b_f ?_)
        walk_at "R"
        refine ⟨rfl, l0, l3, fun e he => ?_⟩
        rw [List.take_succ, hei] at he
        rcases List.mem_append.mp he with he | he
        · exact hj e he
        · rw [List.mem_singleton.mp he]; exact e1
    · obtain ⟨e3, l0, l3, hj⟩ := J
      subst e3
      rw [List.length_map, hE.len, List.take_length] at hj
      walk_at "R"
      exact hq e2 hj D H' cs hE fD hD o1
  · refine b_nf ?_
    walk_at "R"
    refine (c_take Fn w1.ar w1.st (Nat.le_trans w1.len (by decide)) w1.sy w1.ok hd hT x fun H2 t2 s2 o2 => ?_).x
    walk_at "R"
    refine (x_type (kd := sx 38) Fn hM ((w1.off0 o2)) (o1.trans o2) (sx_mem (by decide)) fun A' F' kf kc _ _ _ h1 h2 => .inr (.inl ⟨e1, fun q => e (by rw [(dr_atom hct).mpr q]), kf, kc, h1, h2, rfl⟩))
/-- the error of a kind of options -/
noncomputable def DomErr (tr : Nat) (kd : Str) (t : Tm) (A : List Str) (F : List FR) (u : Tm) : Prop := ∃ kf kc, IsF A F kf (sx 33) 2 ∧ A[kc]? = some kd ∧ u = .s kf [.a kc, fol tr t]
theorem c_option_parts (Fn : Fns K) (hM : ExcMk K 51 48) (w : St H W A F h) (hd : Hd h tr) {kd : Str} (hk : kd ∈ sxl) {t : Tm} (hT : tsz t ≤ 1000) {b : Nat} {c : Cl} (x : LaidAt h F t b c) (hF : ∀ p ∈ F, p.1 < A.length)
    (hq : ∀ f u a s cu b', t = .s f [u] → F[f]? = some (a, 1) → A[a]? = some s → LaidAt h F u b' cu → Q (.tup [.str s, clV (drC tr cu)]) H) :
    CCX prog (tab K) (n + 6) (.ref 418) [.ref W.m, clV c, .str kd] H Q (XW H W A F h fun A F u => (¬ ∃ f v, t = .s f [v]) ∧ DomErr tr kd t A F u) := by
  refine ccx_fn Fn.f_option_parts rfl XW.stable ?_
  unfold s_option_parts
  have wm := w.ar.m
  have wd := w.ar.md
  have to := w.st.st
  have td := w.st.sd
  have so := w.sy.o
  have sd := w.sy.d
  have fail : ∀ lo, lo 0 = some (.ref W.m) → lo 1 = some (clV c) → lo 2 = some (.str kd) → lo 3 = some (.ref W.L.y.o) → (¬ ∃ f v, t = .s f [v]) → ∀ P : QS,
      wpSs prog (tab K) (n + 5) (XW H W A F h fun A F u => (¬ ∃ f v, t = .s f [v]) ∧ DomErr tr kd t A F u) (.cons (.raise (.call 193 (.cons (.var 3) (.cons (.var 2) (.cons (.meth (.var 0) 52 (.cons (.var 1) .nil)) .nil))))) .nil) lo H P := fun lo l0 l1 l2 l3 hno P => by
    walk_at "R"
    refine (c_take Fn w.ar w.st (Nat.le_trans w.len (by decide)) w.sy w.ok hd hT x fun H2 t2 s2 o2 => ?_).x
    walk_at "R"
    exact x_dom Fn hM (w.off0 o2) o2 hk fun A' F' kf kc _ _ _ h1 h2 => ⟨hno, kf, kc, h1, h2, rfl⟩
  walk_at "R"
  refine sbI (by decide) (by decide) rfl ?_
  walk_at "R"
  refine e_int (fun e0 => b_t ?_) fun e0 => b_f ?_
  · have e2 : c.1 = 2 := by (first | lia | omega)
    obtain ⟨f, l, rfl⟩ : ∃ f l, t = .s f l := by
      cases t with
      | s f l => exact ⟨f, l, rfl⟩
      | _ => rcases x.tags with q | q | q | q <;> simp_all [isS]
    have hw := x.2.2.1.resolve_left fun q => by (first | lia | omega)
    obtain ⟨a, ha⟩ := x.2.1
    have hf := w.ok.flt ha
    walk_at "R"
    refine (c_functor_of Fn w.st (laid_fn x) x.2.2.2.1 ?_).x
    walk_at "R"
    refine (c_arity Fn w.sy ha hf ?_).x
    walk_at "R"
    refine e_int (fun e1 => b_t ?_) fun e1 => b_f ?_
    · have e3 : l.length = 1 := by (first | lia | omega)
      obtain ⟨u, rfl⟩ : ∃ u, l = [u] := by
        match l, e3 with
        | [u], _ => exact ⟨u, rfl⟩
      walk_at "R"
      refine (c_name Fn w.sy ha hf ?_).x
      have hlt := hF _ (List.mem_of_getElem? ha)
      walk_at "R"
      have hA := w.ok.alen
      refine (c_text Fn w.sy (List.getElem?_eq_getElem hlt) (Nat.lt_of_lt_of_le hlt (Nat.le_trans hA (by decide))) ?_).x
      obtain ⟨⟨cu, hcu, xu⟩, _⟩ := x.2.2.2.2
      walk_at "R"
      refine (c_arg Fn w.st hcu (Nat.lt_of_lt_of_le (len_lt hcu) (Nat.le_trans w.len (by decide))) ?_).x
      walk_at "R"
      refine (c_deref Fn w.st hd xu.ok ?_).x
      walk_at "R"
      walk_at "R"
      exact hq f u a _ cu _ rfl ha (List.getElem?_eq_getElem hlt) xu
    · refine w_nil (q_next (w_nil (q_next (fail _ ?_ ?_ ?_ ?_ ?_ _))))
      · rfl
      · rfl
      · rfl
      · rfl
      · rintro ⟨g, v, q⟩
        simp only [Tm.s.injEq] at q
        exact e1 (by rw [q.2]; rfl)
  · refine w_nil (q_next (fail _ ?_ ?_ ?_ ?_ ?_ _))
    · rfl
    · rfl
    · rfl
    · rfl
    · rintro ⟨g, v, rfl⟩
      rcases x.2.2.1 with q | q
      · simp at q
      · exact e0 (by rw [q.2.1]; rfl)
/-- the error at an option's word -/
noncomputable def WordErr (tr : Nat) (kd : Str) (t u : Tm) (ws : List Str) (A0 : List Str) (A : List Str) (F : List FR) (v : Tm) : Prop :=
  (fol tr u = .v 0 ∧ ∃ k, A[k]? = some (sx 31) ∧ v = .a k) ∨
  (fol tr u ≠ .v 0 ∧ (∀ k s, fol tr u = .a k → A0[k]? = some s → s ∉ ws) ∧ DomErr tr kd t A F v)
theorem c_option_value (Fn : Fns K) (hM : ExcMk K 51 48) (w : St H W A F h) (hd : Hd h tr) {kd : Str} (hk : kd ∈ sxl) {t : Tm} (hT : tsz t ≤ 1000) {b : Nat} {c : Cl} (x : LaidAt h F t b c) {u : Tm} {b' : Nat} {cu : Cl} (xu : LaidAt h F u b' cu) (hA : ∀ k, fol tr u = .a k → k < A.length) {ws : List Str} (hws : ∀ s ∈ ws, s ∈ sxl)
    (hq : ∀ k s, fol tr u = .a k → A[k]? = some s → s ∈ ws → Q (.str s) H) :
    CCX prog (tab K) (n + 6) (.ref 425) [.ref W.m, clV c, clV (drC tr cu), .str kd, .tup (ws.map .str)] H Q (XW H W A F h (WordErr tr kd t u ws A)) := by
  refine ccx_fn Fn.f_option_value rfl XW.stable ?_
  unfold s_option_value
  have wm := w.ar.m
  have wd := w.ar.md
  have to := w.st.st
  have td := w.st.sd
  have so := w.sy.o
  have sd := w.sy.d
  have sok : ∀ s, s ∈ sxl → PyData.strOk s = true := fun s hs => by
    obtain ⟨i, hi, rfl⟩ := List.mem_iff_getElem.mp hs
    have := sx_ok i (by rw [← sxl_len]; exact hi)
    rwa [show sx i = sxl[i] by unfold sx; rw [List.getD_eq_getElem?_getD, List.getElem?_eq_getElem hi]; rfl] at this
  have fail : ∀ lo, lo 0 = some (.ref W.m) → lo 1 = some (clV c) → lo 3 = some (.str kd) → fol tr u ≠ .v 0 → (∀ k s, fol tr u = .a k → A[k]? = some s → s ∉ ws) → ∀ P : QS,
      wpSs prog (tab K) (n + 5) (XW H W A F h (WordErr tr kd t u ws A)) (.cons (.raise (.call 193 (.cons (.attr (.var 0) 0) (.cons (.var 3) (.cons (.meth (.var 0) 52 (.cons (.var 1) .nil)) .nil))))) .nil) lo H P := fun lo l0 l1 l3 h1 h2 P => by
    walk_at "R"
    refine (c_take Fn w.ar w.st (Nat.le_trans w.len (by decide)) w.sy w.ok hd hT x fun H2 t2 s2 o2 => ?_).x
    walk_at "R"
    exact x_dom Fn hM (w.off0 o2) o2 hk fun A' F' kf kc _ _ _ g1 g2 => .inr ⟨h1, h2, kf, kc, g1, g2, rfl⟩
  walk_at "R"
  refine (unb Fn w.st hd xu (fun e1 e2 => ?_) fun e1 => ?_).x
  · refine ex1 (b_t ?_)
    walk_at "R"
    exact x_inst Fn hM w (Off.refl _ _) fun A' F' k _ _ _ hk => .inl ⟨e1, k, hk, rfl⟩
  refine ex1 (b_f ?_)
  walk_at "R"
  refine sbI (by decide) (by decide) rfl ?_
  walk_at "R"
  refine e_int (fun e0 => b_t ?_) fun e0 => b_f ?_
  · obtain ⟨k, hk4⟩ : ∃ k, drC tr cu = (4, k) := ⟨(drC tr cu).2, Prod.ext (by show _ = 4; (first | lia | omega)) rfl⟩
    have ek := (dr_atom xu).mp hk4
    have hlt := hA k ek
    have hAl := w.ok.alen
    rw [hk4]
    walk_at "R"
    refine sbI (by decide) (by decide) rfl ?_
    walk_at "R"
    refine (c_text Fn w.sy (List.getElem?_eq_getElem hlt) (Nat.lt_of_lt_of_le hlt (Nat.le_trans hAl (by decide))) ?_).x
    walk_at "R"
    have hs1 := sok _ (w.ok.asub _ (List.getElem_mem hlt))
    refine .inr (.inr (.inl ⟨_, rfl, hs1, fun z hz => ?_, ?_⟩))
    · obtain ⟨s, hs, rfl⟩ := List.mem_map.mp hz
      exact sok s (hws s hs)
    · refine b_if (fun q => ?_) fun q => ?_
      · obtain ⟨s, hs, e⟩ := List.mem_map.mp (dec_t q)
        simp only [V.str.injEq] at e
        subst e
        walk_at "R"
        refine sbI (by decide) (by decide) rfl ?_
        walk_at "R"
        refine (c_text Fn w.sy (List.getElem?_eq_getElem hlt) (Nat.lt_of_lt_of_le hlt (Nat.le_trans hAl (by decide))) ?_).x
        walk_at "R"
        exact hq k _ ek (List.getElem?_eq_getElem hlt) hs
      · refine w_nil (q_next (fail _ ?_ ?_ ?_ e1 (fun k' s h1 h2 hs => ?_) _))
        · rfl
        · rfl
        · rfl
        · rw [ek] at h1
          simp only [Tm.a.injEq] at h1
          subst h1
          rw [List.getElem?_eq_getElem hlt] at h2
          cases h2
          exact dec_f q (List.mem_map.mpr ⟨_, hs, rfl⟩)
  · refine b_f ?_
    refine w_nil (q_next (fail _ ?_ ?_ ?_ e1 (fun k' s h1 h2 hs => ?_) _))
    · rfl
    · rfl
    · rfl
    · exact e0 (by rw [(dr_atom xu).mpr h1]; rfl)
end

set_option maxHeartbeats 1000000

theorem noP : ∀ t : Tm, (tmV t).noPrim = true
  | .a _ => rfl
  | .v _ => rfl
  | .i _ => rfl
  | .s _ _ => rfl
section
variable {prog : Program} {K : Frag} {H H0 : HM} {Q : QV} {n : Nat} {W : Ar} {h : List Cl} {A : List Str} {F : List FR} {tr : Nat}
theorem XW.caught {B : List Str → List FR → Tm → Prop} {e : Addr} {H' : HM} (x : XW H W A F h B e H') (hq : ∀ t A' F' H', St H' W A' F' h → A <+: A' → F <+: F' → Off W.L.y.mut H H' → B A' F' t → Q (.tup [.str (sx 22), tmV (ballT t)]) H') :
    ∃ d tb l y, H' e = some (.exc (tab K).exc (some d) tb) ∧ H' d = some (.attrs l) ∧ l.lookup (Str.ofString "ball") = some y ∧ y.noPrim = true ∧ Q (.tup [.str (Str.ofString "error"), y]) H' := by
  obtain ⟨t, A', F', x, hB⟩ := x
  obtain ⟨d, tb, e1, e2, _⟩ := x.er.at_
  refine ⟨d, tb, _, tmV (ballT t), e1, e2, by simp, noP _, ?_⟩
  rw [show Str.ofString "error" = sx 22 by decide +kernel]
  exact hq t A' F' H' x.st x.a x.f x.off hB
theorem c_law_row (Fn : Fns K) (hM : ExcMk K 51 48) (w : St H W A F h) (hd : Hd h tr) {els : List Tm} {en : Tm} (hen : ¬ isS en) (hl : els.length ≤ 1000) (hT : tsz (lst en els) ≤ 1000) {b : Nat} {c : Cl} (x : LaidAt h F (lst en els) b c)
    (h1 : fol tr en = .a 0 → (∀ e ∈ els, fol tr e ≠ .v 0) → ∀ D H' cs, Els h F els cs → Fresh H D → H' D = some (.list (cs.map fun c => clV (drC tr c))) → Off [] H H' → Q (.tup [.str (sx 44), .ref D]) H')
    (h2 : ∀ t A' F' H', St H' W A' F' h → A <+: A' → F <+: F' → Off W.L.y.mut H H' → RowErr tr els en A' F' t → Q (.tup [.str (sx 22), tmV (ballT t)]) H') : CC prog (tab K) (n + 7) (.ref 620) [.ref W.m, clV c] H Q := by
  refine cc_try Fn.f_law_row hM rfl XW.stable (fun a H' x => XW.caught x h2) ?_
  unfold s_law_row
  walk_at "R"
  refine (c_option_cells Fn hM w hd hen hl hT x fun e1 e2 D H' cs e3 e4 e5 e6 => ?_).x
  walk_at "R"
  walk_at "R"
  exact h1 e1 e2 D H' cs e3 e4 e5 e6
theorem c_law_parts (Fn : Fns K) (hM : ExcMk K 51 48) (w : St H W A F h) (hd : Hd h tr) {kd : Str} (hk : kd ∈ sxl) {t : Tm} (hT : tsz t ≤ 1000) {b : Nat} {c : Cl} (x : LaidAt h F t b c) (hF : ∀ p ∈ F, p.1 < A.length)
    (h1 : ∀ f u a s cu b', t = .s f [u] → F[f]? = some (a, 1) → A[a]? = some s → LaidAt h F u b' cu → Q (.tup [.str (sx 45), .tup [.str s, clV (drC tr cu)]]) H)
    (h2 : ∀ u A' F' H', St H' W A' F' h → A <+: A' → F <+: F' → Off W.L.y.mut H H' → (¬ ∃ f v, t = .s f [v]) ∧ DomErr tr kd t A' F' u → Q (.tup [.str (sx 22), tmV (ballT u)]) H') : CC prog (tab K) (n + 7) (.ref 627) [.ref W.m, clV c, .str kd] H Q := by
  refine cc_try Fn.f_law_parts hM rfl XW.stable (fun a H' x => XW.caught x h2) ?_
  unfold s_law_parts
  walk_at "R"
  refine (c_option_parts Fn hM w hd hk hT x hF fun f u a s cu b' e1 e2 e3 e4 => ?_).x
  walk_at "R"
  walk_at "R"
  exact h1 f u a s cu b' e1 e2 e3 e4
theorem c_law_word (Fn : Fns K) (hM : ExcMk K 51 48) (w : St H W A F h) (hd : Hd h tr) {kd : Str} (hk : kd ∈ sxl) {t : Tm} (hT : tsz t ≤ 1000) {b : Nat} {c : Cl} (x : LaidAt h F t b c) {u : Tm} {b' : Nat} {cu : Cl} (xu : LaidAt h F u b' cu) (hA : ∀ k, fol tr u = .a k → k < A.length) {ws : List Str} (hws : ∀ s ∈ ws, s ∈ sxl)
    (h1 : ∀ k s, fol tr u = .a k → A[k]? = some s → s ∈ ws → Q (.tup [.str (sx 46), .str s]) H)
    (h2 : ∀ v A' F' H', St H' W A' F' h → A <+: A' → F <+: F' → Off W.L.y.mut H H' → WordErr tr kd t u ws A A' F' v → Q (.tup [.str (sx 22), tmV (ballT v)]) H') : CC prog (tab K) (n + 7) (.ref 634) [.ref W.m, clV c, clV (drC tr cu), .str kd, .tup (ws.map .str)] H Q := by
  refine cc_try Fn.f_law_word hM rfl XW.stable (fun a H' x => XW.caught x h2) ?_
  unfold s_law_word
  walk_at "R"
  refine (c_option_value Fn hM w hd hk hT x xu hA hws fun k s e1 e2 e3 => ?_).x
  walk_at "R"
  walk_at "R"
  exact h1 k s e1 e2 e3
theorem drC_dr {t : Tm} {b : Nat} {c : Cl} (x : LaidAt h F t b c) : drC tr (drC tr c) = drC tr c := by
  cases t with
  | v k =>
    obtain ⟨rfl, _⟩ := x
    by_cases e : k = 1
    · subst e; rfl
    · rw [show drC tr (0, k) = (0, 0) by unfold drC; simp [e]]; rfl
  | a k => have e : c = (4, k) := x; subst e; rfl
  | i k => have e : c = (5, k) := x; subst e; rfl
  | s f l => rw [(comp_yes (tr := tr) x trivial).1, (comp_yes (tr := tr) x trivial).1]
theorem c_law_ended (Fn : Fns K) (w : St H W A F h) (hd : Hd h tr) {t : Tm} {b : Nat} {c : Cl} (x : LaidAt h F t b c) (hq : Q (.bool true) H) : CC prog (tab K) (n + 2) (.ref 641) [.ref W.m, clV (drC tr c)] H Q := by
  refine cc_fn Fn.f_law_ended rfl ?_
  unfold s_law_ended
  have wm := w.ar.m
  have wd := w.ar.md
  have to := w.st.st
  have td := w.st.sd
  obtain ⟨t', x', _⟩ := x.dr (tr := tr)
  walk_at "R"
  refine (c_deref Fn w.st hd x'.ok ?_).x
  rw [drC_dr x]
  walk_at "R"
  refine e_if (clV_plain _) (clV_plain _) (fun _ => ?_) fun e => absurd rfl e
  exact hq
-- balls
open Classical in
theorem e_list {a b : Addr} {l m : List V} {P : Bool → Prop} (ha : H a = some (.list l)) (hb : H b = some (.list m)) (pl : ∀ z ∈ l, plain 50 z = true) (pm : ∀ z ∈ m, plain 50 z = true) (ht : l = m → P true) (hf : l ≠ m → P false) : eqG (.ref a) (.ref b) H P := by
  refine .inr ⟨a, b, l, m, rfl, rfl, ha, hb, pl, pm, ?_⟩
  by_cases e : l = m
  · rw [decide_eq_true e]; exact ht e
  · rw [decide_eq_false e]; exact hf e
theorem c_ball0 (Fn : Fns K) {y : Sy} (s : SyAt H y A F) (ok : SyOk A F) {kd : Str} (hk : kd ∈ sxl) {D : Addr} (hD : H D = some (.list [])) (hDm : D ∉ y.mut)
    (hq : ∀ H' A' k, A <+: A' → SyAt H' y A' F → SyOk A' F → Off y.mut H H' → A'[k]? = some kd → Q (.tup [.str (sx 22), tmV (ballT (.a k))]) H') : CC prog (tab K) (n + 3) (.ref 613) [.ref y.o, .str kd, .ref D] H Q := by
  refine cc_fn Fn.f_law_ball rfl ?_
  unfold s_law_ball
  have so := s.o
  have sd := s.d
  walk_at "R"
  refine (r_atom Fn s ok hk fun H1 A1 k p1 s1 ok1 o1 hk1 => ?_).x
  walk_at "R"
  walk_at "R"
  refine fun d hd => ?_
  have hD1 := o1 D _ rfl hDm hD
  refine cm_ne (e_list (nw hd hD1) (upd_self _ _ _) (by simp) (by simp) (fun _ => b_nt ?_) fun e => absurd rfl e)
  walk_at "R"
  walk_at "R"
  walk_at "R"
  walk_at "R"
  walk_at "R"
  exact hq _ A1 k p1 (s1.off (Off.nw (l := []) _ hd) fun _ _ => by simp) ok1 (o1.trans (Off.nw _ hd)) hk1
theorem c_ball2 (Fn : Fns K) {y : Sy} (s : SyAt H y A F) (ok : SyOk A F) {kd : Str} (hk : kd ∈ sxl) {D : Addr} {t1 t2 : Tm} (hD : H D = some (.list [tmV t1, tmV t2])) (hDm : D ∉ y.mut) (p1 : plain 50 (tmV t1) = true) (p2 : plain 50 (tmV t2) = true)
    (hq : ∀ H' A' F' kf, A <+: A' → F <+: F' → SyAt H' y A' F' → SyOk A' F' → Off y.mut H H' → IsF A' F' kf kd 2 → Q (.tup [.str (sx 22), tmV (ballT (.s kf [t1, t2]))]) H') : CC prog (tab K) (n + 3) (.ref 613) [.ref y.o, .str kd, .ref D] H Q := by
  refine cc_fn Fn.f_law_ball rfl ?_
  unfold s_law_ball
  have so := s.o
  have sd := s.d
  walk_at "R"
  refine (r_atom Fn s ok hk fun H1 A1 k q1 s1 ok1 o1 hk1 => ?_).x
  walk_at "R"
  walk_at "R"
  refine fun d hd => ?_
  have hD1 := o1 D _ rfl hDm hD
  have s2 := s1.off (Off.nw (l := []) (.list []) hd) fun _ _ => by simp
  have hD2 := nw (m := .list []) hd hD1
  have o2 : Off y.mut H (upd H1 d (.list [])) := o1.trans (Off.nw _ hd)
  refine cm_ne (e_list hD2 (upd_self _ _ _) (fun z hz => ?_) (by simp) (fun e => by cases e) fun _ => b_nf ?_)
  · simp only [List.mem_cons, List.mem_nil_iff, or_false] at hz
    rcases hz with rfl | rfl
    · exact p1
    · exact p2
  clear so sd hd hD1 s1
  generalize upd H1 d (.list []) = H2 at *
  have so := s2.o
  have sd := s2.d
  walk_at "R"
  refine bQ.lenL hD2 rfl (by simp) ?_
  walk_at "R"
  refine (r_func (r := 2) Fn s2 ok1 hk (by decide) fun H3 A3 F3 kf q3 f3 s3 ok3 o3 hkf => ?_).x
  have hD3 := o3 D _ rfl hDm hD2
  walk_at "R"
  refine bQ.tupL hD3 (by simp) ?_
  walk_at "R"
  walk_at "R"
  walk_at "R"
  walk_at "R"
  walk_at "R"
  walk_at "R"
  have := hq H3 A3 F3 kf (q1.trans q3) f3 s3 ok3 (o2.trans o3) hkf
  rw [show tmV (ballT (.s kf [t1, t2])) = .tup [.str (sx 29), .int 16, .tup [.tup [.str (sx 29), .int kf, .tup [tmV t1, tmV t2]], .tup [.str (sx 30), .int 25]]] by simp [ballT, tmV, tmVs]] at this
  exact this
-- followed terms
theorem tsz_mem : ∀ {l : List Tm} {t : Tm}, t ∈ l → tsz t ≤ tszs l
  | u :: l, t, h => by
    rw [tszs]
    rcases List.mem_cons.mp h with rfl | h
    · exact Nat.le_add_right _ _
    · exact Nat.le_trans (tsz_mem h) (Nat.le_add_left _ _)
theorem tszs_len : ∀ l : List Tm, l.length ≤ tszs l
  | [] => Nat.le_refl _
  | t :: l => by have := tszs_len l; have := tsz_pos t; rw [tszs, List.length_cons]; (first | lia | omega)
theorem w_tnone {T : Tab} {X : Addr → HM → Prop} {lo : Lo} {Q : Bool → HM → Prop} (h : Q true H) : wpT prog T n X .none lo H Q := h
theorem c_followed (Fn : Fns K) {y : Sy} (ok : SyOk A F) (h16 : A[16]? = some (sx 16)) : ∀ (m : Nat) (t : Tm) {H : HM} {Q : QV}, tsz t ≤ m → m ≤ 1000 → SyAt H y A F → (∀ H', SyAt H' y A F → Off y.mut H H' → Q (tmV (fol 16 t)) H') → CC prog (tab K) (n + m + 1) (.ref 606) [.ref y.o, tmV t] H Q
  | 0, t, H, Q, hm, _, _, _ => absurd hm (Nat.not_le_of_lt (tsz_pos t))
  | m + 1, t, H, Q, hm, hm2, s, hq => by
    refine cc_fn Fn.f_law_followed rfl ?_
    unfold s_law_followed
    have so := s.o
    have sd := s.d
    cases t with
    | a k =>
      rw [show tmV (.a k) = .tup [.str (sx 30), .int k] by rw [tmV]]
      walk_at "R"
      refine sbI (by decide) (by decide) rfl ?_
      walk_at "R"
      refine e_str (by decide) (by decide) (fun q => absurd q (by decide)) fun _ => b_f ?_
      walk_at "R"
      refine sbI (by decide) (by decide) rfl ?_
      walk_at "R"
      refine e_str (by decide) (by decide) (fun q => absurd q (by decide)) fun _ => b_f ?_
      walk_at "R"
      exact hq H s (Off.refl _ _)
    | i k =>
      rw [show tmV (.i k) = .tup [.str (sx 37), .int k] by rw [tmV]]
      walk_at "R"
      refine sbI (by decide) (by decide) rfl ?_
      walk_at "R"
      refine e_str (by decide) (by decide) (fun q => absurd q (by decide)) fun _ => b_f ?_
      walk_at "R"
      refine sbI (by decide) (by decide) rfl ?_
      walk_at "R"
      refine e_str (by decide) (by decide) (fun q => absurd q (by decide)) fun _ => b_f ?_
      walk_at "R"
      exact hq H s (Off.refl _ _)
    | v k =>
      rw [show tmV (.v k) = .tup [.str (sx 36), .int k] by rw [tmV]]
      walk_at "R"
      refine sbI (by decide) (by decide) rfl ?_
      walk_at "R"
      refine e_str (by decide) (by decide) (fun q => absurd q (by decide)) fun _ => b_f ?_
      walk_at "R"
      refine sbI (by decide) (by decide) rfl ?_
      walk_at "R"
      refine e_str (by decide) (by decide) (fun _ => b_t ?_) fun q => absurd rfl q
      walk_at "R"
      refine sbI (by decide) (by decide) rfl ?_
      walk_at "R"
      refine e_int (fun e => b_t ?_) fun e => b_f ?_
      · have e' : k = 1 := by (first | lia | omega)
        subst e'
        walk_at "R"
        refine (c_atom Fn s ok (sx_mem (by decide)) fun H1 s1 ok1 o1 => ?_).x
        have hmem : sx 16 ∈ A := List.mem_of_getElem? h16
        rw [addL_same hmem] at s1 ok1 ⊢
        have hi : A.idxOf (sx 16) = 16 := by
          have h1 := addL_get A (sx 16)
          rw [addL_same hmem] at h1
          exact get_inj ok.a h1 h16
        rw [hi]
        walk_at "R"
        walk_at "R"
        exact hq H1 s1 o1
      · have e' : ¬ k = 1 := by (first | lia | omega)
        walk_at "R"
        walk_at "R"
        have := hq H s (Off.refl _ _)
        rw [fol, if_neg e'] at this
        exact this
    | s f l =>
      rw [tsz] at hm
      have hl := tszs_len l
      rw [show tmV (.s f l) = .tup [.str (sx 29), .int f, .tup (l.map tmV)] by rw [tmV, tmVs_map]]
      walk_at "R"
      refine sbI (by decide) (by decide) rfl ?_
      walk_at "R"
      refine e_str (by decide) (by decide) (fun _ => b_t ?_) fun q => absurd rfl q
      walk_at "R"
      refine sbI (by decide) (by decide) rfl ?_
      walk_at "R"
      refine w_iseq ?_
      walk_at "R"
      refine sbI (by decide) (by decide) rfl ?_
      refine .tup fun D hD => ?_
      have hDm : D ∉ y.mut := fun q => by
        simp only [Sy.mut, List.mem_cons, List.mem_nil_iff, or_false] at q
        rcases q with rfl | rfl | rfl | rfl
        · first | exact (no s.tx hD).elim | exact (no hD s.tx).elim | obtain rfl := so s.tx hD | (rw [s.tx] at hD; cases hD)
        · first | exact (no s.an hD).elim | exact (no hD s.an).elim | obtain rfl := so s.an hD | (rw [s.an] at hD; cases hD)
        · first | exact (no s.fs hD).elim | exact (no hD s.fs).elim | obtain rfl := so s.fs hD | (rw [s.fs] at hD; cases hD)
        · first | exact (no s.fn hD).elim | exact (no hD s.fn).elim | obtain rfl := so s.fn hD | (rw [s.fn] at hD; cases hD)
      have hDa : ∀ a ∈ y.all, a ≠ D := fun a ha e => by
        subst e
        simp only [Sy.all, List.mem_cons, List.mem_nil_iff, or_false] at ha
        rcases ha with rfl | rfl | rfl | rfl | rfl | rfl
        · first | exact (no s.o hD).elim | exact (no hD s.o).elim | obtain rfl := so s.o hD | (rw [s.o] at hD; cases hD)
        · first | exact (no s.d hD).elim | exact (no hD s.d).elim | obtain rfl := so s.d hD | (rw [s.d] at hD; cases hD)
        · first | exact (no s.tx hD).elim | exact (no hD s.tx).elim | obtain rfl := so s.tx hD | (rw [s.tx] at hD; cases hD)
        · first | exact (no s.an hD).elim | exact (no hD s.an).elim | obtain rfl := so s.an hD | (rw [s.an] at hD; cases hD)
        · first | exact (no s.fs hD).elim | exact (no hD s.fs).elim | obtain rfl := so s.fs hD | (rw [s.fs] at hD; cases hD)
        · first | exact (no s.fn hD).elim | exact (no hD s.fn).elim | obtain rfl := so s.fn hD | (rw [s.fn] at hD; cases hD)
      refine ⟨fun i ys H' => SyAt H' y A F ∧ H' D = some (.list ys) ∧ Off (D :: y.mut) H H' ∧ ys = (l.take i).map fun t => tmV (fol 16 t), ⟨s.off (Off.nw (l := []) _ hD) fun _ _ => by simp, upd_self _ _ _, Off.nw _ hD, rfl⟩, fun i ys H' J => ⟨trivial, J.2.1, ?_⟩, fun i ys v H' J hv => ?_, fun ys H' J => ?_⟩
      · rw [J.2.2.2, List.length_map, List.length_take]; (first | lia | omega)
      · obtain ⟨t', ht', rfl⟩ := get_tms hv
        refine w_tnone ?_
        rw [if_pos rfl]
        walk_at "R"
        refine (c_followed Fn ok h16 m t' (Nat.le_trans (tsz_mem (List.mem_of_getElem? ht')) (by (first | lia | omega))) (by (first | lia | omega)) J.1 fun H2 s2 o2 => ?_).x
        refine ⟨o2 D _ rfl hDm J.2.1, ?_⟩
        refine ⟨s2.off (Off.wr (l := [D]) _ (by simp)) fun a ha q => hDa a ha (List.mem_singleton.mp q), upd_self _ _ _, (J.2.2.1.trans (o2.sub fun a ha => .tail _ ha)).trans (Off.wr _ (by simp)), ?_⟩
        rw [J.2.2.2, List.take_succ, ht']; simp
      · have hD2 := J.2.1
        have e := J.2.2.2
        rw [List.length_map, List.take_length] at e
        walk_at "R"
        refine bQ.tupL hD2 (by rw [e, List.length_map]; (first | lia | omega)) ?_
        walk_at "R"
        walk_at "R"
        have := hq H' J.1 (J.2.2.1.less fun a ha => by
          rcases List.mem_cons.mp ha with rfl | ha
          · exact .inr (.of hD)
          · exact .inl ha)
        rw [fol, tmV, tmVs_map, fols_map, List.map_map] at this
        rw [e]
        exact this
end

set_option maxHeartbeats 1000000

/-- where the draws stand -/
structure Pl where
  p : Addr
  sc : Addr
  xs : List Int
structure PlOk (y : Sy) (P : Pl) : Prop where
  p : P.p ∉ y.all
  sc : P.sc ∉ y.all
  ne : P.p ≠ P.sc
  len : P.xs.length ≤ 63
structure PlAt (H : HM) (P : Pl) (a i c : Int) : Prop where
  at_ : H P.p = some (.list [.ref P.sc, .int a, .int i, .int c])
  sc : H P.sc = some (.list (P.xs.map .int))
  a : 0 ≤ a
  i : -1 ≤ i
  c : 0 ≤ c
noncomputable def PlA (H : HM) (P : Pl) : Prop := ∃ a i c, PlAt H P a i c
theorem mut_all {y : Sy} {a : Addr} (h : a ∈ y.mut) : a ∈ y.all := by
  simp only [Sy.mut, Sy.all, List.mem_cons] at h ⊢
  exact .inr (.inr h)
theorem PlAt.set {H : HM} {P : Pl} (hne : P.p ≠ P.sc) (hs : H P.sc = some (.list (P.xs.map .int))) {a i c : Int} (h1 : 0 ≤ a) (h2 : -1 ≤ i) (h3 : 0 ≤ c) : PlAt (upd H P.p (.list [.ref P.sc, .int a, .int i, .int c])) P a i c :=
  ⟨upd_self _ _ _, (upd_ne hne.symm).trans hs, h1, h2, h3⟩
theorem PlA.off {H H' : HM} {P : Pl} {y : Sy} (h : PlA H P) (ok : PlOk y P) {l : List Addr} (o : Off l H H') (hl : ∀ a ∈ l, a ∈ y.all) : PlA H' P := by
  obtain ⟨a, i, c, q⟩ := h
  exact ⟨a, i, c, o _ _ rfl (fun z => ok.p (hl _ z)) q.at_, o _ _ rfl (fun z => ok.sc (hl _ z)) q.sc, q.a, q.i, q.c⟩
theorem imod_lt {a : Int} {l : Nat} (h : 0 < l) : ∃ r : Nat, r < l ∧ a % (l : Int) = (r : Nat) := by
  have h1 := Int.emod_nonneg a (show (l : Int) ≠ 0 by (first | lia | omega))
  have h2 := Int.emod_lt_of_pos a (show (0 : Int) < l by (first | lia | omega))
  exact ⟨(a % (l : Int)).toNat, by (first | lia | omega), by (first | lia | omega)⟩
section
variable {prog : Program} {K : Frag} {H H0 : HM} {Q : QV} {n : Nat} {A : List Str} {F : List FR} {P : Pl} {y : Sy}
theorem sbR {a : Addr} {l : List V} {j : Int} {z : V} {R : V → Prop} (ha : H a = some (.list l)) (h0 : 0 ≤ j) (h1 : j < 1000000) (e : l[j.toNat]? = some z) (q : R z) : subV (.ref a) (.int j) H R := by
  exact subV.list ha h0 h1 e q
theorem stR {a : Addr} {l : List V} {j : Int} {v : V} {R : HM → Prop} (ha : H a = some (.list l)) (h0 : 0 ≤ j) (h1 : j < l.length) (h2 : l.length ≤ 1000000) (q : R (upd H a (.list (l.set j.toNat v)))) : setV (.ref a) (.int j) v H R := by
  exact setV.list ha h0 h1 h2 q
theorem lnR {a : Addr} {l : List V} (ha : H a = some (.list l)) (h2 : l.length ≤ 1000000) (q : Q (.int l.length) H) : bQ .len [.ref a] H Q := by
  exact bQ.lenL ha rfl h2 q
theorem q_abs {i : Int} (q : Q (.int (if i < 0 then -i else i)) H) : bQ .abs [.int i] H Q := .abs q
theorem c_draw (Fn : Fns K) (hne : P.p ≠ P.sc) (hlen : P.xs.length ≤ 63) (p : PlA H P) {l : Nat} (h0 : 0 < l) (hl : l < 1000) (hq : ∀ r : Nat, r < l → ∀ H', PlA H' P → Off [P.p] H H' → Q (.int r) H') : CC prog (tab K) (n + 1) (.ref 594) [.ref P.p, .int l] H Q := by
  refine cc_fn Fn.f_law_draw rfl ?_
  unfold s_law_draw
  obtain ⟨a, i, c, p⟩ := p
  have hp := p.at_
  have hsc := p.sc
  have l0 : (0 : Int) < (l : Int) := Int.ofNat_lt.mpr h0
  have l1 : (l : Int) < 1000 := Int.ofNat_lt.mpr hl
  have tail : ∀ lo H1 a' i' c', lo 0 = some (.ref P.p) → lo 1 = some (.int l) → PlAt H1 P a' i' c' → Off [P.p] H H1 →
      wpSs prog (tab K) n (fun _ _ => False) (.cons (.asgn 2 (.bin .Mod (.sub (.var 0) (.const (.int 1))) (.var 1))) (.cons (.asgnS (.var 0) (.const (.int 1)) (.bin .FloorDiv (.sub (.var 0) (.const (.int 1))) (.var 1))) (.cons (.ret (.var 2)) .nil))) lo H1 fun r _ H' => match r with | .ret v => Q v H' | _ => Q .none H' := fun lo H1 a' i' c' q0 q1 p o => by
    have hp := p.at_
    walk_at "R"
    refine sbR hp (by decide) (by decide) rfl ?_
    walk_at "R"
    refine ⟨_, _, rfl, rfl, l0, l1, ?_⟩
    obtain ⟨r, hr, er⟩ := imod_lt (a := a') h0
    rw [er]
    walk_at "R"
    refine sbR hp (by decide) (by decide) rfl ?_
    walk_at "R"
    refine ⟨_, _, rfl, rfl, l0, l1, ?_⟩
    walk_at "R"
    refine stR hp (by decide) (by simp) (by simp) ?_
    walk_at "R"
    exact hq r hr _ ⟨_, i', c', PlAt.set hne p.sc (Int.ediv_nonneg p.a (Int.le_of_lt l0)) p.i p.c⟩ (o.trans (Off.wr _ (by simp)))
  walk_at "R"
  refine sbR hp (by decide) (by decide) rfl ?_
  walk_at "R"
  refine e_int (fun e => b_t ?_) fun e => b_f ?_
  · subst e
    walk_at "R"
    refine ⟨P.p, _, 2, i, rfl, hp, rfl, by decide, by decide, rfl, ?_⟩
    walk_at "R"
    refine ⟨1, rfl, ?_⟩
    refine stR hp (by decide) (by simp) (by simp) ?_
    have p1 : PlAt (upd H P.p (.list [.ref P.sc, .int 0, .int (i + 1), .int c])) P 0 (i + 1) c := PlAt.set hne hsc (Int.le_refl _) (by have := p.i; (first | lia | omega)) p.c
    have o1 : Off [P.p] H (upd H P.p (.list [.ref P.sc, .int 0, .int (i + 1), .int c])) := Off.wr _ (by simp)
    rw [show ([.ref P.sc, .int 0, .int i, .int c] : List V).set (2 : Int).toNat (.int (i + 1)) = [.ref P.sc, .int 0, .int (i + 1), .int c] from rfl]
    have hi := p.i
    clear p hp hsc
    generalize upd H P.p (.list [.ref P.sc, .int 0, .int (i + 1), .int c]) = H1 at *
    have hp := p1.at_
    have hsc := p1.sc
    walk_at "R"
    refine sbR hp (by decide) (by decide) rfl ?_
    walk_at "R"
    refine sbR hp (by decide) (by decide) rfl ?_
    walk_at "R"
    refine lnR hsc (by rw [List.length_map]; (first | lia | omega)) ?_
    refine bi2 (b_ifd (fun hge => ?_) fun hlt => ?_)
    · walk_at "R"
      refine ⟨P.p, _, 3, c, rfl, hp, rfl, by decide, by decide, rfl, ?_⟩
      walk_at "R"
      refine ⟨1, rfl, ?_⟩
      refine stR hp (by decide) (by simp) (by simp) ?_
      have p2 : PlAt (upd H1 P.p (.list [.ref P.sc, .int 0, .int (i + 1), .int (c + 1)])) P 0 (i + 1) (c + 1) := PlAt.set hne hsc (Int.le_refl _) p1.i (by have := p1.c; (first | lia | omega))
      have o2 : Off [P.p] H (upd H1 P.p (.list [.ref P.sc, .int 0, .int (i + 1), .int (c + 1)])) := o1.trans (Off.wr _ (by simp))
      rw [show ([.ref P.sc, .int 0, .int (i + 1), .int c] : List V).set (3 : Int).toNat (.int (c + 1)) = [.ref P.sc, .int 0, .int (i + 1), .int (c + 1)] from rfl]
      clear p1 hp hsc o1
      generalize upd H1 P.p (.list [.ref P.sc, .int 0, .int (i + 1), .int (c + 1)]) = H2 at *
      have hp := p2.at_
      walk_at "R"
      refine sbR hp (by decide) (by decide) rfl ?_
      walk_at "R"
      refine ⟨_, _, rfl, rfl, l0, l1, ?_⟩
      obtain ⟨r, hr, er⟩ := imod_lt (a := c + 1) h0
      rw [er]
      walk_at "R"
      exact hq r hr _ ⟨_, _, _, p2⟩ o2
    · rw [List.length_map] at hlt
      have hi2 : (i + 1).toNat < P.xs.length := by (first | lia | omega)
      walk_at "R"
      refine sbR hp (by decide) (by decide) rfl ?_
      walk_at "R"
      refine sbR hp (by decide) (by decide) rfl ?_
      refine sbR (z := .int P.xs[(i + 1).toNat]) hsc (by (first | lia | omega)) (by (first | lia | omega)) (by rw [List.getElem?_map, List.getElem?_eq_getElem hi2]; rfl) ?_
      walk_at "R"
      refine q_abs ?_
      walk_at "R"
      refine stR hp (by decide) (by simp) (by simp) ?_
      refine q_next (w_nil (q_next (tail _ _ _ _ _ ?_ ?_ (PlAt.set hne hsc ?_ p1.i p1.c) (o1.trans (Off.wr _ (by simp))))))
      · rfl
      · rfl
      · split <;> (first | lia | omega)
  · refine w_nil (q_next (tail _ _ _ _ _ ?_ ?_ p (Off.refl _ _)))
    · rfl
    · rfl
-- the first symbols
structure Bs (A : List Str) (F : List FR) : Prop where
  a : fixA <+: A
  f : fixF <+: F
theorem Bs.up {A' : List Str} {F' : List FR} (b : Bs A F) (ha : A <+: A') (hf : F <+: F') : Bs A' F' := ⟨b.a.trans ha, b.f.trans hf⟩
theorem Bs.word (b : Bs A F) {i : Nat} (hi : i < 29) : A[i]? = some (sx i) := pre_get b.a (fixA_get hi)
theorem Bs.f0 (b : Bs A F) : F[0]? = some (1, 2) := pre_get b.f rfl
theorem Bs.ne0 (b : Bs A F) {k a r : Nat} (e : F[k]? = some (a, r)) (hr : r ≠ 2) : k ≠ 0 := by
  rintro rfl
  rw [b.f0] at e
  simp only [Option.some.injEq, Prod.mk.injEq] at e
  exact hr e.2.symm
mutual
noncomputable def AtT (A : List Str) : Tm → Prop
  | .v _ => True
  | .a n => n < A.length
  | .i _ => True
  | .s _ l => AtL A l
noncomputable def AtL (A : List Str) : List Tm → Prop
  | [] => True
  | t :: l => AtT A t ∧ AtL A l
end
mutual
noncomputable def dep : Tm → Nat
  | .v _ => 1
  | .a _ => 1
  | .i _ => 1
  | .s _ l => 2 + deps l
noncomputable def deps : List Tm → Nat
  | [] => 0
  | t :: l => max (dep t) (deps l)
end
mutual
theorem WfT.up {F F' : List FR} (hf : F <+: F') : ∀ {t : Tm}, WfT F t → WfT F' t
  | .v _, h => h
  | .a _, _ => trivial
  | .i _, _ => trivial
  | .s _ _, h => ⟨let ⟨a, ha⟩ := h.1; ⟨a, pre_get hf ha⟩, h.2.1, WfL.up hf h.2.2⟩
theorem WfL.up {F F' : List FR} (hf : F <+: F') : ∀ {l : List Tm}, WfL F l → WfL F' l
  | [], _ => trivial
  | _ :: _, h => ⟨WfT.up hf h.1, WfL.up hf h.2⟩
end
mutual
theorem AtT.up {A A' : List Str} (ha : A <+: A') : ∀ {t : Tm}, AtT A t → AtT A' t
  | .v _, _ => trivial
  | .a _, h => Nat.lt_of_lt_of_le h ha.length_le
  | .i _, _ => trivial
  | .s _ _, h => AtL.up ha h
theorem AtL.up {A A' : List Str} (ha : A <+: A') : ∀ {l : List Tm}, AtL A l → AtL A' l
  | [], _ => trivial
  | _ :: _, h => ⟨AtT.up ha h.1, AtL.up ha h.2⟩
end
structure ElT (A : List Str) (F : List FR) (t : Tm) (s d : Nat) : Prop where
  wf : WfT F t
  at_ : AtT A t
  sz : tsz t ≤ s
  dp : dep t ≤ d
theorem ElT.up {A' : List Str} {F' : List FR} {t : Tm} {s d : Nat} (e : ElT A F t s d) (ha : A <+: A') (hf : F <+: F') : ElT A' F' t s d := ⟨e.wf.up hf, e.at_.up ha, e.sz, e.dp⟩
end

set_option maxHeartbeats 1000000

section
variable {prog : Program} {K : Frag} {H H0 : HM} {Q : QV} {n : Nat} {A : List Str} {F : List FR} {P : Pl} {y : Sy}
theorem PlA.mut {H' : HM} (p : PlA H P) (ok : PlOk y P) (o : Off y.mut H H') : PlA H' P := p.off ok o fun _ => mut_all
theorem SyAt.pl {H' : HM} (s : SyAt H y A F) (ok : PlOk y P) (o : Off [P.p] H H') : SyAt H' y A F := s.off o fun a ha q => ok.p (List.mem_singleton.mp q ▸ ha)
/-- what stands while elements are drawn -/
structure Dr (H : HM) (y : Sy) (P : Pl) (A : List Str) (F : List FR) : Prop where
  sy : SyAt H y A F
  ok : SyOk A F
  pl : PlA H P
  bs : Bs A F
theorem Dr.off0 {H' : HM} (d : Dr H y P A F) (pk : PlOk y P) (o : Off [] H H') : Dr H' y P A F := ⟨d.sy.off o fun _ _ => by simp, d.ok, d.pl.off pk o (fun _ q => absurd q List.not_mem_nil), d.bs⟩
theorem Dr.draw {H' : HM} (d : Dr H y P A F) (pk : PlOk y P) (p : PlA H' P) (o : Off [P.p] H H') : Dr H' y P A F := ⟨d.sy.pl pk o, d.ok, p, d.bs⟩
theorem Dr.mut {H' : HM} {A' : List Str} {F' : List FR} (d : Dr H y P A F) (pk : PlOk y P) (s : SyAt H' y A' F') (ok : SyOk A' F') (ha : A <+: A') (hf : F <+: F') (o : Off y.mut H H') : Dr H' y P A' F' := ⟨s, ok, d.pl.mut pk o, d.bs.up ha hf⟩
theorem el_s1 {f a : Nat} {u : Tm} (b : Bs A F) (hu : ElT A F u 2 3) (hf : F[f]? = some (a, 1)) : ElT A F (.s f [u]) 5 5 :=
  ⟨⟨⟨a, hf⟩, fun e => absurd e (b.ne0 hf (by decide)), hu.wf, trivial⟩, ⟨hu.at_, trivial⟩, by have := hu.sz; simp only [tsz, tszs]; (first | lia | omega), by have := hu.dp; simp only [dep, deps]; (first | lia | omega)⟩
theorem el_s2 {f a : Nat} {u v : Tm} (hu : ElT A F u 2 3) (hv : ElT A F v 2 3) (hf : F[f]? = some (a, 2)) : ElT A F (.s f [u, v]) 5 5 :=
  ⟨⟨⟨a, hf⟩, fun _ => rfl, hu.wf, hv.wf, trivial⟩, ⟨hu.at_, hv.at_, trivial⟩, by have := hu.sz; have := hv.sz; simp only [tsz, tszs]; (first | lia | omega), by have := hu.dp; have := hv.dp; simp only [dep, deps]; (first | lia | omega)⟩
theorem el_a {k : Nat} {s d : Nat} (hs : 1 ≤ s) (hd : 1 ≤ d) (h : k < A.length) : ElT A F (.a k) s d := ⟨trivial, h, hs, hd⟩
theorem el_v {k : Nat} {s d : Nat} (hs : 1 ≤ s) (hd : 1 ≤ d) (h : k < 3) : ElT A F (.v k) s d := ⟨h, trivial, hs, hd⟩
theorem el_i {k : Nat} {s d : Nat} (hs : 1 ≤ s) (hd : 1 ≤ d) : ElT A F (.i k) s d := ⟨trivial, trivial, hs, hd⟩
theorem el_rest (Fn : Fns K) (pk : PlOk y P) (d : Dr H y P A F) {form : Nat} {word : Str} (hw : word ∈ sxl) {u : Tm} (hu : ElT A F u 2 3) {lo : Lo} (l0 : lo 0 = some (.ref P.p)) (l1 : lo 1 = some (.ref y.o)) (l2 : lo 2 = some (.int form)) (l3 : lo 3 = some (.str word)) (l5 : lo 5 = some (tmV u)) {X : Addr → HM → Prop} {R : QS}
    (hq : ∀ t lo' H' A' F', A <+: A' → F <+: F' → Dr H' y P A' F' → Off (P.p :: y.mut) H H' → ElT A' F' t 5 5 → R (.ret (tmV t)) lo' H') :
    wpSs prog (tab K) (n + 2) X (.cons (.ite (.cmp .Eq (.var 2) (.const (.int 15))) (.cons (.ret (.tup (.cons (.const (.str (sx 36))) (.cons (.call 594 (.cons (.var 0) (.cons (.const (.int 3)) .nil))) .nil)))) .nil) .nil) (.cons (.ite (.cmp .Eq (.var 2) (.const (.int 14))) (.cons (.ret (.tup (.cons (.const (.str (sx 29))) (.cons (.const (.int 0)) (.cons (.tup (.cons (.var 5) (.cons (.tup (.cons (.const (.str (sx 30))) (.cons (.const (.int 0)) .nil))) .nil))) .nil))))) .nil) .nil) (.cons (.ite (.cmp .Eq (.var 2) (.const (.int 13))) (.cons (.ret (.tup (.cons (.const (.str (sx 29))) (.cons (.meth (.var 1) 31 (.cons (.var 3) (.cons (.const (.int 2)) .nil))) (.cons (.tup (.cons (.var 5) (.cons (.var 5) .nil))) .nil))))) .nil) .nil) (.cons (.ite (.cmp .Eq (.var 2) (.const (.int 12))) (.cons (.ret (.tup (.cons (.const (.str (sx 37))) (.cons (.const (.int 12)) .nil)))) .nil) .nil) (.cons (.ite (.cmp .Eq (.var 2) (.const (.int 11))) (.cons (.ret (.tup (.cons (.const (.str (sx 30))) (.cons (.meth (.var 1) 28 (.cons (.var 3) .nil)) .nil)))) .nil) .nil) (.cons (.ret (.tup (.cons (.const (.str (sx 29))) (.cons (.meth (.var 1) 31 (.cons (.var 3) (.cons (.const (.int 1)) .nil))) (.cons (.tup (.cons (.var 5) .nil)) .nil))))) .nil)))))) lo H R := by
  have so := d.sy.o
  have sd := d.sy.d
  have om : ∀ {H'}, Off y.mut H H' → Off (P.p :: y.mut) H H' := fun o => o.sub fun a ha => .tail _ ha
  walk_at "R"
  refine e_int (fun e => b_t ?_) fun e => b_f ?_
  · walk_at "R"
    refine (c_draw (l := 3) Fn pk.ne pk.len d.pl (by decide) (by decide) fun r hr H1 p1 o1 => ?_).x
    walk_at "R"
    walk_at "R"
    exact hq (.v r) _ H1 A F (List.prefix_refl _) (List.prefix_refl _) (d.draw pk p1 o1) (o1.sub (by simp)) (el_v (by decide) (by decide) hr)
  walk_at "R"
  refine e_int (fun e => b_t ?_) fun e => b_f ?_
  · walk_at "R"
    walk_at "R"
    walk_at "R"
    walk_at "R"
    have := hq (.s 0 [u, .a 0]) lo H A F (List.prefix_refl _) (List.prefix_refl _) d (Off.refl _ _) (el_s2 hu (el_a (by decide) (by decide) (len_lt (d.bs.word (i := 0) (by decide)))) d.bs.f0)
    rw [show tmV (.s 0 [u, .a 0]) = .tup [.str (sx 29), .int 0, .tup [tmV u, .tup [.str (sx 30), .int 0]]] by simp [tmV, tmVs]] at this
    exact this
  walk_at "R"
  refine e_int (fun e => b_t ?_) fun e => b_f ?_
  · walk_at "R"
    refine (r_func (r := 2) Fn d.sy d.ok hw (by decide) fun H1 A1 F1 k a1 f1 s1 ok1 o1 hk => ?_).x
    walk_at "R"
    walk_at "R"
    walk_at "R"
    obtain ⟨a, ha, _⟩ := hk
    have := hq (.s k [u, u]) lo H1 A1 F1 a1 f1 (d.mut pk s1 ok1 a1 f1 o1) (om o1) (el_s2 (hu.up a1 f1) (hu.up a1 f1) ha)
    rw [show tmV (.s k [u, u]) = .tup [.str (sx 29), .int k, .tup [tmV u, tmV u]] by simp [tmV, tmVs]] at this
    exact this
  walk_at "R"
  refine e_int (fun e => b_t ?_) fun e => b_f ?_
  · walk_at "R"
    walk_at "R"
    exact hq (.i 12) lo H A F (List.prefix_refl _) (List.prefix_refl _) d (Off.refl _ _) (el_i (by decide) (by decide))
  walk_at "R"
  refine e_int (fun e => b_t ?_) fun e => b_f ?_
  · walk_at "R"
    refine (r_atom Fn d.sy d.ok hw fun H1 A1 k a1 s1 ok1 o1 hk => ?_).x
    walk_at "R"
    walk_at "R"
    exact hq (.a k) lo H1 A1 F a1 (List.prefix_refl _) (d.mut pk s1 ok1 a1 (List.prefix_refl _) o1) (om o1) (el_a (by decide) (by decide) (len_lt hk))
  walk_at "R"
  refine (r_func (r := 1) Fn d.sy d.ok hw (by decide) fun H1 A1 F1 k a1 f1 s1 ok1 o1 hk => ?_).x
  walk_at "R"
  walk_at "R"
  walk_at "R"
  obtain ⟨a, ha, _⟩ := hk
  have d1 := d.mut pk s1 ok1 a1 f1 o1
  have := hq (.s k [u]) lo H1 A1 F1 a1 f1 d1 (om o1) (el_s1 d1.bs (hu.up a1 f1) ha)
  rw [show tmV (.s k [u]) = .tup [.str (sx 29), .int k, .tup [tmV u]] by simp [tmV, tmVs]] at this
  exact this
theorem get4 {a b c d : Nat} {r : Nat} (hr : r < 4) : ∃ w, ([.str (sx a), .str (sx b), .str (sx c), .str (sx d)] : List V)[r]? = some (.str (sx w)) ∧ (w = a ∨ w = b ∨ w = c ∨ w = d) := by
  have : r = 0 ∨ r = 1 ∨ r = 2 ∨ r = 3 := by (first | lia | omega)
  rcases this with rfl | rfl | rfl | rfl
  · exact ⟨a, rfl, .inl rfl⟩
  · exact ⟨b, rfl, .inr (.inl rfl)⟩
  · exact ⟨c, rfl, .inr (.inr (.inl rfl))⟩
  · exact ⟨d, rfl, .inr (.inr (.inr rfl))⟩
theorem c_element (Fn : Fns K) (pk : PlOk y P) (d : Dr H y P A F) (hq : ∀ t H' A' F', A <+: A' → F <+: F' → Dr H' y P A' F' → Off (P.p :: y.mut) H H' → ElT A' F' t 5 5 → Q (tmV t) H') : CC prog (tab K) (n + 3) (.ref 601) [.ref P.p, .ref y.o] H Q := by
  refine cc_fn Fn.f_law_element rfl ?_
  unfold s_law_element
  walk_at "R"
  refine (c_draw (l := 16) Fn pk.ne pk.len d.pl (by decide) (by decide) fun form hform H1 p1 o1 => ?_).x
  have d1 := d.draw pk p1 o1
  walk_at "R"
  refine fun q hq1 => ?_
  have oq : Off [] H1 (upd H1 q (.list [.str (sx 40), .str (sx 3), .str (sx 2), .str (sx 41)])) := Off.nw _ hq1
  have d2 := d1.off0 pk oq
  have hqq := upd_self H1 q (.list [.str (sx 40), .str (sx 3), .str (sx 2), .str (sx 41)])
  have o2 : Off [P.p] H (upd H1 q (.list [.str (sx 40), .str (sx 3), .str (sx 2), .str (sx 41)])) := o1.trans (oq.sub (by simp))
  have hqp : q ≠ P.p := by
    obtain ⟨a, i, c, p⟩ := p1
    rintro rfl
    first | exact (no p.at_ hq1).elim | exact (no hq1 p.at_).elim | obtain rfl := so p.at_ hq1 | (rw [p.at_] at hq1; cases hq1)
  clear d1 p1 o1 oq hq1
  generalize upd H1 q (.list [.str (sx 40), .str (sx 3), .str (sx 2), .str (sx 41)]) = H2 at *
  walk_at "R"
  refine (c_draw (l := 4) Fn pk.ne pk.len d2.pl (by decide) (by decide) fun w hw H3 p3 o3 => ?_).x
  have d3 := d2.draw pk p3 o3
  have hq3 := o3 q _ rfl (by simpa using hqp) hqq
  obtain ⟨word, hword, hww⟩ := get4 (a := 40) (b := 3) (c := 2) (d := 41) hw
  have hwl : sx word ∈ sxl := sx_mem (by (first | lia | omega))
  refine sbR hq3 (Int.natCast_nonneg _) (by (first | lia | omega)) (by rw [Int.toNat_natCast]; exact hword) ?_
  walk_at "R"
  refine (c_draw (l := 9) Fn pk.ne pk.len d3.pl (by decide) (by decide) fun ch hch H4 p4 o4 => ?_).x
  have d4 := d3.draw pk p4 o4
  have o5 : Off (P.p :: y.mut) H H4 := ((o2.trans o3).trans o4).sub (by simp)
  have so := d4.sy.o
  have sd := d4.sy.d
  clear d2 hqq o2 hqp d3 hq3 hword hww d o3 o4 p3 p4
  walk_at "R"
  refine bi2 (b_ifd (fun h1 => ?_) fun h1 => ?_)
  · have h1' : ch < 4 := by (first | lia | omega)
    walk_at "R"
    refine fun q hq1 => ?_
    have oq : Off [] H4 (upd H4 q (.list [.str (sx 16), .str (sx 18), .str (sx 42), .str (sx 0)])) := Off.nw _ hq1
    have hqq := upd_self H4 q (.list [.str (sx 16), .str (sx 18), .str (sx 42), .str (sx 0)])
    have d5 := d4.off0 pk oq
    have o6 := o5.trans (oq.sub (l' := P.p :: y.mut) (by simp))
    clear so sd oq hq1 d4 o5
    generalize upd H4 q (.list [.str (sx 16), .str (sx 18), .str (sx 42), .str (sx 0)]) = H5 at *
    have so := d5.sy.o
    have sd := d5.sy.d
    obtain ⟨w2, hw2, hw3⟩ := get4 (a := 16) (b := 18) (c := 42) (d := 0) h1'
    walk_at "R"
    refine sbR hqq (Int.natCast_nonneg _) (by (first | lia | omega)) (by rw [Int.toNat_natCast]; exact hw2) ?_
    walk_at "R"
    refine (r_atom Fn d5.sy d5.ok (sx_mem (by (first | lia | omega))) fun H6 A6 k a6 s6 ok6 o7 hk => ?_).x
    walk_at "T"
    refine ⟨by simp, ?_⟩
    refine q_next (w_nil (q_next (el_rest (form := form) (u := .a k) Fn pk (d5.mut pk s6 ok6 a6 (List.prefix_refl _) o7) hwl (el_a (by decide) (by decide) (len_lt hk)) ?_ ?_ ?_ ?_ ?_ fun t lo' H' A' F' q1 q2 q3 q4 q5 => hq t H' A' F' (a6.trans q1) q2 q3 ((o6.trans (o7.sub fun a ha => .tail _ ha)).trans q4) q5)))
    · rfl
    · rfl
    · rfl
    · rfl
    · rfl
  · walk_at "R"
    refine e_int (fun h2 => b_t ?_) fun h2 => b_f ?_
    · walk_at "T"
      refine ⟨by simp, ?_⟩
      refine q_next (w_nil (q_next (w_nil (q_next (el_rest (form := form) (u := .i 7) Fn pk d4 hwl (el_i (by decide) (by decide)) ?_ ?_ ?_ ?_ ?_ fun t lo' H' A' F' q1 q2 q3 q4 q5 => hq t H' A' F' q1 q2 q3 (o5.trans q4) q5)))))
      · rfl
      · rfl
      · rfl
      · rfl
      · rfl
    · walk_at "R"
      refine bi2 (b_ifd (fun h3 => ?_) fun h3 => ?_)
      · have ei : ((ch : Nat) : Int) - 5 = ((ch - 5 : Nat) : Int) := by (first | lia | omega)
        walk_at "R"
        refine bi2 ?_
        walk_at "T"
        refine ⟨by simp, ?_⟩
        rw [ei]
        refine q_next (w_nil (q_next (w_nil (q_next (w_nil (q_next (el_rest (form := form) (u := .v (ch - 5)) Fn pk d4 hwl (el_v (by decide) (by decide) (by (first | lia | omega))) ?_ ?_ ?_ ?_ ?_ fun t lo' H' A' F' q1 q2 q3 q4 q5 => hq t H' A' F' q1 q2 q3 (o5.trans q4) q5)))))))
        · rfl
        · rfl
        · rfl
        · rfl
        · rfl
      · walk_at "R"
        refine (r_func (r := 1) Fn d4.sy d4.ok (sx_mem (by decide)) (by decide) fun H6 A6 F6 k a6 f6 s6 ok6 o7 hk => ?_).x
        walk_at "T"
        refine ⟨by simp, ?_⟩
        walk_at "T"
        refine ⟨by simp, ?_⟩
        walk_at "T"
        refine ⟨by simp, ?_⟩
        obtain ⟨a, ha, _⟩ := hk
        have d6 := d4.mut pk s6 ok6 a6 f6 o7
        have hu : ElT A6 F6 (.s k [.v 2]) 2 3 := ⟨⟨⟨a, ha⟩, fun e => absurd e (d6.bs.ne0 ha (by decide)), (show 2 < 3 by decide), trivial⟩, ⟨trivial, trivial⟩, by simp [tsz, tszs], by simp [dep, deps]⟩
        refine q_next (w_nil (q_next (w_nil (q_next (w_nil (q_next (el_rest (form := form) (u := .s k [.v 2]) Fn pk d6 hwl hu ?_ ?_ ?_ ?_ ?_ fun t lo' H' A' F' q1 q2 q3 q4 q5 => hq t H' A' F' (a6.trans q1) (f6.trans q2) q3 ((o5.trans (o7.sub fun a ha => .tail _ ha)).trans q4) q5)))))))
        · rfl
        · rfl
        · rfl
        · rfl
        · simp [tmV, tmVs]; rfl
end

set_option maxHeartbeats 1000000

mutual
theorem plain_tm : ∀ {t : Tm} {n : Nat}, dep t ≤ n → plain n (tmV t) = true
  | .a _, n + 1, _ => by rw [tmV]; show (true && _) = true; simp [plain, sx_ok 30 (by decide)]
  | .v _, n + 1, _ => by rw [tmV]; simp [plain, sx_ok 36 (by decide)]
  | .i _, n + 1, _ => by rw [tmV]; simp [plain, sx_ok 37 (by decide)]
  | .s f l, n + 2, h => by
    have := plain_tms (l := l) (n := n) (by rw [dep] at h; (first | lia | omega))
    rw [tmV]
    simp [plain, sx_ok 29 (by decide)]
    exact List.all_eq_true.mp this
  | .s _ _, 0, h => by rw [dep] at h; (first | lia | omega)
  | .s _ _, 1, h => by rw [dep] at h; (first | lia | omega)
  | .a _, 0, h => absurd h (Nat.not_succ_le_zero 0)
  | .v _, 0, h => absurd h (Nat.not_succ_le_zero 0)
  | .i _, 0, h => absurd h (Nat.not_succ_le_zero 0)
theorem plain_tms : ∀ {l : List Tm} {n : Nat}, deps l ≤ n → (tmVs l).all (plain n) = true
  | [], _, _ => rfl
  | t :: l, n, h => by
    rw [deps] at h
    rw [tmVs, List.all_cons, plain_tm (Nat.le_trans (Nat.le_max_left _ _) h), plain_tms (Nat.le_trans (Nat.le_max_right _ _) h)]; rfl
end
mutual
theorem dep_fol {tr : Nat} : ∀ t : Tm, dep (fol tr t) ≤ dep t
  | .a _ => Nat.le_refl _
  | .v k => by rw [fol]; split <;> exact Nat.le_refl 1
  | .i _ => Nat.le_refl _
  | .s f l => by rw [fol, dep, dep]; exact Nat.add_le_add_left (deps_fol l) 2
theorem deps_fol {tr : Nat} : ∀ l : List Tm, deps (fols tr l) ≤ deps l
  | [] => Nat.le_refl _
  | t :: l => by have h1 := dep_fol (tr := tr) t; have h2 := deps_fol (tr := tr) l; rw [fols, deps, deps]; (first | lia | omega)
end
mutual
theorem LaidAt.up {h : List Cl} {F F' : List FR} (hf : F <+: F') : ∀ {t : Tm} {b : Nat} {c : Cl}, LaidAt h F t b c → LaidAt h F' t b c
  | .v _, _, _, x => x
  | .a _, _, _, x => x
  | .i _, _, _, x => x
  | .s _ _, _, _, x => ⟨x.1, let ⟨a, ha⟩ := x.2.1; ⟨a, pre_get hf ha⟩, x.2.2.1, x.2.2.2.1, LaidL.up hf x.2.2.2.2⟩
theorem LaidL.up {h : List Cl} {F F' : List FR} (hf : F <+: F') : ∀ {l : List Tm} {b q : Nat}, LaidL h F l b q → LaidL h F' l b q
  | [], _, _, _ => trivial
  | _ :: _, _, _, x => ⟨let ⟨c, h1, h2⟩ := x.1; ⟨c, h1, LaidAt.up hf h2⟩, LaidL.up hf x.2⟩
end
mutual
theorem tsz_fol {tr : Nat} : ∀ t : Tm, tsz (fol tr t) ≤ tsz t
  | .a _ => Nat.le_refl _
  | .v k => by rw [fol]; split <;> exact Nat.le_refl 1
  | .i _ => Nat.le_refl _
  | .s f l => by rw [fol, tsz, tsz]; exact Nat.add_le_add_left (tszs_fol l) 1
theorem tszs_fol {tr : Nat} : ∀ l : List Tm, tszs (fols tr l) ≤ tszs l
  | [] => Nat.le_refl _
  | t :: l => by rw [fols, tszs, tszs]; exact Nat.add_le_add (tsz_fol t) (tszs_fol l)
end
theorem str_ok {s : Str} (hs : s ∈ sxl) : PyData.strOk s = true := by
  obtain ⟨i, hi, rfl⟩ := List.mem_iff_getElem.mp hs
  have := sx_ok i (by rw [← sxl_len]; exact hi)
  rwa [show sx i = sxl[i] by unfold sx; rw [List.getD_eq_getElem?_getD, List.getElem?_eq_getElem hi]; rfl] at this
/-- the law's world, with lists of its own -/
structure Ls (H : HM) (W : Ar) (A : List Str) (F : List FR) (h : List Cl) (ls : List (Addr × M)) : Prop where
  st : St H W A F h
  bs : Bs A F
  hd : Hd h 16
  ll : ∀ p ∈ ls, H p.1 = some p.2 ∧ p.1 ∉ W.all
  nt : ∀ p ∈ ls, p.2.nt = true
section
variable {prog : Program} {K : Frag} {H H' : HM} {Q : QV} {n : Nat} {W : Ar} {h : List Cl} {A A' : List Str} {F F' : List FR} {ls : List (Addr × M)}
theorem mut_W {a : Addr} (q : a ∈ W.L.y.mut) : a ∈ W.all := by
  unfold Ar.all
  exact List.mem_append_left _ (List.mem_append_right _ (mut_all q))
theorem Ls.off0 (s : Ls H W A F h ls) (o : Off [] H H') : Ls H' W A F h ls := ⟨s.st.off0 o, s.bs, s.hd, fun p hp => ⟨o _ _ (s.nt p hp) (by simp) (s.ll p hp).1, (s.ll p hp).2⟩, s.nt⟩
theorem Ls.mut (s : Ls H W A F h ls) (w : St H' W A' F' h) (ha : A <+: A') (hf : F <+: F') (o : Off W.L.y.mut H H') : Ls H' W A' F' h ls :=
  ⟨w, s.bs.up ha hf, s.hd, fun p hp => ⟨o _ _ (s.nt p hp) (fun q => (s.ll p hp).2 (mut_W q)) (s.ll p hp).1, (s.ll p hp).2⟩, s.nt⟩
theorem Ls.sym (s : Ls H W A F h ls) (sy : SyAt H' W.L.y A' F') (ok : SyOk A' F') (ha : A <+: A') (hf : F <+: F') (o : Off W.L.y.mut H H') : Ls H' W A' F' h ls := s.mut (s.st.offM o sy ok) ha hf o
theorem Ls.offL' (s : Ls H W A F h ls) {a : Addr} (o : Off [a] H H') (ha : a ∉ W.all) (hl : ∀ p ∈ ls, p.1 ≠ a) : Ls H' W A F h ls :=
  ⟨s.st.offL o fun x hx q => ha (List.mem_singleton.mp q ▸ hx), s.bs, s.hd, fun p hp => ⟨o _ _ (s.nt p hp) (fun q => hl p hp (List.mem_singleton.mp q)) (s.ll p hp).1, (s.ll p hp).2⟩, s.nt⟩
theorem Ls.less (s : Ls H W A F h ls) {ls' : List (Addr × M)} (hl : ∀ p ∈ ls', p ∈ ls) : Ls H W A F h ls' := ⟨s.st, s.bs, s.hd, fun p hp => s.ll p (hl p hp), fun p hp => s.nt p (hl p hp)⟩
theorem St.none (w : St H W A F h) {a : Addr} (ha : H a = none) : a ∉ W.all := fun q => by
  simp only [Ar.all, Sy.all, Ly.own, List.mem_append, List.mem_cons, List.mem_nil_iff, or_false] at q
  rcases q with ((rfl | rfl) | rfl | rfl | rfl | rfl | rfl | rfl) | rfl | rfl | rfl | rfl | rfl
  · first | exact (no w.ar.m ha).elim | exact (no ha w.ar.m).elim | obtain rfl := so w.ar.m ha | (rw [w.ar.m] at ha; cases ha)
  · first | exact (no w.ar.md ha).elim | exact (no ha w.ar.md).elim | obtain rfl := so w.ar.md ha | (rw [w.ar.md] at ha; cases ha)
  · first | exact (no w.sy.o ha).elim | exact (no ha w.sy.o).elim | obtain rfl := so w.sy.o ha | (rw [w.sy.o] at ha; cases ha)
  · first | exact (no w.sy.d ha).elim | exact (no ha w.sy.d).elim | obtain rfl := so w.sy.d ha | (rw [w.sy.d] at ha; cases ha)
  · first | exact (no w.sy.tx ha).elim | exact (no ha w.sy.tx).elim | obtain rfl := so w.sy.tx ha | (rw [w.sy.tx] at ha; cases ha)
  · first | exact (no w.sy.an ha).elim | exact (no ha w.sy.an).elim | obtain rfl := so w.sy.an ha | (rw [w.sy.an] at ha; cases ha)
  · first | exact (no w.sy.fs ha).elim | exact (no ha w.sy.fs).elim | obtain rfl := so w.sy.fs ha | (rw [w.sy.fs] at ha; cases ha)
  · first | exact (no w.sy.fn ha).elim | exact (no ha w.sy.fn).elim | obtain rfl := so w.sy.fn ha | (rw [w.sy.fn] at ha; cases ha)
  · first | exact (no w.st.st ha).elim | exact (no ha w.st.st).elim | obtain rfl := so w.st.st ha | (rw [w.st.st] at ha; cases ha)
  · first | exact (no w.st.sd ha).elim | exact (no ha w.st.sd).elim | obtain rfl := so w.st.sd ha | (rw [w.st.sd] at ha; cases ha)
  · first | exact (no w.st.hp ha).elim | exact (no ha w.st.hp).elim | obtain rfl := so w.st.hp ha | (rw [w.st.hp] at ha; cases ha)
  · first | exact (no w.st.sk ha).elim | exact (no ha w.st.sk).elim | obtain rfl := so w.st.sk ha | (rw [w.st.sk] at ha; cases ha)
  · first | exact (no w.st.tr ha).elim | exact (no ha w.st.tr).elim | obtain rfl := so w.st.tr ha | (rw [w.st.tr] at ha; cases ha)
theorem Ls.new (s : Ls H W A F h ls) {a : Addr} (ha : H a = none) (l : List V) : Ls (upd H a (.list l)) W A F h ((a, .list l) :: ls) :=
  have s' := s.off0 (Off.nw (.list l) ha)
  ⟨s'.st, s'.bs, s'.hd, fun p hp => by
    rcases List.mem_cons.mp hp with rfl | hp
    · exact ⟨upd_self _ _ _, s.st.none ha⟩
    · exact s'.ll p hp, fun p hp => by
    rcases List.mem_cons.mp hp with rfl | hp
    · rfl
    · exact s.nt p hp⟩
theorem Ls.notmut (s : Ls H W A F h ls) {p : Addr × M} (hp : p ∈ ls) : p.1 ∉ W.L.y.mut := fun q => (s.ll p hp).2 (mut_W q)
theorem l_take (Fn : Fns K) (s : Ls H W A F h ls) {t : Tm} (hT : tsz t ≤ 1000) {b : Nat} {c : Cl} (x : LaidAt h F t b c) (hq : ∀ H', Ls H' W A F h ls → Q (tmV (fol 16 t)) H') : CC prog (tab K) (n + 5) (.ref 482) [.ref W.m, clV c] H Q :=
  c_take Fn s.st.ar s.st.st (Nat.le_trans s.st.len (by decide)) s.st.sy s.st.ok s.hd hT x fun H' _ _ o => hq H' (s.off0 o)
/-- not law_ended(..) or take(..) != due -/
theorem l_same (Fn : Fns K) (s : Ls H W A F h ls) {t u : Tm} (hT : tsz t ≤ 1000) {b : Nat} {c : Cl} (x : LaidAt h F t b c) (e : fol 16 t = fol 16 u) (hd : dep u ≤ 60) {lo : Lo} {i j : Nat} (l8 : lo 8 = some (.ref W.m)) (li : lo i = some (clV (drC 16 c))) (lj : lo j = some (tmV (fol 16 u))) {X : Addr → HM → Prop} {R : Bool → HM → Prop}
    (hq : ∀ H', Ls H' W A F h ls → R false H') : wpB prog (tab K) (n + 5) X (.or (.not (.call 641 (.cons (.var 8) (.cons (.var i) .nil)))) (.cmp .NotEq (.meth (.var 8) 52 (.cons (.var i) .nil)) (.var j))) lo H R := by
  have wm := s.st.ar.m
  have wd := s.st.ar.md
  obtain ⟨t', x', e', _⟩ := x.dr (tr := 16)
  walk_at "R"
  refine (c_law_ended Fn s.st s.hd x ?_).x
  refine ⟨true, rfl, b_nt ?_⟩
  walk_at "R"
  have hT' : tsz t' ≤ 1000 := by
    by_cases hs : isS t
    · rw [‹isS t → t' = t› hs]; exact hT
    · have : ¬ isS t' := fun q => by
        have h1 := comp_no (tr := 16) x hs
        have h2 := (comp_yes (tr := 16) x' q).2
        first | exact (no h1 h2).elim | exact (no h2 h1).elim | obtain rfl := so h1 h2 | (rw [h1] at h2; cases h2)
      rw [tsz_no this]; decide
  refine (l_take Fn s hT' x' fun H1 s1 => ?_).x
  rw [e'.trans e]
  walk_at "R"
  have p := plain_tm (Nat.le_trans (dep_fol (tr := 16) u) hd)
  exact e_if p p (fun _ => hq H1 s1) fun q => absurd rfl q
/-- due[0] != 's' or len(due[2]) != 1 -/
theorem l_due {t : Tm} {lo : Lo} {i : Nat} (li : lo i = some (tmV t)) {X : Addr → HM → Prop} {R : Bool → HM → Prop} (hT : tsz t ≤ 1000) (h1 : (¬ ∃ f v, t = .s f [v]) → R true H) (h2 : ∀ f v, t = .s f [v] → R false H) :
    wpB prog (tab K) n X (.or (.cmp .NotEq (.sub (.var i) (.const (.int 0))) (.const (.str (sx 29)))) (.cmp .NotEq (.bcall .len (.cons (.sub (.var i) (.const (.int 2))) .nil)) (.const (.int 1)))) lo H R := by
  cases t with
  | a k =>
    rw [tmV] at li
    walk_at "R"
    refine sbI (by decide) (by decide) rfl ?_
    walk_at "R"
    exact e_str (by decide) (by decide) (fun q => absurd q (by decide)) fun _ => b_nf (h1 fun ⟨f, v, q⟩ => by cases q)
  | v k =>
    rw [tmV] at li
    walk_at "R"
    refine sbI (by decide) (by decide) rfl ?_
    walk_at "R"
    exact e_str (by decide) (by decide) (fun q => absurd q (by decide)) fun _ => b_nf (h1 fun ⟨f, v, q⟩ => by cases q)
  | i k =>
    rw [tmV] at li
    walk_at "R"
    refine sbI (by decide) (by decide) rfl ?_
    walk_at "R"
    exact e_str (by decide) (by decide) (fun q => absurd q (by decide)) fun _ => b_nf (h1 fun ⟨f, v, q⟩ => by cases q)
  | s f l =>
    have hl := tszs_len l
    rw [tsz] at hT
    rw [tmV, tmVs_map] at li
    walk_at "R"
    refine sbI (by decide) (by decide) rfl ?_
    walk_at "R"
    refine e_str (by decide) (by decide) (fun _ => b_nt ?_) fun q => absurd rfl q
    walk_at "R"
    refine sbI (by decide) (by decide) rfl ?_
    walk_at "R"
    refine .lenT (by rw [List.length_map]; (first | lia | omega)) ?_
    rw [List.length_map]
    walk_at "R"
    refine e_int (fun q => ?_) fun q => ?_
    · have e : l.length = 1 := by (first | lia | omega)
      match l, e with
      | [v], _ => exact h2 f v rfl
    · exact h1 fun ⟨g, v, e⟩ => by
        simp only [Tm.s.injEq] at e
        exact q (by rw [e.2]; rfl)
end

set_option maxHeartbeats 1000000

section
variable {prog : Program} {K : Frag} {H H' : HM} {Q : QV} {n : Nat} {W : Ar} {h : List Cl} {A A' : List Str} {F F' : List FR} {ls : List (Addr × M)}
/-- what the law's loop keeps -/
structure LoC (W : Ar) (ws : List Str) (kd : Str) (k0 : Nat) (lo : Lo) : Prop where
  l2 : lo 2 = some (.ref W.L.y.o)
  l6 : lo 6 = some (.tup (ws.map .str))
  l7 : lo 7 = some (.str kd)
  l8 : lo 8 = some (.ref W.m)
  l17 : lo 17 = some (.tup [.str (sx 22), tmV (ballT (.a k0))])
noncomputable def errV (t : Tm) : V := .tup [.str (sx 22), tmV (ballT t)]
theorem plain_err {t : Tm} (hd : dep t ≤ 40) : plain 60 (errV t) = true := by
  have := plain_tm (t := ballT t) (n := 59) (by unfold ballT; simp only [dep, deps]; (first | lia | omega))
  show ([V.str (sx 22), tmV (ballT t)].all (plain 59)) = true
  rw [List.all_cons, List.all_cons, this, show plain 59 (.str (sx 22)) = true from sx_ok 22 (by decide)]; rfl
theorem atom_fol {u : Tm} (b : Bs A F) (ha : AtT A u) {k : Nat} (e : fol 16 u = .a k) : k < A.length := by
  have h16 := len_lt (b.word (i := 16) (by decide))
  cases u with
  | a j => simp only [fol, Tm.a.injEq] at e; subst e; exact ha
  | v j =>
    rw [fol] at e
    split at e
    · simp only [Tm.a.injEq] at e; subst e; exact h16
    · cases e
  | i j => cases e
  | s f l => cases e
/-- the last test of an option: found is what is due -/
theorem law_fin {lo : Lo} {v : V} (l27 : lo 27 = some v) (l22 : lo 22 = some v) (hv : plain 60 v = true) {X : Addr → HM → Prop} {P : QS} (hP : P .next lo H) : wpSs prog (tab K) n X (.cons (.ite (.cmp .NotEq (.var 27) (.var 22)) (.cons (.ret (.const (.bool false))) .nil) .nil) .nil) lo H P := by
  walk_at "R"
  refine e_if hv hv (fun _ => b_nt ?_) fun q => absurd rfl q
  walk_at "R"
  exact hP
structure KeepL (lo lo' : Lo) : Prop where
  k : ∀ i, i < 20 → lo' i = lo i
theorem law_opt (Fn : Fns K) (hM : ExcMk K 51 48) (s : Ls H W A F h ls) {ws : List Str} {kd : Str} {k0 : Nat} {lo : Lo} (L : LoC W ws kd k0 lo) (hws : ∀ s ∈ ws, s ∈ sxl) (hkd : kd ∈ sxl) (hk0 : A[k0]? = some (sx 31))
    {t1 u : Tm} {b1 b' f a kf kc : Nat} {c1 cu : Cl} {st : Str} (x1 : LaidAt h F t1 b1 c1) (hT1 : tsz t1 ≤ 1000) (e1 : fol 16 t1 = .s f [fol 16 u]) (xu : LaidAt h F u b' cu) (hTu : tsz u ≤ 1000) (hdu : dep u ≤ 20) (hAu : AtT A u)
    (hf : F[f]? = some (a, 1)) (ha : A[a]? = some st) (hkf : IsF A F kf (sx 33) 2) (hkc : A[kc]? = some kd)
    (l20 : lo 20 = some (clV c1)) (l21 : lo 21 = some (tmV (.s f [fol 16 u]))) (l22 : lo 22 = some (errV (.s kf [.a kc, .s f [fol 16 u]]))) (l23 : lo 23 = some (.tup [.str (sx 45), .tup [.str st, clV (drC 16 cu)]]))
    {X : Addr → HM → Prop} {P : QS} (hP : ∀ lo' H' A' F', Ls H' W A' F' h ls → A <+: A' → F <+: F' → (∀ i, i < 20 → lo' i = lo i) → P .next lo' H') : wpSs prog (tab K) (n + 7) X (.cons (.asgn 25 (.sub (.sub (.var 21) (.const (.int 2))) (.const (.int 0)))) (.cons (.ite (.or (.cmp .NotEq (.sub (.var 23) (.const (.int 0))) (.const (.str (sx 45)))) (.cmp .NotEq (.sub (.sub (.var 23) (.const (.int 1))) (.const (.int 0))) (.meth (.var 2) 29 (.cons (.meth (.var 2) 32 (.cons (.sub (.var 21) (.const (.int 1))) .nil)) .nil)))) (.cons (.ret (.const (.bool false))) .nil) .nil) (.cons (.asgn 26 (.sub (.sub (.var 23) (.const (.int 1))) (.const (.int 1)))) (.cons (.ite (.or (.not (.call 641 (.cons (.var 8) (.cons (.var 26) .nil)))) (.cmp .NotEq (.meth (.var 8) 52 (.cons (.var 26) .nil)) (.var 25))) (.cons (.ret (.const (.bool false))) .nil) .nil) (.cons (.asgn 27 (.call 634 (.cons (.var 8) (.cons (.var 20) (.cons (.var 26) (.cons (.var 7) (.cons (.var 6) .nil))))))) (.cons (.ite (.cmp .Eq (.var 25) (.tup (.cons (.const (.str (sx 36))) (.cons (.const (.int 0)) .nil)))) (.cons (.asgn 22 (.var 17)) .nil) (.cons (.ite (.and (.cmp .Eq (.sub (.var 25) (.const (.int 0))) (.const (.str (sx 30)))) (.cmp .In (.meth (.var 2) 29 (.cons (.sub (.var 25) (.const (.int 1))) .nil)) (.var 6))) (.cons (.asgn 22 (.tup (.cons (.const (.str (sx 46))) (.cons (.meth (.var 2) 29 (.cons (.sub (.var 25) (.const (.int 1))) .nil)) .nil)))) .nil) .nil) .nil)) (.cons (.ite (.cmp .NotEq (.var 27) (.var 22)) (.cons (.ret (.const (.bool false))) .nil) .nil) .nil))))))) lo H P := by
  have l2 := L.l2
  have l6 := L.l6
  have l7 := L.l7
  have l8 := L.l8
  have l17 := L.l17
  have so := s.st.sy.o
  have sd := s.st.sy.d
  have wm := s.st.ar.m
  have wd := s.st.ar.md
  have hff := s.st.ok.flt hf
  have hal := len_lt ha
  have hA50 := s.st.ok.alen
  have hst : st ∈ sxl := s.st.ok.asub _ (List.mem_of_getElem? ha)
  have e21 : tmV (.s f [fol 16 u]) = .tup [.str (sx 29), .int f, .tup [tmV (fol 16 u)]] := by simp [tmV, tmVs]
  rw [e21] at l21
  walk_at "R"
  refine sbI (by decide) (by decide) rfl ?_
  walk_at "R"
  refine sbI (by decide) (by decide) rfl ?_
  walk_at "R"
  refine sbI (by decide) (by decide) rfl ?_
  walk_at "R"
  refine e_str (by decide) (by decide) (fun _ => b_nt ?_) fun q => absurd rfl q
  walk_at "R"
  refine sbI (by decide) (by decide) rfl ?_
  walk_at "R"
  refine sbI (by decide) (by decide) rfl ?_
  walk_at "R"
  refine sbI (by decide) (by decide) rfl ?_
  walk_at "R"
  refine (c_name Fn s.st.sy hf hff ?_).x
  walk_at "R"
  refine (c_text Fn s.st.sy ha (Nat.lt_of_lt_of_le hal (Nat.le_trans hA50 (by decide))) ?_).x
  walk_at "R"
  have ps : plain 60 (.str st) = true := str_ok hst
  refine e_if ps ps (fun _ => b_nt ?_) fun q => absurd rfl q
  walk_at "R"
  refine sbI (by decide) (by decide) rfl ?_
  walk_at "R"
  refine sbI (by decide) (by decide) rfl ?_
  refine q_next ?_
  refine w_cons (w_if ?_)
  refine l_same (u := u) Fn s hTu xu rfl (Nat.le_trans hdu (by decide)) ?_ ?_ ?_ fun H1 s1 => ?_
  · exact l8
  · rfl
  · rfl
  refine b_f ?_
  clear so sd wm wd s
  have so := s1.st.sy.o
  have sd := s1.st.sy.d
  have wm := s1.st.ar.m
  have wd := s1.st.ar.md
  walk_at "R"
  refine (c_law_word (tr := 16) Fn hM s1.st s1.hd hkd hT1 x1 xu (fun k e => atom_fol s1.bs hAu e) hws (fun k st2 e2 e3 e4 => ?_) fun v A2 F2 H2 w2 a2 f2 o2 hv => ?_).x
  · -- an allowed word
    walk_at "R"
    rw [e2]
    have hk1 := len_lt e3
    have hst2 : st2 ∈ sxl := hws _ e4
    walk_at "R"
    refine e_if (plain_tm (t := .a k) (by simp [dep])) (plain_tm (t := .v 0) (by simp [dep])) (fun q => ?_) fun _ => ?_
    · exfalso
      rw [tmV] at q
      simp only [V.tup.injEq, List.cons.injEq, V.str.injEq] at q
      exact absurd ((sx_inj (by decide) (by decide)).mp q.1) (by decide)
    refine b_f ?_
    rw [tmV]
    walk_at "R"
    refine sbI (by decide) (by decide) rfl ?_
    walk_at "R"
    refine e_str (by decide) (by decide) (fun _ => b_t ?_) fun q => absurd rfl q
    walk_at "R"
    refine sbI (by decide) (by decide) rfl ?_
    walk_at "R"
    refine (c_text Fn s1.st.sy e3 (Nat.lt_of_lt_of_le hk1 (Nat.le_trans hA50 (by decide))) ?_).x
    walk_at "R"
    refine .inr (.inr (.inl ⟨_, rfl, str_ok hst2, fun z hz => ?_, ?_⟩))
    · obtain ⟨s, hs, rfl⟩ := List.mem_map.mp hz
      exact str_ok (hws s hs)
    refine b_if (fun _ => ?_) fun q => absurd (List.mem_map.mpr ⟨_, e4, rfl⟩) (dec_f q)
    walk_at "R"
    refine sbI (by decide) (by decide) rfl ?_
    walk_at "R"
    refine (c_text Fn s1.st.sy e3 (Nat.lt_of_lt_of_le hk1 (Nat.le_trans hA50 (by decide))) ?_).x
    walk_at "T"
    refine ⟨by simp, ?_⟩
    refine q_next (w_nil (q_next (w_nil (q_next (law_fin (v := .tup [.str (sx 46), .str st2]) ?_ ?_ ?_ ?_)))))
    · rfl
    · rfl
    · show ([V.str (sx 46), V.str st2].all (plain 59)) = true
      rw [List.all_cons, List.all_cons, show plain 59 (.str (sx 46)) = true from sx_ok 46 (by decide), show plain 59 (.str st2) = true from str_ok hst2]; rfl
    · refine hP _ H1 A F s1 (List.prefix_refl _) (List.prefix_refl _) fun i hi => ?_
      unfold upN
      rw [if_neg (by (first | lia | omega)), if_neg (by (first | lia | omega)), if_neg (by (first | lia | omega)), if_neg (by (first | lia | omega))]
  · have s2 := s1.mut w2 a2 f2 o2
    clear so sd wm wd
    have so := s2.st.sy.o
    have sd := s2.st.sy.d
    walk_at "R"
    rcases hv with ⟨e2, k, hk, rfl⟩ | ⟨e2, e3, kf2, kc2, h1, h2, rfl⟩
    · -- a free argument
      have ek : k = k0 := get_inj s2.st.ok.a hk (pre_get a2 hk0)
      subst ek
      rw [e2]
      walk_at "R"
      refine e_if (plain_tm (t := .v 0) (by simp [dep])) (plain_tm (t := .v 0) (by simp [dep])) (fun _ => ?_) fun q => absurd rfl q
      refine b_t ?_
      refine w_cons (w_asgn (w_var (v := errV (.a k)) ?_ (q_next (w_nil (q_next (law_fin (v := errV (.a k)) ?_ ?_ (plain_err (by simp [dep])) ?_))))))
      · exact l17
      · rfl
      · rfl
      · refine hP _ H2 A2 F2 s2 a2 f2 fun i hi => ?_
        unfold upN
        rw [if_neg (by (first | lia | omega)), if_neg (by (first | lia | omega)), if_neg (by (first | lia | omega)), if_neg (by (first | lia | omega))]
    · -- no allowed word
      have hdf : dep (fol 16 u) ≤ 20 := Nat.le_trans (dep_fol u) hdu
      have q1 : kf2 = kf := h1.inj s2.st.ok (hkf.mono a2 f2)
      have q2 : kc2 = kc := get_inj s2.st.ok.a h2 (pre_get a2 hkc)
      subst q1 q2
      have fin : ∀ lo', (∀ i, i < 25 → lo' i = lo i) → lo' 27 = some (errV (.s kf2 [.a kc2, .s f [fol 16 u]])) → wpSs prog (tab K) (n + 7) X (.cons (.ite (.cmp .NotEq (.var 27) (.var 22)) (.cons (.ret (.const (.bool false))) .nil) .nil) .nil) lo' H2 P := fun lo' k1 k2 => by
        refine law_fin k2 (by rw [k1 22 (by decide)]; exact l22) (plain_err (by simp only [dep, deps]; (first | lia | omega))) (hP _ H2 A2 F2 s2 a2 f2 fun i hi => k1 i (by (first | lia | omega)))
      rw [e1]
      walk_at "R"
      refine e_if (plain_tm (t := fol 16 u) (Nat.le_trans hdf (by decide))) (plain_tm (t := .v 0) (by simp [dep])) (fun q => ?_) fun _ => ?_
      · exfalso
        have : ∀ t : Tm, tmV t = .tup [.str (sx 36), .int 0] → t = .v 0 := fun t e => by
          cases t with
          | v j =>
            rw [tmV] at e
            simp only [V.tup.injEq, List.cons.injEq, V.int.injEq, and_true, true_and] at e
            rw [show j = 0 by (first | lia | omega)]
          | _ =>
            rw [tmV] at e
            simp only [V.tup.injEq, List.cons.injEq, V.str.injEq] at e
            exact absurd ((sx_inj (by decide) (by decide)).mp e.1) (by decide)
        exact e2 (this _ q)
      refine b_f ?_
      have hAf : ∀ k, fol 16 u = .a k → k < A.length := fun k e => atom_fol s1.bs hAu e
      generalize fol 16 u = fu at *
      cases fu with
      | a k =>
        have hk1 := hAf k rfl
        have hk2 : A2[k]? = some A[k] := pre_get a2 (List.getElem?_eq_getElem hk1)
        have hno := e3 k _ rfl (List.getElem?_eq_getElem hk1)
        have hin : A[k] ∈ sxl := s1.st.ok.asub _ (List.getElem_mem hk1)
        rw [tmV]
        walk_at "R"
        refine sbI (by decide) (by decide) rfl ?_
        walk_at "R"
        refine e_str (by decide) (by decide) (fun _ => b_t ?_) fun q => absurd rfl q
        walk_at "R"
        refine sbI (by decide) (by decide) rfl ?_
        walk_at "R"
        refine (c_text Fn s2.st.sy hk2 (Nat.lt_of_lt_of_le hk1 (Nat.le_trans hA50 (by decide))) ?_).x
        walk_at "R"
        refine .inr (.inr (.inl ⟨_, rfl, str_ok hin, fun z hz => ?_, ?_⟩))
        · obtain ⟨s, hs, rfl⟩ := List.mem_map.mp hz
          exact str_ok (hws s hs)
        refine b_if (fun q => ?_) fun q => ?_
        · exfalso
          obtain ⟨z, hz, ez⟩ := List.mem_map.mp (dec_t q)
          simp only [V.str.injEq] at ez
          exact hno (ez ▸ hz)
        refine w_nil (q_next (w_nil (q_next (fin _ (fun i hi => ?_) ?_))))
        · unfold upN
          rw [if_neg (by (first | lia | omega)), if_neg (by (first | lia | omega)), if_neg (by (first | lia | omega))]
        · rfl
      | v k =>
        rw [tmV]
        walk_at "R"
        refine sbI (by decide) (by decide) rfl ?_
        walk_at "R"
        refine e_str (by decide) (by decide) (fun q => absurd q (by decide)) fun _ => b_f (b_f ?_)
        refine w_nil (q_next (w_nil (q_next (fin _ (fun i hi => ?_) ?_))))
        · unfold upN
          rw [if_neg (by (first | lia | omega)), if_neg (by (first | lia | omega)), if_neg (by (first | lia | omega))]
        · rfl
      | i k =>
        rw [tmV]
        walk_at "R"
        refine sbI (by decide) (by decide) rfl ?_
        walk_at "R"
        refine e_str (by decide) (by decide) (fun q => absurd q (by decide)) fun _ => b_f (b_f ?_)
        refine w_nil (q_next (w_nil (q_next (fin _ (fun i hi => ?_) ?_))))
        · unfold upN
          rw [if_neg (by (first | lia | omega)), if_neg (by (first | lia | omega)), if_neg (by (first | lia | omega))]
        · rfl
      | s g l =>
        rw [tmV]
        walk_at "R"
        refine sbI (by decide) (by decide) rfl ?_
        walk_at "R"
        refine e_str (by decide) (by decide) (fun q => absurd q (by decide)) fun _ => b_f (b_f ?_)
        refine w_nil (q_next (w_nil (q_next (fin _ (fun i hi => ?_) ?_))))
        · unfold upN
          rw [if_neg (by (first | lia | omega)), if_neg (by (first | lia | omega)), if_neg (by (first | lia | omega))]
        · rfl
end

set_option maxHeartbeats 1000000

section
variable {prog : Program} {K : Frag} {H H' : HM} {Q : QV} {n : Nat} {W : Ar} {h : List Cl} {A A' : List Str} {F F' : List FR} {ls : List (Addr × M)}
theorem fol_s1 {tr f : Nat} {t v : Tm} (e : fol tr t = .s f [v]) : ∃ u, t = .s f [u] ∧ v = fol tr u := by
  cases t with
  | s g l =>
    rw [fol, fols_map] at e
    simp only [Tm.s.injEq] at e
    obtain ⟨rfl, e⟩ := e
    match l, e with
    | [u], e => exact ⟨u, rfl, by simpa using e.symm⟩
  | v k => rw [fol] at e; split at e <;> cases e
  | _ => cases e
theorem law_item (Fn : Fns K) (hM : ExcMk K 51 48) (s : Ls H W A F h ls) {ws : List Str} {kd : Str} {k0 : Nat} {lo : Lo} (L : LoC W ws kd k0 lo) (hws : ∀ s ∈ ws, s ∈ sxl) (hkd : kd ∈ sxl) (hk0 : A[k0]? = some (sx 31))
    {D Pn : Addr} {els : List Tm} {cs : List Cl} {i b : Nat} {e : Tm} {c : Cl} (hD : (D, M.list (cs.map fun c => clV (drC 16 c))) ∈ ls) (hPn : (Pn, M.list (els.map fun e => tmV (fol 16 e))) ∈ ls) (hi : els[i]? = some e) (hc : cs[i]? = some c) (hib : i < 1000000) (x : LaidAt h F e b c) (el : ElT A F e 5 5)
    (l14 : lo 14 = some (.ref Pn)) (l16 : lo 16 = some (.tup [.str (sx 44), .ref D])) (l18 : lo 18 = some (.int i))
    {X : Addr → HM → Prop} {P : QS} (hP : ∀ lo' H' A' F', Ls H' W A' F' h ls → A <+: A' → F <+: F' → (∀ i, i < 18 → lo' i = lo i) → P .next lo' H') : wpSs prog (tab K) (n + 8) X (.cons (.asgn 20 (.sub (.sub (.var 16) (.const (.int 1))) (.var 18))) (.cons (.asgn 21 (.sub (.var 14) (.var 18))) (.cons (.ite (.or (.not (.call 641 (.cons (.var 8) (.cons (.var 20) .nil)))) (.cmp .NotEq (.meth (.var 8) 52 (.cons (.var 20) .nil)) (.var 21))) (.cons (.ret (.const (.bool false))) .nil) .nil) (.cons (.asgn 22 (.call 613 (.cons (.var 2) (.cons (.const (.str (sx 33))) (.cons (.list (.cons (.tup (.cons (.const (.str (sx 30))) (.cons (.meth (.var 2) 28 (.cons (.var 7) .nil)) .nil))) (.cons (.var 21) .nil))) .nil))))) (.cons (.asgn 23 (.call 627 (.cons (.var 8) (.cons (.var 20) (.cons (.var 7) .nil))))) (.cons (.ite (.or (.cmp .NotEq (.sub (.var 21) (.const (.int 0))) (.const (.str (sx 29)))) (.cmp .NotEq (.bcall .len (.cons (.sub (.var 21) (.const (.int 2))) .nil)) (.const (.int 1)))) (.cons (.ite (.cmp .NotEq (.var 23) (.var 22)) (.cons (.ret (.const (.bool false))) .nil) .nil) .nil) (.cons (.asgn 25 (.sub (.sub (.var 21) (.const (.int 2))) (.const (.int 0)))) (.cons (.ite (.or (.cmp .NotEq (.sub (.var 23) (.const (.int 0))) (.const (.str (sx 45)))) (.cmp .NotEq (.sub (.sub (.var 23) (.const (.int 1))) (.const (.int 0))) (.meth (.var 2) 29 (.cons (.meth (.var 2) 32 (.cons (.sub (.var 21) (.const (.int 1))) .nil)) .nil)))) (.cons (.ret (.const (.bool false))) .nil) .nil) (.cons (.asgn 26 (.sub (.sub (.var 23) (.const (.int 1))) (.const (.int 1)))) (.cons (.ite (.or (.not (.call 641 (.cons (.var 8) (.cons (.var 26) .nil)))) (.cmp .NotEq (.meth (.var 8) 52 (.cons (.var 26) .nil)) (.var 25))) (.cons (.ret (.const (.bool false))) .nil) .nil) (.cons (.asgn 27 (.call 634 (.cons (.var 8) (.cons (.var 20) (.cons (.var 26) (.cons (.var 7) (.cons (.var 6) .nil))))))) (.cons (.ite (.cmp .Eq (.var 25) (.tup (.cons (.const (.str (sx 36))) (.cons (.const (.int 0)) .nil)))) (.cons (.asgn 22 (.var 17)) .nil) (.cons (.ite (.and (.cmp .Eq (.sub (.var 25) (.const (.int 0))) (.const (.str (sx 30)))) (.cmp .In (.meth (.var 2) 29 (.cons (.sub (.var 25) (.const (.int 1))) .nil)) (.var 6))) (.cons (.asgn 22 (.tup (.cons (.const (.str (sx 46))) (.cons (.meth (.var 2) 29 (.cons (.sub (.var 25) (.const (.int 1))) .nil)) .nil)))) .nil) .nil) .nil)) (.cons (.ite (.cmp .NotEq (.var 27) (.var 22)) (.cons (.ret (.const (.bool false))) .nil) .nil) .nil)))))))) .nil)))))) lo H P := by
  have l2 := L.l2
  have l7 := L.l7
  have l8 := L.l8
  have l6 := L.l6
  have l17 := L.l17
  have eT : tsz e ≤ 1000 := Nat.le_trans el.sz (by decide)
  have dF : dep (fol 16 e) ≤ 5 := Nat.le_trans (dep_fol e) el.dp
  walk_at "R"
  refine sbI (by decide) (by decide) rfl ?_
  walk_at "R"
  refine sbR (z := clV (drC 16 c)) (s.ll _ hD).1 (Int.natCast_nonneg _) (by (first | lia | omega)) (by rw [Int.toNat_natCast, List.getElem?_map, hc]; rfl) ?_
  walk_at "R"
  refine sbR (z := tmV (fol 16 e)) (s.ll _ hPn).1 (Int.natCast_nonneg _) (by (first | lia | omega)) (by rw [Int.toNat_natCast, List.getElem?_map, hi]; rfl) ?_
  refine q_next (w_cons (w_if ?_))
  refine l_same (u := e) (t := e) Fn s eT x rfl (Nat.le_trans el.dp (by decide)) ?_ ?_ ?_ fun H1 s1 => ?_
  · exact l8
  · rfl
  · rfl
  refine b_f ?_
  have so := s1.st.sy.o
  have sd := s1.st.sy.d
  walk_at "R"
  refine (r_atom Fn s1.st.sy s1.st.ok hkd fun H2 A2 kc a2 sy2 ok2 o2 hkc => ?_).x
  have s2 := s1.sym sy2 ok2 a2 (List.prefix_refl _) o2
  walk_at "R"
  walk_at "R"
  refine fun q hq => ?_
  have s3 := s2.new hq [tmV (.a kc), tmV (fol 16 e)]
  walk_at "R"
  refine (c_ball2 (t1 := .a kc) (t2 := fol 16 e) Fn s3.st.sy s3.st.ok (sx_mem (i := 33) (by decide)) (s3.ll _ (.head _)).1 (s3.notmut (.head _)) (plain_tm (by simp [dep])) (plain_tm (Nat.le_trans dF (by decide))) fun H4 A4 F4 kf a4 f4 sy4 ok4 o4 hkf => ?_).x
  have s4 := (s3.sym sy4 ok4 a4 f4 o4).less (ls' := ls) fun p hp => .tail _ hp
  have hkc4 : A4[kc]? = some kd := pre_get a4 hkc
  have hk04 : A4[k0]? = some (sx 31) := pre_get a4 (pre_get a2 hk0)
  have el4 := el.up (a2.trans a4) f4
  have x4 := x.up f4
  have a14 := a2.trans a4
  clear s s1 s2 s3 so sd sy2 ok2 sy4 ok4 o2 o4 hq hkc hk0 el a2 a4
  walk_at "R"
  obtain ⟨t', x', e', es'⟩ := x4.dr (tr := 16)
  have tS : isS t' → t' = e := fun z => by
    by_cases hs : isS e
    · exact es' hs
    · have h1 := comp_no (tr := 16) x4 hs
      have h2 := (comp_yes (tr := 16) x' z).2
      first | exact (no h1 h2).elim | exact (no h2 h1).elim | obtain rfl := so h1 h2 | (rw [h1] at h2; cases h2)
  have hT' : tsz t' ≤ 1000 := by
    by_cases z : isS t'
    · rw [tS z]; exact eT
    · rw [tsz_no z]; decide
  refine (c_law_parts (tr := 16) Fn hM s4.st s4.hd hkd hT' x' (fun p hp => (s4.st.ok.fsub p hp).1) (fun f u a st cu b' h1 h2 h3 h4 => ?_) fun u A5 F5 H5 w5 a5 f5 o5 hu => ?_).x
  · -- one argument
    subst h1
    have ee := tS trivial
    subst ee
    have hu1 := el4.at_
    have hu2 := el4.sz
    have hu3 := el4.dp
    simp only [AtT, AtL, and_true, tsz, tszs, dep, deps] at hu1 hu2 hu3
    have efe : fol 16 (.s f [u]) = .s f [fol 16 u] := by simp [fol, fols]
    refine q_next (w_cons (w_if ?_))
    refine l_due (t := fol 16 (.s f [u])) (i := 21) ?_ (Nat.le_trans (by rw [efe]; simp [tsz, tszs]; exact Nat.le_trans (Nat.add_le_add_left (tsz_fol u) 1) hu2) (show 5 ≤ 1000 by decide)) (fun z => absurd ⟨_, _, efe⟩ z) fun g v _ => ?_
    · rfl
    refine b_f ?_
    refine law_opt (t1 := .s f [u]) (u := u) (kf := kf) (kc := kc) Fn hM s4 (lo := _) (ws := ws) (kd := kd) (k0 := k0) ⟨?_, ?_, ?_, ?_, ?_⟩ hws hkd hk04 x' hT' efe h4 (by (first | lia | omega)) (by (first | lia | omega)) hu1 h2 h3 hkf hkc4 ?_ ?_ ?_ ?_ fun lo' H' A' F' q1 q2 q3 q4 => ?_
    · exact l2
    · exact l6
    · exact l7
    · exact l8
    · exact l17
    · rfl
    · show some (tmV (fol 16 (.s f [u]))) = _
      rw [efe]
    · show some (V.tup [.str (sx 22), tmV (ballT (.s kf [.a kc, fol 16 (.s f [u])]))]) = _
      rw [efe]; rfl
    · rfl
    · refine q_next (w_nil (hP lo' H' A' F' q1 (a14.trans q2) (f4.trans q3) fun j hj => ?_))
      rw [q4 j (by (first | lia | omega))]
      unfold upN
      rw [if_neg (by (first | lia | omega)), if_neg (by (first | lia | omega)), if_neg (by (first | lia | omega)), if_neg (by (first | lia | omega))]
  · -- no option
    obtain ⟨hno, kf2, kc2, g1, g2, rfl⟩ := hu
    have q1 : kf2 = kf := g1.inj w5.ok (hkf.mono a5 f5)
    have q2 : kc2 = kc := get_inj w5.ok.a g2 (pre_get a5 hkc4)
    subst q1 q2
    refine q_next (w_cons (w_if ?_))
    refine l_due (t := fol 16 e) (i := 21) ?_ (Nat.le_trans (tsz_fol e) eT) (fun _ => ?_) fun g v z => ?_
    · rfl
    · refine b_t ?_
      rw [e']
      walk_at "R"
      have pe : plain 60 (errV (.s kf2 [.a kc2, fol 16 e])) = true := plain_err (by simp only [dep, deps]; (first | lia | omega))
      refine e_if pe pe (fun _ => b_nt ?_) fun q => absurd rfl q
      walk_at "R"
      refine hP _ H5 A5 F5 (s4.mut w5 a5 f5 o5) (a14.trans a5) (f4.trans f5) fun j hj => ?_
      unfold upN
      rw [if_neg (by (first | lia | omega)), if_neg (by (first | lia | omega)), if_neg (by (first | lia | omega)), if_neg (by (first | lia | omega))]
    · exfalso
      obtain ⟨u, e1, _⟩ := fol_s1 (e'.trans z)
      exact hno ⟨g, u, e1⟩
end

set_option maxHeartbeats 1000000

section
variable {prog : Program} {K : Frag} {H H' : HM} {Q : QV} {n : Nat} {W : Ar} {h : List Cl} {A A' : List Str} {F F' : List FR} {ls : List (Addr × M)} {els : List Tm} {en : Tm}
theorem St.fresh (w : St H W A F h) {a : Addr} (ha : Fresh H a) : a ∉ W.all := fun q => by
  simp only [Ar.all, Sy.all, Ly.own, List.mem_append, List.mem_cons, List.mem_nil_iff, or_false] at q
  rcases q with ((rfl | rfl) | rfl | rfl | rfl | rfl | rfl | rfl) | rfl | rfl | rfl | rfl | rfl
  · exact ha _ rfl w.ar.m
  · exact ha _ rfl w.ar.md
  · exact ha _ rfl w.sy.o
  · exact ha _ rfl w.sy.d
  · exact ha _ rfl w.sy.tx
  · exact ha _ rfl w.sy.an
  · exact ha _ rfl w.sy.fs
  · exact ha _ rfl w.sy.fn
  · exact ha _ rfl w.st.st
  · exact ha _ rfl w.st.sd
  · exact ha _ rfl w.st.hp
  · exact ha _ rfl w.st.sk
  · exact ha _ rfl w.st.tr
theorem pl_cells : ∀ z ∈ h.map clV, plain 50 z = true := fun z hz => by
  obtain ⟨c, _, rfl⟩ := List.mem_map.mp hz
  exact clV_plain c
/-- the heap is as before -/
theorem l_heap (s : Ls H W A F h ls) {Bf : Addr} (hB : (Bf, M.list (h.map clV)) ∈ ls) {lo : Lo} (l8 : lo 8 = some (.ref W.m)) (l13 : lo 13 = some (.ref Bf)) {X : Addr → HM → Prop} (hq : Q (.bool true) H) :
    wpE prog (tab K) n X (.cmp .Eq (.attr (.attr (.var 8) 14) 2) (.var 13)) lo H Q := by
  have wm := s.st.ar.m
  have wd := s.st.ar.md
  have to := s.st.st.st
  have td := s.st.st.sd
  walk_at "R"
  exact e_list s.st.st.hp (s.ll _ hB).1 pl_cells pl_cells (fun _ => hq) fun q => absurd rfl q
theorem l_ret (s : Ls H W A F h ls) {Bf : Addr} (hB : (Bf, M.list (h.map clV)) ∈ ls) {lo : Lo} (l8 : lo 8 = some (.ref W.m)) (l13 : lo 13 = some (.ref Bf)) {v : V} (hv : plain 60 v = true) (l16 : lo 16 = some v) (l17 : lo 17 = some v) {X : Addr → HM → Prop} {P : QS} (hP : P (.ret (.bool true)) lo H) :
    wpSs prog (tab K) n X (.cons (.ret (.and (.cmp .Eq (.var 16) (.var 17)) (.cmp .Eq (.attr (.attr (.var 8) 14) 2) (.var 13)))) .nil) lo H P := by
  refine w_cons (w_ret (w_and (w_cmp (w_var l16 (w_var l17 (cm_eq (e_if hv hv (fun _ => ⟨true, rfl, ?_⟩) fun q => absurd rfl q)))))))
  rw [if_pos rfl]
  exact l_heap s hB l8 l13 (q_ret hP)
theorem tm_inj0 {t : Tm} (e : tmV t = .tup [.str (sx 36), .int 0]) : t = .v 0 := by
  cases t with
  | v j =>
    rw [tmV] at e
    simp only [V.tup.injEq, List.cons.injEq, V.int.injEq, and_true, true_and] at e
    rw [show j = 0 by (first | lia | omega)]
  | _ =>
    rw [tmV] at e
    simp only [V.tup.injEq, List.cons.injEq, V.str.injEq] at e
    exact absurd ((sx_inj (by decide) (by decide)).mp e.1) (by decide)
theorem tm_injA {t : Tm} (e : tmV t = .tup [.str (sx 30), .int 0]) : t = .a 0 := by
  cases t with
  | a j =>
    rw [tmV] at e
    simp only [V.tup.injEq, List.cons.injEq, V.int.injEq, and_true, true_and] at e
    rw [show j = 0 by (first | lia | omega)]
  | _ =>
    rw [tmV] at e
    simp only [V.tup.injEq, List.cons.injEq, V.str.injEq] at e
    exact absurd ((sx_inj (by decide) (by decide)).mp e.1) (by decide)
/-- what the law's end keeps -/
structure LoE (W : Ar) (els : List Tm) (en : Tm) (ws : List Str) (kd : Str) (Bf Pn : Addr) (lo : Lo) : Prop where
  l2 : lo 2 = some (.ref W.L.y.o)
  l6 : lo 6 = some (.tup (ws.map .str))
  l7 : lo 7 = some (.str kd)
  l8 : lo 8 = some (.ref W.m)
  l10 : lo 10 = some (tmV (lst en els))
  l13 : lo 13 = some (.ref Bf)
  l14 : lo 14 = some (.ref Pn)
  l15 : lo 15 = some (tmV (fol 16 en))
theorem dep_lst {en : Tm} (he : dep en ≤ 1) : ∀ {els : List Tm}, (∀ e ∈ els, dep e ≤ 5) → dep (lst en els) ≤ 2 * els.length + 5
  | [], _ => by rw [lst]; simp; (first | lia | omega)
  | e :: l, h => by
    have h1 := h e (.head _)
    have h2 := dep_lst he (els := l) fun x hx => h x (.tail _ hx)
    simp only [lst, dep, deps, List.length_cons]
    (first | lia | omega)
theorem tsz_lst {en : Tm} (he : tsz en ≤ 1) : ∀ {els : List Tm}, (∀ e ∈ els, tsz e ≤ 5) → tsz (lst en els) ≤ 6 * els.length + 1
  | [], _ => by rw [lst]; simp; (first | lia | omega)
  | e :: l, h => by
    have h1 := h e (.head _)
    have h2 := tsz_lst he (els := l) fun x hx => h x (.tail _ hx)
    simp only [lst, tsz, tszs, List.length_cons]
    (first | lia | omega)
structure ElsOk (A : List Str) (F : List FR) (els : List Tm) (en : Tm) : Prop where
  ten : ElT A F en 1 1
  ens : ¬ isS en
  tels : ∀ e ∈ els, ElT A F e 5 5
  len : els.length ≤ 5
theorem ElsOk.up (o : ElsOk A F els en) (ha : A <+: A') (hf : F <+: F') : ElsOk A' F' els en := ⟨o.ten.up ha hf, o.ens, fun e he => (o.tels e he).up ha hf, o.len⟩
theorem ElsOk.sz (o : ElsOk A F els en) : tsz (lst en els) ≤ 31 := by
  have := tsz_lst o.ten.sz fun e he => (o.tels e he).sz
  have := o.len
  (first | lia | omega)
theorem ElsOk.dp (o : ElsOk A F els en) : dep (lst en els) ≤ 15 := by
  have := dep_lst o.ten.dp fun e he => (o.tels e he).dp
  have := o.len
  (first | lia | omega)
/-- lacking = .. -/
theorem l_lack (Fn : Fns K) (s : Ls H W A F h ls) {lo : Lo} (l2 : lo 2 = some (.ref W.L.y.o)) {X : Addr → HM → Prop} {P : QS} (hP : ∀ H' A' k, Ls H' W A' F h ls → A <+: A' → A'[k]? = some (sx 31) → P .next (upN lo 17 (errV (.a k))) H') :
    wpS prog (tab K) (n + 3) X (.asgn 17 (.call 613 (.cons (.var 2) (.cons (.const (.str (sx 31))) (.cons (.list .nil) .nil))))) lo H P := by
  walk_at "R"
  refine fun q hq => ?_
  have s1 := s.new hq []
  walk_at "R"
  refine (c_ball0 Fn s1.st.sy s1.st.ok (sx_mem (i := 31) (by decide)) (s1.ll _ (.head _)).1 (s1.notmut (.head _)) fun H2 A2 k a2 sy2 ok2 o2 hk => ?_).x
  exact hP H2 A2 k ((s1.sym sy2 ok2 a2 (List.prefix_refl _) o2).less fun p hp => .tail _ hp) a2 hk
/-- last == ('v', 0) -/
theorem l_lastv {lo : Lo} {t : Tm} (l15 : lo 15 = some (tmV t)) (hd : dep t ≤ 60) {X : Addr → HM → Prop} {R : Bool → HM → Prop} (ht : t = .v 0 → R true H) (hf : t ≠ .v 0 → R false H) :
    wpB prog (tab K) n X (.cmp .Eq (.var 15) (.tup (.cons (.const (.str (sx 36))) (.cons (.const (.int 0)) .nil)))) lo H R := by
  walk_at "R"
  walk_at "R"
  exact e_if (plain_tm hd) (plain_tm (t := .v 0) (by simp [dep])) (fun q => ht (tm_inj0 q)) fun q => hf fun e => q (by rw [e, tmV]; rfl)
theorem l_lasta {lo : Lo} {t : Tm} (l15 : lo 15 = some (tmV t)) (hd : dep t ≤ 60) {X : Addr → HM → Prop} {R : Bool → HM → Prop} (ht : t = .a 0 → R false H) (hf : t ≠ .a 0 → R true H) :
    wpB prog (tab K) n X (.cmp .NotEq (.var 15) (.tup (.cons (.const (.str (sx 30))) (.cons (.const (.int 0)) .nil)))) lo H R := by
  walk_at "R"
  walk_at "R"
  exact e_if (plain_tm hd) (plain_tm (t := .a 0) (by simp [dep])) (fun q => ht (tm_injA q)) fun q => hf fun e => q (by rw [e, tmV]; rfl)
theorem dec_q {p : Prop} {i : Decidable p} {R : Bool → Prop} (ht : p → R true) (hf : ¬ p → R false) : R (@decide p i) := by
  cases i with
  | isTrue h => exact ht h
  | isFalse h => exact hf h
/-- ('v', 0) in plain -/
theorem l_in (s : Ls H W A F h ls) {Pn : Addr} (hPn : (Pn, M.list (els.map fun e => tmV (fol 16 e))) ∈ ls) (o : ElsOk A F els en) {lo : Lo} (l14 : lo 14 = some (.ref Pn)) {X : Addr → HM → Prop} {R : Bool → HM → Prop} (ht : (∃ e ∈ els, fol 16 e = .v 0) → R true H) (hf : (¬ ∃ e ∈ els, fol 16 e = .v 0) → R false H) :
    wpB prog (tab K) n X (.cmp .In (.tup (.cons (.const (.str (sx 36))) (.cons (.const (.int 0)) .nil))) (.var 14)) lo H R := by
  walk_at "R"
  walk_at "R"
  refine .inr (.inr (.inr ⟨Pn, _, rfl, (s.ll _ hPn).1, plain_tm (t := .v 0) (by simp [dep]), fun z hz => ?_, ?_⟩))
  · obtain ⟨e, he, rfl⟩ := List.mem_map.mp hz
    exact plain_tm (Nat.le_trans (dep_fol e) (Nat.le_trans (o.tels e he).dp (by decide)))
  · refine dec_q (R := fun b => R b H) (fun q => ht ?_) fun q => hf fun z => q ?_
    · obtain ⟨e, he, e1⟩ := List.mem_map.mp q
      exact ⟨e, he, tm_inj0 e1⟩
    · obtain ⟨e, he, e1⟩ := z
      exact List.mem_map.mpr ⟨e, he, by rw [e1, tmV]; rfl⟩
theorem law_err (Fn : Fns K) (s : Ls H W A F h ls) {ws : List Str} {kd : Str} {Bf Pn : Addr} {lo : Lo} (L : LoE W els en ws kd Bf Pn lo) (o : ElsOk A F els en) (hB : (Bf, M.list (h.map clV)) ∈ ls) (hPn : (Pn, M.list (els.map fun e => tmV (fol 16 e))) ∈ ls) {t : Tm} (ht : RowErr 16 els en A F t) (l16 : lo 16 = some (errV t))
    {X : Addr → HM → Prop} {P : QS} {fa : Addr} {fm : M} (hfa : (fa, fm) ∈ ls) (hP : ∀ lo' H', H' fa = some fm → P (.ret (.bool true)) lo' H') : wpSs prog (tab K) (n + 33) X (.cons (.asgn 17 (.call 613 (.cons (.var 2) (.cons (.const (.str (sx 31))) (.cons (.list .nil) .nil))))) (.cons (.ite (.cmp .Eq (.var 15) (.tup (.cons (.const (.str (sx 36))) (.cons (.const (.int 0)) .nil)))) (.cons (.ret (.and (.cmp .Eq (.var 16) (.var 17)) (.cmp .Eq (.attr (.attr (.var 8) 14) 2) (.var 13)))) .nil) .nil) (.cons (.ite (.cmp .NotEq (.var 15) (.tup (.cons (.const (.str (sx 30))) (.cons (.const (.int 0)) .nil)))) (.cons (.asgn 19 (.call 606 (.cons (.var 2) (.cons (.var 10) .nil)))) (.cons (.ret (.and (.cmp .Eq (.var 16) (.call 613 (.cons (.var 2) (.cons (.const (.str (sx 32))) (.cons (.list (.cons (.tup (.cons (.const (.str (sx 30))) (.cons (.meth (.var 2) 28 (.cons (.const (.str (sx 38))) .nil)) .nil))) (.cons (.var 19) .nil))) .nil))))) (.cmp .Eq (.attr (.attr (.var 8) 14) 2) (.var 13)))) .nil)) .nil) (.cons (.ite (.cmp .In (.tup (.cons (.const (.str (sx 36))) (.cons (.const (.int 0)) .nil))) (.var 14)) (.cons (.ret (.and (.cmp .Eq (.var 16) (.var 17)) (.cmp .Eq (.attr (.attr (.var 8) 14) 2) (.var 13)))) .nil) .nil) (.cons (.ite (.or (.cmp .NotEq (.sub (.var 16) (.const (.int 0))) (.const (.str (sx 44)))) (.cmp .NotEq (.bcall .len (.cons (.sub (.var 16) (.const (.int 1))) .nil)) (.bcall .len (.cons (.var 14) .nil)))) (.cons (.ret (.const (.bool false))) .nil) .nil) (.cons (.loop 18 (.range (.cons (.bcall .len (.cons (.var 14) .nil)) .nil)) (.cons (.asgn 20 (.sub (.sub (.var 16) (.const (.int 1))) (.var 18))) (.cons (.asgn 21 (.sub (.var 14) (.var 18))) (.cons (.ite (.or (.not (.call 641 (.cons (.var 8) (.cons (.var 20) .nil)))) (.cmp .NotEq (.meth (.var 8) 52 (.cons (.var 20) .nil)) (.var 21))) (.cons (.ret (.const (.bool false))) .nil) .nil) (.cons (.asgn 22 (.call 613 (.cons (.var 2) (.cons (.const (.str (sx 33))) (.cons (.list (.cons (.tup (.cons (.const (.str (sx 30))) (.cons (.meth (.var 2) 28 (.cons (.var 7) .nil)) .nil))) (.cons (.var 21) .nil))) .nil))))) (.cons (.asgn 23 (.call 627 (.cons (.var 8) (.cons (.var 20) (.cons (.var 7) .nil))))) (.cons (.ite (.or (.cmp .NotEq (.sub (.var 21) (.const (.int 0))) (.const (.str (sx 29)))) (.cmp .NotEq (.bcall .len (.cons (.sub (.var 21) (.const (.int 2))) .nil)) (.const (.int 1)))) (.cons (.ite (.cmp .NotEq (.var 23) (.var 22)) (.cons (.ret (.const (.bool false))) .nil) .nil) .nil) (.cons (.asgn 25 (.sub (.sub (.var 21) (.const (.int 2))) (.const (.int 0)))) (.cons (.ite (.or (.cmp .NotEq (.sub (.var 23) (.const (.int 0))) (.const (.str (sx 45)))) (.cmp .NotEq (.sub (.sub (.var 23) (.const (.int 1))) (.const (.int 0))) (.meth (.var 2) 29 (.cons (.meth (.var 2) 32 (.cons (.sub (.var 21) (.const (.int 1))) .nil)) .nil)))) (.cons (.ret (.const (.bool false))) .nil) .nil) (.cons (.asgn 26 (.sub (.sub (.var 23) (.const (.int 1))) (.const (.int 1)))) (.cons (.ite (.or (.not (.call 641 (.cons (.var 8) (.cons (.var 26) .nil)))) (.cmp .NotEq (.meth (.var 8) 52 (.cons (.var 26) .nil)) (.var 25))) (.cons (.ret (.const (.bool false))) .nil) .nil) (.cons (.asgn 27 (.call 634 (.cons (.var 8) (.cons (.var 20) (.cons (.var 26) (.cons (.var 7) (.cons (.var 6) .nil))))))) (.cons (.ite (.cmp .Eq (.var 25) (.tup (.cons (.const (.str (sx 36))) (.cons (.const (.int 0)) .nil)))) (.cons (.asgn 22 (.var 17)) .nil) (.cons (.ite (.and (.cmp .Eq (.sub (.var 25) (.const (.int 0))) (.const (.str (sx 30)))) (.cmp .In (.meth (.var 2) 29 (.cons (.sub (.var 25) (.const (.int 1))) .nil)) (.var 6))) (.cons (.asgn 22 (.tup (.cons (.const (.str (sx 46))) (.cons (.meth (.var 2) 29 (.cons (.sub (.var 25) (.const (.int 1))) .nil)) .nil)))) .nil) .nil) .nil)) (.cons (.ite (.cmp .NotEq (.var 27) (.var 22)) (.cons (.ret (.const (.bool false))) .nil) .nil) .nil)))))))) .nil))))))) (.cons (.ret (.and (.cmp .Eq (.attr (.attr (.var 8) 14) 2) (.var 13)) (.cmp .Eq (.attr (.attr (.var 8) 14) 4) (.list .nil)))) .nil))))))) lo H P := by
  have den : dep (fol 16 en) ≤ 60 := Nat.le_trans (dep_fol en) (Nat.le_trans o.ten.dp (by decide))
  refine w_cons (l_lack Fn s L.l2 fun H1 A1 k0 s1 a1 hk0 => q_next (w_cons (w_if ?_)))
  refine l_lastv (t := fol 16 en) ?_ den (fun e => ?_) fun e => ?_
  · exact L.l15
  · refine b_t ?_
    rcases ht with ⟨_, k, hk, rfl⟩ | ⟨q, _⟩ | ⟨q, _⟩
    · obtain rfl := get_inj s1.st.ok.a (pre_get a1 hk) hk0
      refine l_ret (v := errV (.a k)) s1 hB ?_ ?_ (plain_err (by simp [dep])) ?_ ?_ (q_ret (hP _ _ (s1.ll _ hfa).1))
      · exact L.l8
      · exact L.l13
      · exact l16
      · rfl
    · exact absurd e q
    · first | exact (no e q).elim | exact (no q e).elim | obtain rfl := so e q | (rw [e] at q; cases q)
  refine b_f (w_nil (q_next (w_cons (w_if ?_))))
  refine l_lasta (t := fol 16 en) ?_ den (fun e2 => ?_) fun e2 => ?_
  · exact L.l15
  · refine b_f (w_nil (q_next (w_cons (w_if ?_))))
    rcases ht with ⟨q, _⟩ | ⟨_, q, _⟩ | ⟨_, hfree, k, hk, rfl⟩
    · exact absurd q e
    · exact absurd e2 q
    obtain rfl := get_inj s1.st.ok.a (pre_get a1 hk) hk0
    refine l_in s1 hPn (o.up a1 (List.prefix_refl _)) ?_ (fun _ => ?_) fun q => absurd hfree q
    · exact L.l14
    refine b_t ?_
    refine l_ret (v := errV (.a k)) s1 hB ?_ ?_ (plain_err (by simp [dep])) ?_ ?_ (q_ret (hP _ _ (s1.ll _ hfa).1))
    · exact L.l8
    · exact L.l13
    · exact l16
    · rfl
  · refine b_t ?_
    rcases ht with ⟨q, _⟩ | ⟨_, _, kf, kc, h1, h2, rfl⟩ | ⟨q, _⟩
    · exact absurd q e
    · have l2 := L.l2
      have l8 := L.l8
      have l10 := L.l10
      have l13 := L.l13
      have szT := o.sz
      have dpT : dep (fol 16 (lst en els)) ≤ 15 := Nat.le_trans (dep_fol _) o.dp
      refine w_cons (w_asgn ?_)
      walk_at "R"
      refine (c_followed (n := n + 1) Fn s1.st.ok (s1.bs.word (by decide)) 31 (lst en els) szT (by decide) s1.st.sy fun H2 sy2 o2 => ?_).x
      have s2 := s1.sym sy2 s1.st.ok (List.prefix_refl _) (List.prefix_refl _) o2
      clear s1 sy2 o2
      refine q_next (w_cons (w_ret (w_and (w_cmp (w_var (v := errV (.s kf [.a kc, fol 16 (lst en els)])) ?_ ?_)))))
      · exact l16
      have so := s2.st.sy.o
      have sd := s2.st.sy.d
      walk_at "R"
      refine (r_atom Fn s2.st.sy s2.st.ok (sx_mem (i := 38) (by decide)) fun H3 A3 kc2 a3 sy3 ok3 o3 hkc => ?_).x
      have s3 := s2.sym sy3 ok3 a3 (List.prefix_refl _) o3
      walk_at "R"
      walk_at "R"
      refine fun q hq => ?_
      have s4 := s3.new hq [tmV (.a kc2), tmV (fol 16 (lst en els))]
      walk_at "R"
      refine (c_ball2 (t1 := .a kc2) (t2 := fol 16 (lst en els)) Fn s4.st.sy s4.st.ok (sx_mem (i := 32) (by decide)) (s4.ll _ (.head _)).1 (s4.notmut (.head _)) (plain_tm (by simp [dep])) (plain_tm (Nat.le_trans dpT (by decide))) fun H5 A5 F5 kf2 a5 f5 sy5 ok5 o5 hkf => ?_).x
      have s5 := (s4.sym sy5 ok5 a5 f5 o5).less (ls' := ls) fun p hp => .tail _ hp
      have aa := a1.trans (a3.trans a5)
      obtain rfl := hkf.inj ok5 (h1.mono aa f5)
      obtain rfl := get_inj ok5.a (pre_get a5 hkc) (pre_get aa h2)
      have pe : plain 60 (errV (.s kf2 [.a kc2, fol 16 (lst en els)])) = true := plain_err (by simp only [dep, deps]; (first | lia | omega))
      walk_at "R"
      refine e_if pe pe (fun _ => ?_) fun q => absurd rfl q
      refine ⟨true, rfl, ?_⟩
      rw [if_pos rfl]
      refine l_heap s5 hB ?_ ?_ (q_ret (q_ret (hP _ _ (s5.ll _ hfa).1)))
      · exact l8
      · exact l13
    · exact absurd q e2
theorem law_ok (Fn : Fns K) (hM : ExcMk K 51 48) (s : Ls H W A F h ls) {ws : List Str} {kd : Str} {Bf Pn D : Addr} {lo : Lo} (L : LoE W els en ws kd Bf Pn lo) (o : ElsOk A F els en) (hws : ∀ s ∈ ws, s ∈ sxl) (hkd : kd ∈ sxl) (hB : (Bf, M.list (h.map clV)) ∈ ls) (hPn : (Pn, M.list (els.map fun e => tmV (fol 16 e))) ∈ ls)
    {cs : List Cl} (hD : (D, M.list (cs.map fun c => clV (drC 16 c))) ∈ ls) (hE : Els h F els cs) (h1 : fol 16 en = .a 0) (h2 : ∀ e ∈ els, fol 16 e ≠ .v 0) (l16 : lo 16 = some (.tup [.str (sx 44), .ref D]))
    {X : Addr → HM → Prop} {P : QS} {fa : Addr} {fm : M} (hfa : (fa, fm) ∈ ls) (hP : ∀ lo' H', H' fa = some fm → P (.ret (.bool true)) lo' H') : wpSs prog (tab K) (n + 8) X (.cons (.asgn 17 (.call 613 (.cons (.var 2) (.cons (.const (.str (sx 31))) (.cons (.list .nil) .nil))))) (.cons (.ite (.cmp .Eq (.var 15) (.tup (.cons (.const (.str (sx 36))) (.cons (.const (.int 0)) .nil)))) (.cons (.ret (.and (.cmp .Eq (.var 16) (.var 17)) (.cmp .Eq (.attr (.attr (.var 8) 14) 2) (.var 13)))) .nil) .nil) (.cons (.ite (.cmp .NotEq (.var 15) (.tup (.cons (.const (.str (sx 30))) (.cons (.const (.int 0)) .nil)))) (.cons (.asgn 19 (.call 606 (.cons (.var 2) (.cons (.var 10) .nil)))) (.cons (.ret (.and (.cmp .Eq (.var 16) (.call 613 (.cons (.var 2) (.cons (.const (.str (sx 32))) (.cons (.list (.cons (.tup (.cons (.const (.str (sx 30))) (.cons (.meth (.var 2) 28 (.cons (.const (.str (sx 38))) .nil)) .nil))) (.cons (.var 19) .nil))) .nil))))) (.cmp .Eq (.attr (.attr (.var 8) 14) 2) (.var 13)))) .nil)) .nil) (.cons (.ite (.cmp .In (.tup (.cons (.const (.str (sx 36))) (.cons (.const (.int 0)) .nil))) (.var 14)) (.cons (.ret (.and (.cmp .Eq (.var 16) (.var 17)) (.cmp .Eq (.attr (.attr (.var 8) 14) 2) (.var 13)))) .nil) .nil) (.cons (.ite (.or (.cmp .NotEq (.sub (.var 16) (.const (.int 0))) (.const (.str (sx 44)))) (.cmp .NotEq (.bcall .len (.cons (.sub (.var 16) (.const (.int 1))) .nil)) (.bcall .len (.cons (.var 14) .nil)))) (.cons (.ret (.const (.bool false))) .nil) .nil) (.cons (.loop 18 (.range (.cons (.bcall .len (.cons (.var 14) .nil)) .nil)) (.cons (.asgn 20 (.sub (.sub (.var 16) (.const (.int 1))) (.var 18))) (.cons (.asgn 21 (.sub (.var 14) (.var 18))) (.cons (.ite (.or (.not (.call 641 (.cons (.var 8) (.cons (.var 20) .nil)))) (.cmp .NotEq (.meth (.var 8) 52 (.cons (.var 20) .nil)) (.var 21))) (.cons (.ret (.const (.bool false))) .nil) .nil) (.cons (.asgn 22 (.call 613 (.cons (.var 2) (.cons (.const (.str (sx 33))) (.cons (.list (.cons (.tup (.cons (.const (.str (sx 30))) (.cons (.meth (.var 2) 28 (.cons (.var 7) .nil)) .nil))) (.cons (.var 21) .nil))) .nil))))) (.cons (.asgn 23 (.call 627 (.cons (.var 8) (.cons (.var 20) (.cons (.var 7) .nil))))) (.cons (.ite (.or (.cmp .NotEq (.sub (.var 21) (.const (.int 0))) (.const (.str (sx 29)))) (.cmp .NotEq (.bcall .len (.cons (.sub (.var 21) (.const (.int 2))) .nil)) (.const (.int 1)))) (.cons (.ite (.cmp .NotEq (.var 23) (.var 22)) (.cons (.ret (.const (.bool false))) .nil) .nil) .nil) (.cons (.asgn 25 (.sub (.sub (.var 21) (.const (.int 2))) (.const (.int 0)))) (.cons (.ite (.or (.cmp .NotEq (.sub (.var 23) (.const (.int 0))) (.const (.str (sx 45)))) (.cmp .NotEq (.sub (.sub (.var 23) (.const (.int 1))) (.const (.int 0))) (.meth (.var 2) 29 (.cons (.meth (.var 2) 32 (.cons (.sub (.var 21) (.const (.int 1))) .nil)) .nil)))) (.cons (.ret (.const (.bool false))) .nil) .nil) (.cons (.asgn 26 (.sub (.sub (.var 23) (.const (.int 1))) (.const (.int 1)))) (.cons (.ite (.or (.not (.call 641 (.cons (.var 8) (.cons (.var 26) .nil)))) (.cmp .NotEq (.meth (.var 8) 52 (.cons (.var 26) .nil)) (.var 25))) (.cons (.ret (.const (.bool false))) .nil) .nil) (.cons (.asgn 27 (.call 634 (.cons (.var 8) (.cons (.var 20) (.cons (.var 26) (.cons (.var 7) (.cons (.var 6) .nil))))))) (.cons (.ite (.cmp .Eq (.var 25) (.tup (.cons (.const (.str (sx 36))) (.cons (.const (.int 0)) .nil)))) (.cons (.asgn 22 (.var 17)) .nil) (.cons (.ite (.and (.cmp .Eq (.sub (.var 25) (.const (.int 0))) (.const (.str (sx 30)))) (.cmp .In (.meth (.var 2) 29 (.cons (.sub (.var 25) (.const (.int 1))) .nil)) (.var 6))) (.cons (.asgn 22 (.tup (.cons (.const (.str (sx 46))) (.cons (.meth (.var 2) 29 (.cons (.sub (.var 25) (.const (.int 1))) .nil)) .nil)))) .nil) .nil) .nil)) (.cons (.ite (.cmp .NotEq (.var 27) (.var 22)) (.cons (.ret (.const (.bool false))) .nil) .nil) .nil)))))))) .nil))))))) (.cons (.ret (.and (.cmp .Eq (.attr (.attr (.var 8) 14) 2) (.var 13)) (.cmp .Eq (.attr (.attr (.var 8) 14) 4) (.list .nil)))) .nil))))))) lo H P := by
  have den : dep (fol 16 en) ≤ 60 := Nat.le_trans (dep_fol en) (Nat.le_trans o.ten.dp (by decide))
  have hlen := o.len
  refine w_cons (l_lack Fn s L.l2 fun H1 A1 k0 s1 a1 hk0 => q_next (w_cons (w_if ?_)))
  refine l_lastv (t := fol 16 en) ?_ den (fun e => by first | exact (no h1 e).elim | exact (no e h1).elim | obtain rfl := so h1 e | (rw [h1] at e; cases e)) fun e => ?_
  · exact L.l15
  refine b_f (w_nil (q_next (w_cons (w_if ?_))))
  refine l_lasta (t := fol 16 en) ?_ den (fun e2 => ?_) fun e2 => absurd h1 e2
  · exact L.l15
  refine b_f (w_nil (q_next (w_cons (w_if ?_))))
  refine l_in s1 hPn (o.up a1 (List.prefix_refl _)) ?_ (fun q => ?_) fun _ => ?_
  · exact L.l14
  · obtain ⟨e, he, e3⟩ := q
    exact absurd e3 (h2 e he)
  have l14 := L.l14
  have l8 := L.l8
  refine b_f ?_
  walk_at "R"
  refine sbI (by decide) (by decide) rfl ?_
  walk_at "R"
  refine e_str (by decide) (by decide) (fun _ => b_nt ?_) fun q => absurd rfl q
  walk_at "R"
  refine sbI (by decide) (by decide) rfl ?_
  walk_at "R"
  refine lnR (s1.ll _ hD).1 (by rw [List.length_map, hE.len]; (first | lia | omega)) ?_
  walk_at "R"
  refine lnR (s1.ll _ hPn).1 (by rw [List.length_map]; (first | lia | omega)) ?_
  rw [List.length_map, List.length_map, hE.len]
  walk_at "R"
  refine e_int (fun _ => b_nt ?_) fun q => absurd rfl q
  walk_at "R"
  refine lnR (s1.ll _ hPn).1 (by rw [List.length_map]; (first | lia | omega)) ?_
  rw [List.length_map]
  walk_at "R"
  refine .inl ⟨_, rfl, Int.natCast_nonneg _, by (first | lia | omega), ?_⟩
  refine ⟨fun i lo' H' => (∀ j, j < 18 → lo' j = upN lo 17 (errV (.a k0)) j) ∧ ∃ A' F', Ls H' W A' F' h ls ∧ A1 <+: A' ∧ F <+: F', ⟨fun _ _ => rfl, A1, F, s1, List.prefix_refl _, List.prefix_refl _⟩, fun _ _ _ _ => trivial, fun i v lo' H2 J hv => ?_, fun lo' H2 J => ?_⟩
  · obtain ⟨hi, rfl⟩ := ranged_up hv
    obtain ⟨hlo, A2, F2, s2, a2, f2⟩ := J
    obtain ⟨e, he⟩ : ∃ e, els[i]? = some e := ⟨_, List.getElem?_eq_getElem hi⟩
    obtain ⟨c, b, hc, x⟩ := hE.get he
    have hk := fun j (hj : j < 18) => (show upN lo' 18 (.int (i : Nat)) j = upN lo 17 (errV (.a k0)) j from (by unfold upN; rw [if_neg (by (first | lia | omega))]; exact hlo j hj))
    refine law_item (i := i) (e := e) (c := c) (ws := ws) (kd := kd) (k0 := k0) Fn hM s2 ⟨?_, ?_, ?_, ?_, ?_⟩ hws hkd (pre_get a2 hk0) hD hPn he hc (by (first | lia | omega)) (x.up f2) ((o.tels e (List.mem_of_getElem? he)).up (a1.trans a2) f2) ?_ ?_ rfl fun lo3 H3 A3 F3 s3 a3 f3 k3 => ⟨fun j hj => (k3 j hj).trans (hk j hj), A3, F3, s3, a2.trans a3, f2.trans f3⟩
    · exact (hk 2 (by decide)).trans L.l2
    · exact (hk 6 (by decide)).trans L.l6
    · exact (hk 7 (by decide)).trans L.l7
    · exact (hk 8 (by decide)).trans L.l8
    · exact (hk 17 (by decide)).trans rfl
    · exact (hk 14 (by decide)).trans L.l14
    · exact (hk 16 (by decide)).trans l16
  · obtain ⟨hlo, A2, F2, s2, a2, f2⟩ := J
    have l8 : lo' 8 = some (.ref W.m) := (hlo 8 (by decide)).trans L.l8
    have l13 : lo' 13 = some (.ref Bf) := (hlo 13 (by decide)).trans L.l13
    refine q_next (w_cons (w_ret (w_and (l_heap s2 hB l8 l13 ⟨true, rfl, ?_⟩))))
    rw [if_pos rfl]
    have wm := s2.st.ar.m
    have wd := s2.st.ar.md
    have to := s2.st.st.st
    have td := s2.st.st.sd
    walk_at "R"
    refine fun q hq => ?_
    walk_at "R"
    refine e_list (nw hq s2.st.st.tr) (upd_self _ _ _) (by simp) (by simp) (fun _ => ?_) fun q => absurd rfl q
    exact hP _ _ (nw hq (s2.ll _ hfa).1)
end

set_option maxHeartbeats 1000000

section
variable {prog : Program} {K : Frag} {H H' : HM} {Q : QV} {n : Nat} {W : Ar} {h : List Cl} {A A' : List Str} {F F' : List FR} {ls : List (Addr × M)} {els : List Tm} {en : Tm}
theorem wf_lst (b : Bs A F) (he : WfT F en) : ∀ {els : List Tm}, (∀ e ∈ els, WfT F e) → WfT F (lst en els)
  | [], _ => he
  | e :: l, hl => ⟨⟨1, b.f0⟩, fun _ => rfl, hl e (.head _), wf_lst b he (fun x hx => hl x (.tail _ hx)), trivial⟩
theorem w_rev {T : Tab} {X : Addr → HM → Prop} {lo : Lo} {e i : E} (hh : wpE prog T n X e lo H fun x H1 => wpE prog T n X i lo H1 fun y H2 => ∃ l xs, x = .ref l ∧ H2 l = some (.list xs) ∧ xs.length ≤ 1000000 ∧ y = .int (-1) ∧ ∀ d, H2 d = none → Q (.ref d) (upd H2 d (.list xs.reverse))) : wpE prog T n X (.rev e i) lo H Q := hh
/-- the law, from the tree on -/
theorem law_3 (Fn : Fns K) (hM : ExcMk K 51 48) (s : Ls H W A F h ls) (h3 : h.length = 3) {ws : List Str} {kd : Str} {El d : Addr} {lo : Lo} (o : ElsOk A F els en) (hws : ∀ s ∈ ws, s ∈ sxl) (hkd : kd ∈ sxl) (hEl : (El, M.list (els.map tmV)) ∈ ls) (hd : H d = some (.dictI tblL))
    (l2 : lo 2 = some (.ref W.L.y.o)) (l4 : lo 4 = some (tmV en)) (l5 : lo 5 = some (.ref El)) (l6 : lo 6 = some (.tup (ws.map .str))) (l7 : lo 7 = some (.str kd)) (l8 : lo 8 = some (.ref W.m)) (l9 : lo 9 = some (.ref d))
    {X : Addr → HM → Prop} {P : QS} {fa : Addr} {fm : M} (hfa : (fa, fm) ∈ ls) (hP : ∀ lo' H', H' fa = some fm → P (.ret (.bool true)) lo' H') : wpSs prog (tab K) (n + 40) X (.cons (.asgn 10 (.var 4)) (.cons (.loop 11 (.seq (.rev (.var 5) (.neg (.const (.int 1))))) (.cons (.asgn 10 (.tup (.cons (.const (.str (sx 29))) (.cons (.const (.int 0)) (.cons (.tup (.cons (.var 11) (.cons (.var 10) .nil))) .nil))))) .nil)) (.cons (.asgn 12 (.meth (.attr (.var 8) 14) 48 (.cons (.var 10) (.cons (.var 9) .nil)))) (.cons (.asgn 13 (.bcall .list (.cons (.attr (.attr (.var 8) 14) 2) .nil))) (.cons (.asgnC 14 11 [2] (.seq (.var 5)) .none (.call 606 (.cons (.var 2) (.cons (.var 11) .nil)))) (.cons (.asgn 15 (.call 606 (.cons (.var 2) (.cons (.var 4) .nil)))) (.cons (.asgn 16 (.call 620 (.cons (.var 8) (.cons (.var 12) .nil)))) (.cons (.asgn 17 (.call 613 (.cons (.var 2) (.cons (.const (.str (sx 31))) (.cons (.list .nil) .nil))))) (.cons (.ite (.cmp .Eq (.var 15) (.tup (.cons (.const (.str (sx 36))) (.cons (.const (.int 0)) .nil)))) (.cons (.ret (.and (.cmp .Eq (.var 16) (.var 17)) (.cmp .Eq (.attr (.attr (.var 8) 14) 2) (.var 13)))) .nil) .nil) (.cons (.ite (.cmp .NotEq (.var 15) (.tup (.cons (.const (.str (sx 30))) (.cons (.const (.int 0)) .nil)))) (.cons (.asgn 19 (.call 606 (.cons (.var 2) (.cons (.var 10) .nil)))) (.cons (.ret (.and (.cmp .Eq (.var 16) (.call 613 (.cons (.var 2) (.cons (.const (.str (sx 32))) (.cons (.list (.cons (.tup (.cons (.const (.str (sx 30))) (.cons (.meth (.var 2) 28 (.cons (.const (.str (sx 38))) .nil)) .nil))) (.cons (.var 19) .nil))) .nil))))) (.cmp .Eq (.attr (.attr (.var 8) 14) 2) (.var 13)))) .nil)) .nil) (.cons (.ite (.cmp .In (.tup (.cons (.const (.str (sx 36))) (.cons (.const (.int 0)) .nil))) (.var 14)) (.cons (.ret (.and (.cmp .Eq (.var 16) (.var 17)) (.cmp .Eq (.attr (.attr (.var 8) 14) 2) (.var 13)))) .nil) .nil) (.cons (.ite (.or (.cmp .NotEq (.sub (.var 16) (.const (.int 0))) (.const (.str (sx 44)))) (.cmp .NotEq (.bcall .len (.cons (.sub (.var 16) (.const (.int 1))) .nil)) (.bcall .len (.cons (.var 14) .nil)))) (.cons (.ret (.const (.bool false))) .nil) .nil) (.cons (.loop 18 (.range (.cons (.bcall .len (.cons (.var 14) .nil)) .nil)) (.cons (.asgn 20 (.sub (.sub (.var 16) (.const (.int 1))) (.var 18))) (.cons (.asgn 21 (.sub (.var 14) (.var 18))) (.cons (.ite (.or (.not (.call 641 (.cons (.var 8) (.cons (.var 20) .nil)))) (.cmp .NotEq (.meth (.var 8) 52 (.cons (.var 20) .nil)) (.var 21))) (.cons (.ret (.const (.bool false))) .nil) .nil) (.cons (.asgn 22 (.call 613 (.cons (.var 2) (.cons (.const (.str (sx 33))) (.cons (.list (.cons (.tup (.cons (.const (.str (sx 30))) (.cons (.meth (.var 2) 28 (.cons (.var 7) .nil)) .nil))) (.cons (.var 21) .nil))) .nil))))) (.cons (.asgn 23 (.call 627 (.cons (.var 8) (.cons (.var 20) (.cons (.var 7) .nil))))) (.cons (.ite (.or (.cmp .NotEq (.sub (.var 21) (.const (.int 0))) (.const (.str (sx 29)))) (.cmp .NotEq (.bcall .len (.cons (.sub (.var 21) (.const (.int 2))) .nil)) (.const (.int 1)))) (.cons (.ite (.cmp .NotEq (.var 23) (.var 22)) (.cons (.ret (.const (.bool false))) .nil) .nil) .nil) (.cons (.asgn 25 (.sub (.sub (.var 21) (.const (.int 2))) (.const (.int 0)))) (.cons (.ite (.or (.cmp .NotEq (.sub (.var 23) (.const (.int 0))) (.const (.str (sx 45)))) (.cmp .NotEq (.sub (.sub (.var 23) (.const (.int 1))) (.const (.int 0))) (.meth (.var 2) 29 (.cons (.meth (.var 2) 32 (.cons (.sub (.var 21) (.const (.int 1))) .nil)) .nil)))) (.cons (.ret (.const (.bool false))) .nil) .nil) (.cons (.asgn 26 (.sub (.sub (.var 23) (.const (.int 1))) (.const (.int 1)))) (.cons (.ite (.or (.not (.call 641 (.cons (.var 8) (.cons (.var 26) .nil)))) (.cmp .NotEq (.meth (.var 8) 52 (.cons (.var 26) .nil)) (.var 25))) (.cons (.ret (.const (.bool false))) .nil) .nil) (.cons (.asgn 27 (.call 634 (.cons (.var 8) (.cons (.var 20) (.cons (.var 26) (.cons (.var 7) (.cons (.var 6) .nil))))))) (.cons (.ite (.cmp .Eq (.var 25) (.tup (.cons (.const (.str (sx 36))) (.cons (.const (.int 0)) .nil)))) (.cons (.asgn 22 (.var 17)) .nil) (.cons (.ite (.and (.cmp .Eq (.sub (.var 25) (.const (.int 0))) (.const (.str (sx 30)))) (.cmp .In (.meth (.var 2) 29 (.cons (.sub (.var 25) (.const (.int 1))) .nil)) (.var 6))) (.cons (.asgn 22 (.tup (.cons (.const (.str (sx 46))) (.cons (.meth (.var 2) 29 (.cons (.sub (.var 25) (.const (.int 1))) .nil)) .nil)))) .nil) .nil) .nil)) (.cons (.ite (.cmp .NotEq (.var 27) (.var 22)) (.cons (.ret (.const (.bool false))) .nil) .nil) .nil)))))))) .nil))))))) (.cons (.ret (.and (.cmp .Eq (.attr (.attr (.var 8) 14) 2) (.var 13)) (.cmp .Eq (.attr (.attr (.var 8) 14) 4) (.list .nil)))) .nil)))))))))))))) lo H P := by
  have hlen := o.len
  refine w_cons (w_asgn (w_var l4 (q_next (w_cons (w_loop (w_iseq (w_rev ?_)))))))
  have l5' : upN lo 10 (tmV en) 5 = some (.ref El) := l5
  walk_at "R"
  refine ⟨1, rfl, El, _, rfl, (s.ll _ hEl).1, by rw [List.length_map]; (first | lia | omega), rfl, fun q hq => ?_⟩
  have s1 := s.new hq (els.map tmV).reverse
  have hd1 := nw (m := .list (els.map tmV).reverse) hq hd
  clear s hd
  generalize upd H q (.list (els.map tmV).reverse) = H1 at *
  have hq1 := (s1.ll _ (.head _)).1
  refine SeqSrc.list hq1 ⟨fun i lo' H' => H' = H1 ∧ (∀ j, j < 10 → lo' j = lo j) ∧ lo' 10 = some (tmV (lst en (els.drop (els.length - i)))), ⟨rfl, fun j hj => ?_, ?_⟩, fun _ _ _ J => by rw [J.1]; exact hq1, fun i y lo' H' J hy => ?_, fun lo' H' J => ?_⟩
  · unfold upN; rw [if_neg (by (first | lia | omega))]
  · rw [Nat.sub_zero, List.drop_length]; rfl
  · obtain ⟨e1, k1, k2⟩ := J
    subst e1
    have hi : i < els.length := by have := len_lt hy; simpa using this
    rw [List.getElem?_reverse (by rw [List.length_map]; exact hi), List.length_map, List.getElem?_map] at hy
    obtain ⟨e, he, rfl⟩ := Option.map_eq_some_iff.mp hy
    have k10 : upN lo' 11 (tmV e) 10 = some (tmV (lst en (els.drop (els.length - i)))) := k2
    walk_at "R"
    walk_at "R"
    walk_at "R"
    refine ⟨rfl, fun j hj => ?_, ?_⟩
    · unfold upN; rw [if_neg (by (first | lia | omega)), if_neg (by (first | lia | omega))]; exact k1 j hj
    · have e2 : els.drop (els.length - (i + 1)) = e :: els.drop (els.length - i) := by
        rw [show els.length - (i + 1) = els.length - 1 - i by (first | lia | omega), show els.length - i = els.length - 1 - i + 1 by (first | lia | omega)]
        exact drop_one he
      rw [e2, lst]
      show some _ = some _
      simp [tmV, tmVs]
  obtain ⟨e1, k1, k2⟩ := J
  subst e1
  rw [List.length_reverse, List.length_map, Nat.sub_self, List.drop_zero] at k2
  have l2' := (k1 2 (by decide)).trans l2
  have l4' := (k1 4 (by decide)).trans l4
  have l5' := (k1 5 (by decide)).trans l5
  have l6' := (k1 6 (by decide)).trans l6
  have l7' := (k1 7 (by decide)).trans l7
  have l8' := (k1 8 (by decide)).trans l8
  have l9' := (k1 9 (by decide)).trans l9
  clear k1 l2 l4 l5 l6 l7 l8 l9
  have wm := s1.st.ar.m
  have wd := s1.st.ar.md
  have to := s1.st.st.st
  have td := s1.st.st.sd
  have sz := o.sz
  have cs := cst_le (lst en els)
  walk_at "R"
  refine (c_put_term (tr := 16) (T0 := lst en els) Fn s1.st.st s1.st.sy s1.st.ok s1.hd (wf_lst s1.bs o.ten.wf fun e he => (o.tels e he).wf) (Nat.le_trans sz (by decide)) (by rw [h3]; (first | lia | omega)) hd1 fun H2 h2 c t2 sy2 hd2 x2 len2 o2 => ?_).x
  have s2 : Ls H2 W A F h2 ls := by
    have hpne : ∀ a, a ∉ W.all → a ∉ [W.L.hp] := fun a ha q => ha (by rw [List.mem_singleton.mp q]; simp [Ar.all, Ly.own])
    have hm : W.m ∉ [W.L.hp] := fun q => by have e := List.mem_singleton.mp q; rw [e, s1.st.st.hp] at wm; cases wm
    have hmd : W.md ∉ [W.L.hp] := fun q => by have e := List.mem_singleton.mp q; rw [e, s1.st.st.hp] at wd; cases wd
    exact ⟨⟨s1.st.ar.off o2 hm hmd, sy2, s1.st.ok, t2, len2⟩, s1.bs, hd2, fun p hp => ⟨o2 _ _ (s1.nt p (.tail _ hp)) (hpne _ (s1.ll p (.tail _ hp)).2) (s1.ll p (.tail _ hp)).1, (s1.ll p (.tail _ hp)).2⟩, fun p hp => s1.nt p (.tail _ hp)⟩
  clear s1 hd1 to td wm wd t2 sy2 o2 hq1 hq
  have wm := s2.st.ar.m
  have wd := s2.st.ar.md
  have to := s2.st.st.st
  have td := s2.st.st.sd
  walk_at "R"
  refine bQ.lstL s2.st.st.hp (by rw [List.length_map]; (first | lia | omega)) (fun Bf hBf => ?_)
  have s3 := s2.new hBf (h2.map clV)
  clear s2 to td wm wd hBf
  generalize upd H2 Bf (.list (h2.map clV)) = H3 at *
  refine q_next (w_cons (w_asgnC ?_))
  refine w_iseq (w_var (v := .ref El) ?_ ?_)
  · exact l5'
  refine SeqSrc.list ((s3.ll _ (.tail _ hEl)).1) fun Pn hPn => ?_
  have hPna := s3.st.none hPn
  refine ⟨fun i ys H' => Ls H' W A F h2 ((Bf, M.list (h2.map clV)) :: ls) ∧ H' Pn = some (.list ys) ∧ ys = (els.take i).map fun e => tmV (fol 16 e), ⟨s3.off0 (Off.nw _ hPn), upd_self _ _ _, rfl⟩, fun i ys H' J => ⟨(J.1.ll _ (.tail _ hEl)).1, J.2.1, ?_⟩, fun i ys v H' J hv => ?_, fun ys H' J => ?_⟩
  · rw [J.2.2, List.length_map, List.length_take]; (first | lia | omega)
  · obtain ⟨e, he, rfl⟩ := get_tms hv
    refine w_tnone ?_
    rw [if_pos rfl]
    have eok := o.tels e (List.mem_of_getElem? he)
    refine w_call (w_lcons (w_var (v := .ref W.L.y.o) ?_ (w_lcons (w_var (v := tmV e) rfl (w_lnil ?_)))))
    · exact l2'
    refine (c_followed (n := n + 34) Fn J.1.st.ok (J.1.bs.word (by decide)) 5 e eok.sz (by decide) J.1.st.sy fun H4 sy4 o4 => ?_).x
    have s4 := J.1.sym sy4 J.1.st.ok (List.prefix_refl _) (List.prefix_refl _) o4
    refine ⟨o4 _ _ rfl (fun q => hPna (mut_W q)) J.2.1, s4.offL' (Off.wr (l := [Pn]) _ (by simp)) hPna (fun p hp e => ?_), upd_self _ _ _, ?_⟩
    · have := (s3.ll p hp).1
      rw [e, hPn] at this; cases this
    · rw [J.2.2, List.take_succ, he]; simp
  · obtain ⟨s4, hPn4, eys⟩ := J
    rw [List.length_map, List.take_length] at eys
    subst eys
    have s5 : Ls H' W A F h2 ((Pn, M.list (els.map fun e => tmV (fol 16 e))) :: (Bf, M.list (h2.map clV)) :: ls) := ⟨s4.st, s4.bs, s4.hd, fun p hp => by
      rcases List.mem_cons.mp hp with rfl | hp
      · exact ⟨hPn4, hPna⟩
      · exact s4.ll p hp, fun p hp => by
      rcases List.mem_cons.mp hp with rfl | hp
      · rfl
      · exact s4.nt p hp⟩
    clear s4 s3 hPn hPn4
    refine q_next (w_cons (w_asgn (w_call (w_lcons (w_var (v := .ref W.L.y.o) ?_ (w_lcons (w_var (v := tmV en) ?_ (w_lnil ?_))))))))
    · exact l2'
    · exact l4'
    refine (c_followed (n := n + 38) Fn s5.st.ok (s5.bs.word (by decide)) 1 en o.ten.sz (by decide) s5.st.sy fun H6 sy6 o6 => ?_).x
    have s6 := s5.sym sy6 s5.st.ok (List.prefix_refl _) (List.prefix_refl _) o6
    refine q_next (w_cons (w_asgn (w_call (w_lcons (w_var (v := .ref W.m) ?_ (w_lcons (w_var (v := clV c) rfl (w_lnil ?_))))))))
    · exact l8'
    refine (c_law_row (n := n + 33) (tr := 16) (els := els) (en := en) Fn hM s6.st s6.hd o.ens (Nat.le_trans o.len (by decide)) (Nat.le_trans o.sz (by decide)) x2 (fun e1 e2 D H7 cs7 hE fD hD o7 => ?_) fun t A7 F7 H7 w7 a7 f7 o7 ht => ?_).x
    · have s7 : Ls H7 W A F h2 ((D, M.list (cs7.map fun c => clV (drC 16 c))) :: (Pn, M.list (els.map fun e => tmV (fol 16 e))) :: (Bf, M.list (h2.map clV)) :: ls) := by
        have s7 := s6.off0 o7
        exact ⟨s7.st, s7.bs, s7.hd, fun p hp => by
          rcases List.mem_cons.mp hp with rfl | hp
          · exact ⟨hD, s6.st.fresh fD⟩
          · exact s7.ll p hp, fun p hp => by
          rcases List.mem_cons.mp hp with rfl | hp
          · rfl
          · exact s7.nt p hp⟩
      refine q_next (law_ok (n := n + 32) (ws := ws) (kd := kd) (Bf := Bf) (Pn := Pn) (D := D) Fn hM s7 ⟨?_, ?_, ?_, ?_, ?_, ?_, ?_, ?_⟩ o hws hkd (by simp) (by simp) (.head _) hE e1 e2 ?_ (.tail _ (.tail _ (.tail _ hfa))) hP)
      · exact l2'
      · exact l6'
      · exact l7'
      · exact l8'
      · exact k2
      · rfl
      · rfl
      · rfl
      · rfl
    · have s7 := s6.mut w7 a7 f7 o7
      refine q_next (law_err (n := n + 7) (ws := ws) (kd := kd) (Bf := Bf) (Pn := Pn) Fn s7 ⟨?_, ?_, ?_, ?_, ?_, ?_, ?_, ?_⟩ (o.up a7 f7) (by simp) (by simp) ht ?_ (.tail _ (.tail _ hfa)) hP)
      · exact l2'
      · exact l6'
      · exact l7'
      · exact l8'
      · exact k2
      · rfl
      · rfl
      · rfl
      · rfl
end

set_option maxHeartbeats 1000000

section
variable {prog : Program} {K : Frag} {H H' : HM} {Q : QV} {n : Nat} {W : Ar} {h : List Cl} {A A' : List Str} {F F' : List FR} {ls : List (Addr × M)} {els : List Tm} {en : Tm} {y : Sy} {P : Pl}
/-- while things are drawn, with lists of one's own -/
structure Dl (H : HM) (y : Sy) (P : Pl) (A : List Str) (F : List FR) (ls : List (Addr × M)) : Prop where
  dr : Dr H y P A F
  ll : ∀ p ∈ ls, H p.1 = some p.2 ∧ p.1 ∉ y.all ∧ p.1 ≠ P.p
  nt : ∀ p ∈ ls, p.2.nt = true
theorem Dl.step (s : Dl H y P A F ls) (d : Dr H' y P A' F') (o : Off (P.p :: y.mut) H H') : Dl H' y P A' F' ls := ⟨d, fun p hp =>
  have q := s.ll p hp
  ⟨o _ _ (s.nt p hp) (fun z => by
    rcases List.mem_cons.mp z with z | z
    · exact q.2.2 z
    · exact q.2.1 (mut_all z)) q.1, q.2⟩, s.nt⟩
theorem Dl.draw (s : Dl H y P A F ls) (pk : PlOk y P) (p : PlA H' P) (o : Off [P.p] H H') : Dl H' y P A F ls := s.step (s.dr.draw pk p o) (o.sub (by simp))
theorem SyAt.none (s : SyAt H y A F) {a : Addr} (ha : H a = none) : a ∉ y.all := fun q => by
  simp only [Sy.all, List.mem_cons, List.mem_nil_iff, or_false] at q
  rcases q with rfl | rfl | rfl | rfl | rfl | rfl
  · first | exact (no s.o ha).elim | exact (no ha s.o).elim | obtain rfl := so s.o ha | (rw [s.o] at ha; cases ha)
  · first | exact (no s.d ha).elim | exact (no ha s.d).elim | obtain rfl := so s.d ha | (rw [s.d] at ha; cases ha)
  · first | exact (no s.tx ha).elim | exact (no ha s.tx).elim | obtain rfl := so s.tx ha | (rw [s.tx] at ha; cases ha)
  · first | exact (no s.an ha).elim | exact (no ha s.an).elim | obtain rfl := so s.an ha | (rw [s.an] at ha; cases ha)
  · first | exact (no s.fs ha).elim | exact (no ha s.fs).elim | obtain rfl := so s.fs ha | (rw [s.fs] at ha; cases ha)
  · first | exact (no s.fn ha).elim | exact (no ha s.fn).elim | obtain rfl := so s.fn ha | (rw [s.fn] at ha; cases ha)
theorem Dl.new (s : Dl H y P A F ls) (pk : PlOk y P) {a : Addr} (ha : H a = none) (l : List V) : Dl (upd H a (.list l)) y P A F ((a, .list l) :: ls) := ⟨s.dr.off0 pk (Off.nw _ ha), fun p hp => by
  rcases List.mem_cons.mp hp with rfl | hp
  · refine ⟨upd_self _ _ _, s.dr.sy.none ha, fun e => ?_⟩
    obtain ⟨a1, i1, c1, q⟩ := s.dr.pl
    rw [show a = P.p from e, q.at_] at ha; cases ha
  · have q := s.ll p hp
    exact ⟨nw ha q.1, q.2⟩, fun p hp => by
  rcases List.mem_cons.mp hp with rfl | hp
  · rfl
  · exact s.nt p hp⟩
theorem Dl.wr (s : Dl H y P A F ls) (pk : PlOk y P) {a : Addr} (h1 : a ∉ y.all) (h2 : a ≠ P.p) (h3 : a ≠ P.sc) (hl : ∀ p ∈ ls, p.1 ≠ a) (l : List V) : Dl (upd H a (.list l)) y P A F ((a, .list l) :: ls) := ⟨⟨s.dr.sy.off (Off.wr (l := [a]) _ (by simp)) fun x hx q => h1 (List.mem_singleton.mp q ▸ hx), s.dr.ok, (let ⟨a1, i1, c1, q⟩ := s.dr.pl; ⟨a1, i1, c1, (upd_ne h2.symm).trans q.at_, (upd_ne h3.symm).trans q.sc, q.a, q.i, q.c⟩), s.dr.bs⟩, fun p hp => by
  rcases List.mem_cons.mp hp with rfl | hp
  · exact ⟨upd_self _ _ _, h1, h2⟩
  · have q := s.ll p hp
    exact ⟨(upd_ne (hl p hp)).trans q.1, q.2⟩, fun p hp => by
  rcases List.mem_cons.mp hp with rfl | hp
  · rfl
  · exact s.nt p hp⟩
theorem Dl.less (s : Dl H y P A F ls) {ls' : List (Addr × M)} (hl : ∀ p ∈ ls', p ∈ ls) : Dl H y P A F ls' := ⟨s.dr, fun p hp => s.ll p (hl p hp), fun p hp => s.nt p (hl p hp)⟩
/-- the elements are drawn -/
theorem law_els (Fn : Fns K) (pk : PlOk y P) (s : Dl H y P A F ls) {lo : Lo} (l1 : lo 1 = some (.ref P.p)) (l2 : lo 2 = some (.ref y.o)) {X : Addr → HM → Prop} {R : QS}
    (hR : ∀ El (els : List Tm) H' A' F', A <+: A' → F <+: F' → Dl H' y P A' F' ((El, M.list (els.map tmV)) :: ls) → els.length ≤ 5 → (∀ e ∈ els, ElT A' F' e 5 5) → R .next (upN lo 5 (.ref El)) H') :
    wpS prog (tab K) (n + 3) X (.asgnC 5 24 [1, 2] (.range (.cons (.call 594 (.cons (.var 1) (.cons (.const (.int 6)) .nil))) .nil)) .none (.call 601 (.cons (.var 1) (.cons (.var 2) .nil)))) lo H R := by
  refine w_asgnC (w_irange (w_lcons (w_call (w_lcons (w_var l1 (w_lcons (w_const (w_lnil ?_))))))))
  refine (c_draw (l := 6) Fn pk.ne pk.len s.dr.pl (by decide) (by decide) fun r hr H1 p1 o1 => ?_).x
  have s1 := s.draw pk p1 o1
  refine .inl ⟨_, rfl, Int.natCast_nonneg _, by (first | lia | omega), fun D hD => ?_⟩
  have s2 := s1.new pk hD []
  have hDn := s1.dr.sy.none hD
  have hDl : ∀ p ∈ ls, p.1 ≠ D := fun p hp e => by
    have := (s1.ll p hp).1
    rw [e, hD] at this; cases this
  have hDp := (s2.ll _ (.head _)).2.2
  have hDs : D ≠ P.sc := by
    obtain ⟨a1, i1, c1, q⟩ := p1
    rintro rfl
    first | exact (no q.sc hD).elim | exact (no hD q.sc).elim | obtain rfl := so q.sc hD | (rw [q.sc] at hD; cases hD)
  clear s s1 p1 o1 hD
  generalize upd H1 D (.list []) = H2 at *
  refine ⟨fun i ys H' => ∃ (A' : List Str) (F' : List FR) (els : List Tm), A <+: A' ∧ F <+: F' ∧ Dl H' y P A' F' ((D, M.list (els.map tmV)) :: ls) ∧ ys = els.map tmV ∧ els.length = i ∧ i ≤ r ∧ ∀ e ∈ els, ElT A' F' e 5 5, ⟨A, F, [], List.prefix_refl _, List.prefix_refl _, s2, rfl, rfl, Nat.zero_le _, fun _ q => absurd q List.not_mem_nil⟩, fun i ys H' J => ?_, fun i ys v H' J hv => ?_, fun ys H' J => ?_⟩
  · obtain ⟨A', F', els, _, _, s, rfl, rfl, hi, _⟩ := J
    exact ⟨trivial, (s.ll _ (.head _)).1, by rw [List.length_map]; (first | lia | omega)⟩
  · obtain ⟨hi, _⟩ := ranged_up hv
    obtain ⟨A', F', els, a1, f1, s, rfl, rfl, _, hels⟩ := J
    refine w_tnone ?_
    rw [if_pos rfl]
    refine w_call (w_lcons (w_var (v := .ref P.p) ?_ (w_lcons (w_var (v := .ref y.o) ?_ (w_lnil ?_)))))
    · exact l1
    · exact l2
    refine (c_element (n := n) Fn pk s.dr fun t H3 A3 F3 a3 f3 d3 o3 ht => ?_).x
    have s3 := s.step d3 o3
    have hs3 := s3.ll _ (.head _)
    refine ⟨hs3.1, A3, F3, els ++ [t], a1.trans a3, f1.trans f3, ?_, by rw [List.map_append]; rfl, by simp, by (first | lia | omega), fun e he => ?_⟩
    · have := (s3.less (ls' := ls) (fun p hp => .tail _ hp)).wr pk hs3.2.1 hs3.2.2 hDs hDl ((els ++ [t]).map tmV)
      rw [show els.map tmV ++ [tmV t] = (els ++ [t]).map tmV by rw [List.map_append]; rfl]
      exact this
    · rcases List.mem_append.mp he with he | he
      · exact (hels e he).up a3 f3
      · rw [List.mem_singleton.mp he]; exact ht
  · obtain ⟨A', F', els, a1, f1, s, rfl, hl, hi, hels⟩ := J
    exact hR D els H' A' F' a1 f1 s (by (first | lia | omega)) hels
theorem get3 {a b c : Nat} {r : Nat} (hr : r < 3) : ∃ w, ([.str (sx a), .str (sx b), .str (sx c)] : List V)[r]? = some (.str (sx w)) ∧ (w = a ∨ w = b ∨ w = c) := by
  have : r = 0 ∨ r = 1 ∨ r = 2 := by (first | lia | omega)
  rcases this with rfl | rfl | rfl
  · exact ⟨a, rfl, .inl rfl⟩
  · exact ⟨b, rfl, .inr (.inl rfl)⟩
  · exact ⟨c, rfl, .inr (.inr rfl)⟩
/-- the words are drawn -/
theorem law_words (Fn : Fns K) (pk : PlOk y P) (s : Dl H y P A F ls) {lo : Lo} (l1 : lo 1 = some (.ref P.p)) {X : Addr → HM → Prop} {R : QS}
    (hR : ∀ (ws : List Str) H', Dl H' y P A F ls → (∀ s ∈ ws, s ∈ sxl) → R .next (upN lo 6 (.tup (ws.map .str))) H') :
    wpS prog (tab K) (n + 1) X (.asgn 6 (.bcall .tuple (.cons (.comp 28 [1] (.seq (.list (.cons (.const (.str (sx 16))) (.cons (.const (.str (sx 18))) (.cons (.const (.str (sx 42))) .nil))))) (.some (.cmp .Eq (.call 594 (.cons (.var 1) (.cons (.const (.int 2)) .nil))) (.const (.int 0)))) (.var 28)) .nil))) lo H R := by
  refine w_asgn (w_bcall (w_lcons (w_iseq (w_list (w_lcons (w_const (w_lcons (w_const (w_lcons (w_const (w_lnil ⟨by simp, fun q hq => ?_⟩))))))))))) 
  have s1 := s.new pk hq [.str (sx 16), .str (sx 18), .str (sx 42)]
  clear s hq
  generalize upd H q (.list [.str (sx 16), .str (sx 18), .str (sx 42)]) = H1 at *
  refine SeqSrc.list ((s1.ll _ (.head _)).1) fun D hD => ?_
  have s2 := s1.new pk hD []
  have hDp := (s2.ll _ (.head _)).2
  have hDs : D ≠ P.sc := by
    obtain ⟨a1, i1, c1, q⟩ := s1.dr.pl
    rintro rfl
    first | exact (no q.sc hD).elim | exact (no hD q.sc).elim | obtain rfl := so q.sc hD | (rw [q.sc] at hD; cases hD)
  have hDl : ∀ p ∈ (q, M.list [.str (sx 16), .str (sx 18), .str (sx 42)]) :: ls, p.1 ≠ D := fun p hp e => by
    have := (s1.ll p hp).1
    rw [e, hD] at this; cases this
  clear s1 hD
  generalize upd H1 D (.list []) = H2 at *
  refine ⟨fun i ys H' => ∃ ws : List Str, Dl H' y P A F ((D, M.list (ws.map .str)) :: (q, M.list [.str (sx 16), .str (sx 18), .str (sx 42)]) :: ls) ∧ ys = ws.map .str ∧ ws.length ≤ i ∧ i ≤ 3 ∧ ∀ s ∈ ws, s ∈ sxl, ⟨[], s2, rfl, Nat.le_refl _, by decide, fun _ q => absurd q List.not_mem_nil⟩, fun i ys H' J => ?_, fun i ys v H' J hv => ?_, fun ys H' J => ?_⟩
  · obtain ⟨ws, s, rfl, h1, h2, _⟩ := J
    exact ⟨(s.ll _ (.tail _ (.head _))).1, (s.ll _ (.head _)).1, by rw [List.length_map]; (first | lia | omega)⟩
  · obtain ⟨ws, s, rfl, h1, h2, hws⟩ := J
    have hi : i < 3 := len_lt hv
    obtain ⟨w, hw, hw2⟩ := get3 (a := 16) (b := 18) (c := 42) hi
    rw [hw] at hv
    obtain rfl := Option.some.inj hv
    have hwx : sx w ∈ sxl := sx_mem (by (first | lia | omega))
    refine w_bcmp (w_call (w_lcons (w_var (v := .ref P.p) ?_ (w_lcons (w_const (w_lnil ?_))))))
    · exact l1
    refine (c_draw (l := 2) Fn pk.ne pk.len s.dr.pl (by decide) (by decide) fun r hr H3 p3 o3 => ?_).x
    have s3 := s.draw pk p3 o3
    refine w_const (cm_eq (e_int (fun _ => ?_) fun _ => ?_))
    · rw [if_pos rfl]
      have hs3 := s3.ll _ (.head _)
      refine w_var rfl ⟨hs3.1, ws ++ [sx w], ?_, by rw [List.map_append]; rfl, by rw [List.length_append]; exact Nat.succ_le_succ h1, hi, fun s hs => ?_⟩
      · have := (s3.less (ls' := (q, M.list [.str (sx 16), .str (sx 18), .str (sx 42)]) :: ls) fun p hp => .tail _ hp).wr pk hs3.2.1 hs3.2.2 hDs hDl ((ws ++ [sx w]).map .str)
        rw [show ws.map V.str ++ [.str (sx w)] = (ws ++ [sx w]).map .str by rw [List.map_append]; rfl]
        exact this
      · rcases List.mem_append.mp hs with hs | hs
        · exact hws s hs
        · rw [List.mem_singleton.mp hs]; exact hwx
    · rw [if_neg (by decide)]
      exact ⟨ws, s3, rfl, Nat.le_trans h1 (Nat.le_succ _), hi, hws⟩
  · obtain ⟨ws, s, rfl, h1, h2, hws⟩ := J
    refine w_lnil ?_
    refine bQ.tupL (s.ll _ (.head _)).1 (by rw [List.length_map]; exact Nat.le_trans h1 (by decide)) ?_
    exact hR ws H' (s.less fun p hp => .tail _ (.tail _ hp)) hws
end

set_option maxHeartbeats 1000000

section
variable {prog : Program} {K : Frag} {H H' H0 : HM} {Q : QV} {n : Nat} {W : Ar} {h : List Cl} {A A' : List Str} {F F' : List FR} {ls : List (Addr × M)} {els : List Tm} {en : Tm} {y : Sy} {P : Pl}
/-- while the table is made -/
structure Tb (H : HM) (W : Ar) (A : List Str) (F : List FR) (h : List Cl) (d : Addr) (tb : List (Int × V)) (ls : List (Addr × M)) : Prop where
  st : St H W A F h
  bs : Bs A F
  dd : H d = some (.dictI tb)
  ll : ∀ p ∈ ls, H p.1 = some p.2 ∧ p.1 ∉ W.all ∧ p.1 ≠ d
  nt : ∀ p ∈ ls, p.2.nt = true
variable {d : Addr} {tb : List (Int × V)}
theorem hp_all : W.L.hp ∈ W.all := by simp [Ar.all, Ly.own]
theorem Tb.hp (s : Tb H W A F h d tb ls) {h' : List Cl} (t : StAt H' W.L h') (o : Off [W.L.hp] H H') (len : h'.length ≤ 50000) : Tb H' W A F h' d tb ls := by
  have wm := s.st.ar.m
  have wd := s.st.ar.md
  have hm : W.m ∉ [W.L.hp] := fun q => by have e := List.mem_singleton.mp q; rw [e, s.st.st.hp] at wm; cases wm
  have hmd : W.md ∉ [W.L.hp] := fun q => by have e := List.mem_singleton.mp q; rw [e, s.st.st.hp] at wd; cases wd
  exact ⟨⟨s.st.ar.off o hm hmd, s.st.sy.offH s.st.st o, s.st.ok, t, len⟩, s.bs, o _ _ rfl (fun q => by have e := List.mem_singleton.mp q; have := s.dd; rw [e, s.st.st.hp] at this; cases this) s.dd, fun p hp => have q := s.ll p hp; ⟨o _ _ (s.nt p hp) (fun z => q.2.1 (List.mem_singleton.mp z ▸ hp_all)) q.1, q.2⟩, s.nt⟩
theorem Tb.ne (s : Tb H W A F h d tb ls) : ∀ a ∈ W.all, a ≠ d := fun a ha e => by
  subst e
  have hd := s.dd
  simp only [Ar.all, Sy.all, Ly.own, List.mem_append, List.mem_cons, List.mem_nil_iff, or_false] at ha
  rcases ha with ((rfl | rfl) | rfl | rfl | rfl | rfl | rfl | rfl) | rfl | rfl | rfl | rfl | rfl
  · first | exact (no s.st.ar.m hd).elim | exact (no hd s.st.ar.m).elim | obtain rfl := so s.st.ar.m hd | (rw [s.st.ar.m] at hd; cases hd)
  · first | exact (no s.st.ar.md hd).elim | exact (no hd s.st.ar.md).elim | obtain rfl := so s.st.ar.md hd | (rw [s.st.ar.md] at hd; cases hd)
  · first | exact (no s.st.sy.o hd).elim | exact (no hd s.st.sy.o).elim | obtain rfl := so s.st.sy.o hd | (rw [s.st.sy.o] at hd; cases hd)
  · first | exact (no s.st.sy.d hd).elim | exact (no hd s.st.sy.d).elim | obtain rfl := so s.st.sy.d hd | (rw [s.st.sy.d] at hd; cases hd)
  · first | exact (no s.st.sy.tx hd).elim | exact (no hd s.st.sy.tx).elim | obtain rfl := so s.st.sy.tx hd | (rw [s.st.sy.tx] at hd; cases hd)
  · first | exact (no s.st.sy.an hd).elim | exact (no hd s.st.sy.an).elim | obtain rfl := so s.st.sy.an hd | (rw [s.st.sy.an] at hd; cases hd)
  · first | exact (no s.st.sy.fs hd).elim | exact (no hd s.st.sy.fs).elim | obtain rfl := so s.st.sy.fs hd | (rw [s.st.sy.fs] at hd; cases hd)
  · first | exact (no s.st.sy.fn hd).elim | exact (no hd s.st.sy.fn).elim | obtain rfl := so s.st.sy.fn hd | (rw [s.st.sy.fn] at hd; cases hd)
  · first | exact (no s.st.st.st hd).elim | exact (no hd s.st.st.st).elim | obtain rfl := so s.st.st.st hd | (rw [s.st.st.st] at hd; cases hd)
  · first | exact (no s.st.st.sd hd).elim | exact (no hd s.st.st.sd).elim | obtain rfl := so s.st.st.sd hd | (rw [s.st.st.sd] at hd; cases hd)
  · first | exact (no s.st.st.hp hd).elim | exact (no hd s.st.st.hp).elim | obtain rfl := so s.st.st.hp hd | (rw [s.st.st.hp] at hd; cases hd)
  · first | exact (no s.st.st.sk hd).elim | exact (no hd s.st.st.sk).elim | obtain rfl := so s.st.st.sk hd | (rw [s.st.st.sk] at hd; cases hd)
  · first | exact (no s.st.st.tr hd).elim | exact (no hd s.st.st.tr).elim | obtain rfl := so s.st.st.tr hd | (rw [s.st.st.tr] at hd; cases hd)
theorem Tb.setD (s : Tb H W A F h d tb ls) (tb' : List (Int × V)) : Tb (upd H d (.dictI tb')) W A F h d tb' ls :=
  ⟨s.st.offL (Off.wr (l := [d]) _ (by simp)) fun a ha q => s.ne a ha (List.mem_singleton.mp q), s.bs, upd_self _ _ _, fun p hp => have q := s.ll p hp; ⟨(upd_ne q.2.2).trans q.1, q.2⟩, s.nt⟩
theorem Tb.mut (s : Tb H W A F h d tb ls) (sy : SyAt H' W.L.y A' F') (ok : SyOk A' F') (ha : A <+: A') (hf : F <+: F') (o : Off W.L.y.mut H H') : Tb H' W A' F' h d tb ls :=
  ⟨s.st.offM o sy ok, s.bs.up ha hf, o _ _ rfl (fun q => s.ne d (mut_W q) rfl) s.dd, fun p hp => have q := s.ll p hp; ⟨o _ _ (s.nt p hp) (fun z => q.2.1 (mut_W z)) q.1, q.2⟩, s.nt⟩
theorem new_var (Fn : Fns K) (s : Tb H W A F h d tb ls) (hl : h.length < 40000) (hq : ∀ H', Tb H' W A F (h ++ [(0, h.length)]) d tb ls → Q (clV (0, h.length)) H') : CC prog (tab K) (n + 2) (.ref 230) [.ref W.L.st] H Q :=
  c_new_var Fn s.st.st (Nat.lt_trans hl (by decide)) fun H1 t1 o1 => hq H1 (s.hp t1 o1 (by rw [List.length_append]; exact Nat.le_trans (Nat.succ_le_of_lt hl) (by decide)))
/-- the table and its cells -/
theorem law_tab (Fn : Fns K) (hM : ExcMk K 51 48) (w : St H W A F []) (b : Bs A F) {El : Addr} {els : List Tm} {en : Tm} {ws : List Str} {kd : Str} (o : ElsOk A F els en) (hws : ∀ s ∈ ws, s ∈ sxl) (hkd : kd ∈ sxl) (hE : ∀ p ∈ (El, M.list (els.map tmV)) :: ls, H p.1 = some p.2 ∧ p.1 ∉ W.all) (hnt : ∀ p ∈ ls, p.2.nt = true) {lo : Lo}
    (l2 : lo 2 = some (.ref W.L.y.o)) (l4 : lo 4 = some (tmV en)) (l5 : lo 5 = some (.ref El)) (l6 : lo 6 = some (.tup (ws.map .str))) (l7 : lo 7 = some (.str kd)) (l8 : lo 8 = some (.ref W.m))
    {X : Addr → HM → Prop} {P : QS} {fa : Addr} {fm : M} (hfa : (fa, fm) ∈ ls) (hP : ∀ lo' H', H' fa = some fm → P (.ret (.bool true)) lo' H') : wpSs prog (tab K) (n + 40) X (.cons (.asgn 9 (.dict3 (.const (.int 0)) (.meth (.attr (.var 8) 14) 35 .nil) (.const (.int 1)) (.meth (.attr (.var 8) 14) 35 .nil) (.const (.int 2)) (.meth (.attr (.var 8) 14) 35 .nil))) (.cons (.expr (.meth (.attr (.var 8) 14) 39 (.cons (.sub (.var 9) (.const (.int 1))) (.cons (.tup (.cons (.const (.int 4)) (.cons (.meth (.var 2) 28 (.cons (.const (.str (sx 16))) .nil)) .nil))) .nil)))) (.cons (.expr (.meth (.attr (.var 8) 14) 39 (.cons (.sub (.var 9) (.const (.int 2))) (.cons (.sub (.var 9) (.const (.int 0))) .nil)))) (.cons (.asgn 10 (.var 4)) (.cons (.loop 11 (.seq (.rev (.var 5) (.neg (.const (.int 1))))) (.cons (.asgn 10 (.tup (.cons (.const (.str (sx 29))) (.cons (.const (.int 0)) (.cons (.tup (.cons (.var 11) (.cons (.var 10) .nil))) .nil))))) .nil)) (.cons (.asgn 12 (.meth (.attr (.var 8) 14) 48 (.cons (.var 10) (.cons (.var 9) .nil)))) (.cons (.asgn 13 (.bcall .list (.cons (.attr (.attr (.var 8) 14) 2) .nil))) (.cons (.asgnC 14 11 [2] (.seq (.var 5)) .none (.call 606 (.cons (.var 2) (.cons (.var 11) .nil)))) (.cons (.asgn 15 (.call 606 (.cons (.var 2) (.cons (.var 4) .nil)))) (.cons (.asgn 16 (.call 620 (.cons (.var 8) (.cons (.var 12) .nil)))) (.cons (.asgn 17 (.call 613 (.cons (.var 2) (.cons (.const (.str (sx 31))) (.cons (.list .nil) .nil))))) (.cons (.ite (.cmp .Eq (.var 15) (.tup (.cons (.const (.str (sx 36))) (.cons (.const (.int 0)) .nil)))) (.cons (.ret (.and (.cmp .Eq (.var 16) (.var 17)) (.cmp .Eq (.attr (.attr (.var 8) 14) 2) (.var 13)))) .nil) .nil) (.cons (.ite (.cmp .NotEq (.var 15) (.tup (.cons (.const (.str (sx 30))) (.cons (.const (.int 0)) .nil)))) (.cons (.asgn 19 (.call 606 (.cons (.var 2) (.cons (.var 10) .nil)))) (.cons (.ret (.and (.cmp .Eq (.var 16) (.call 613 (.cons (.var 2) (.cons (.const (.str (sx 32))) (.cons (.list (.cons (.tup (.cons (.const (.str (sx 30))) (.cons (.meth (.var 2) 28 (.cons (.const (.str (sx 38))) .nil)) .nil))) (.cons (.var 19) .nil))) .nil))))) (.cmp .Eq (.attr (.attr (.var 8) 14) 2) (.var 13)))) .nil)) .nil) (.cons (.ite (.cmp .In (.tup (.cons (.const (.str (sx 36))) (.cons (.const (.int 0)) .nil))) (.var 14)) (.cons (.ret (.and (.cmp .Eq (.var 16) (.var 17)) (.cmp .Eq (.attr (.attr (.var 8) 14) 2) (.var 13)))) .nil) .nil) (.cons (.ite (.or (.cmp .NotEq (.sub (.var 16) (.const (.int 0))) (.const (.str (sx 44)))) (.cmp .NotEq (.bcall .len (.cons (.sub (.var 16) (.const (.int 1))) .nil)) (.bcall .len (.cons (.var 14) .nil)))) (.cons (.ret (.const (.bool false))) .nil) .nil) (.cons (.loop 18 (.range (.cons (.bcall .len (.cons (.var 14) .nil)) .nil)) (.cons (.asgn 20 (.sub (.sub (.var 16) (.const (.int 1))) (.var 18))) (.cons (.asgn 21 (.sub (.var 14) (.var 18))) (.cons (.ite (.or (.not (.call 641 (.cons (.var 8) (.cons (.var 20) .nil)))) (.cmp .NotEq (.meth (.var 8) 52 (.cons (.var 20) .nil)) (.var 21))) (.cons (.ret (.const (.bool false))) .nil) .nil) (.cons (.asgn 22 (.call 613 (.cons (.var 2) (.cons (.const (.str (sx 33))) (.cons (.list (.cons (.tup (.cons (.const (.str (sx 30))) (.cons (.meth (.var 2) 28 (.cons (.var 7) .nil)) .nil))) (.cons (.var 21) .nil))) .nil))))) (.cons (.asgn 23 (.call 627 (.cons (.var 8) (.cons (.var 20) (.cons (.var 7) .nil))))) (.cons (.ite (.or (.cmp .NotEq (.sub (.var 21) (.const (.int 0))) (.const (.str (sx 29)))) (.cmp .NotEq (.bcall .len (.cons (.sub (.var 21) (.const (.int 2))) .nil)) (.const (.int 1)))) (.cons (.ite (.cmp .NotEq (.var 23) (.var 22)) (.cons (.ret (.const (.bool false))) .nil) .nil) .nil) (.cons (.asgn 25 (.sub (.sub (.var 21) (.const (.int 2))) (.const (.int 0)))) (.cons (.ite (.or (.cmp .NotEq (.sub (.var 23) (.const (.int 0))) (.const (.str (sx 45)))) (.cmp .NotEq (.sub (.sub (.var 23) (.const (.int 1))) (.const (.int 0))) (.meth (.var 2) 29 (.cons (.meth (.var 2) 32 (.cons (.sub (.var 21) (.const (.int 1))) .nil)) .nil)))) (.cons (.ret (.const (.bool false))) .nil) .nil) (.cons (.asgn 26 (.sub (.sub (.var 23) (.const (.int 1))) (.const (.int 1)))) (.cons (.ite (.or (.not (.call 641 (.cons (.var 8) (.cons (.var 26) .nil)))) (.cmp .NotEq (.meth (.var 8) 52 (.cons (.var 26) .nil)) (.var 25))) (.cons (.ret (.const (.bool false))) .nil) .nil) (.cons (.asgn 27 (.call 634 (.cons (.var 8) (.cons (.var 20) (.cons (.var 26) (.cons (.var 7) (.cons (.var 6) .nil))))))) (.cons (.ite (.cmp .Eq (.var 25) (.tup (.cons (.const (.str (sx 36))) (.cons (.const (.int 0)) .nil)))) (.cons (.asgn 22 (.var 17)) .nil) (.cons (.ite (.and (.cmp .Eq (.sub (.var 25) (.const (.int 0))) (.const (.str (sx 30)))) (.cmp .In (.meth (.var 2) 29 (.cons (.sub (.var 25) (.const (.int 1))) .nil)) (.var 6))) (.cons (.asgn 22 (.tup (.cons (.const (.str (sx 46))) (.cons (.meth (.var 2) 29 (.cons (.sub (.var 25) (.const (.int 1))) .nil)) .nil)))) .nil) .nil) .nil)) (.cons (.ite (.cmp .NotEq (.var 27) (.var 22)) (.cons (.ret (.const (.bool false))) .nil) .nil) .nil)))))))) .nil))))))) (.cons (.ret (.and (.cmp .Eq (.attr (.attr (.var 8) 14) 2) (.var 13)) (.cmp .Eq (.attr (.attr (.var 8) 14) 4) (.list .nil)))) .nil))))))))))))))))) lo H P := by
  refine w_cons (w_asgn ?_)
  refine fun d hd => ?_
  have s0 : Tb (upd H d (.dictI [])) W A F [] d [] ((El, M.list (els.map tmV)) :: ls) := ⟨w.off0 (Off.nw _ hd), b, upd_self _ _ _, fun p hp => ⟨nw hd (hE p hp).1, (hE p hp).2, fun e => by have := (hE p hp).1; rw [e, hd] at this; cases this⟩, fun p hp => by
    rcases List.mem_cons.mp hp with rfl | hp
    · rfl
    · exact hnt p hp⟩
  clear w b hd hE hnt
  generalize upd H d (.dictI []) = H1 at *
  have wm := s0.st.ar.m
  have wd := s0.st.ar.md
  have to := s0.st.st.st
  have td := s0.st.st.sd
  walk_at "R"
  refine (new_var Fn s0 (by decide) fun H2 s2 => ?_).x
  clear wm wd to td s0
  have wm := s2.st.ar.m
  have wd := s2.st.ar.md
  have to := s2.st.st.st
  have td := s2.st.st.sd
  walk_at "R"
  refine (new_var Fn s2 (by decide) fun H3 s3 => ?_).x
  clear wm wd to td s2
  have wm := s3.st.ar.m
  have wd := s3.st.ar.md
  have to := s3.st.st.st
  have td := s3.st.st.sd
  walk_at "R"
  refine (new_var Fn s3 (by decide) fun H4 s4 => ?_).x
  refine ⟨0, 1, 2, rfl, rfl, rfl, s4.dd, ?_⟩
  have s5 := s4.setD tblL
  clear wm wd to td s3 s4
  rw [show mergeK [(0, clV (0, ([] : List Cl).length)), (1, clV (0, ([] ++ [(0, ([] : List Cl).length)] : List Cl).length)), (2, clV (0, ([] ++ [(0, ([] : List Cl).length)] ++ [(0, ([] ++ [(0, ([] : List Cl).length)] : List Cl).length)] : List Cl).length))] = tblL from rfl]
  generalize upd H4 d (.dictI tblL) = H5 at *
  have s6 : Tb H5 W A F [(0, 0), (0, 1), (0, 2)] d tblL ((El, M.list (els.map tmV)) :: ls) := s5
  clear s5
  have wm := s6.st.ar.m
  have wd := s6.st.ar.md
  have to := s6.st.st.st
  have td := s6.st.st.sd
  have so := s6.st.sy.o
  have sd := s6.st.sy.d
  walk_at "R"
  refine subV.dictI s6.dd (tbl_get (n := 1) (by decide)) ?_
  walk_at "R"
  refine (r_atom Fn s6.st.sy s6.st.ok (sx_mem (i := 16) (by decide)) fun H7 A7 k a7 sy7 ok7 o7 hk => ?_).x
  have s7 := s6.mut sy7 ok7 a7 (List.prefix_refl _) o7
  obtain rfl : k = 16 := get_inj ok7.a hk (s7.bs.word (by decide))
  walk_at "R"
  walk_at "R"
  refine (c_bind (p := 1) (v := (4, 16)) Fn s7.st.st (by decide) (by decide) fun H8 t8 o8 => ?_).x
  have s8 := s7.hp t8 o8 (by decide)
  have o8' := o.up a7 (List.prefix_refl F)
  clear wm wd to td so sd s6 s7 sy7 ok7 o7 hk t8 o8 o a7
  have wm := s8.st.ar.m
  have wd := s8.st.ar.md
  have to := s8.st.st.st
  have td := s8.st.st.sd
  walk_at "R"
  refine subV.dictI s8.dd (tbl_get (n := 2) (by decide)) ?_
  walk_at "R"
  refine subV.dictI s8.dd (tbl_get (n := 0) (by decide)) ?_
  walk_at "R"
  refine (c_bind (p := 2) (v := (0, 0)) Fn s8.st.st (by decide) (by decide) fun H9 t9 o9 => ?_).x
  have s9 := s8.hp t9 o9 (by decide)
  have S : Ls H9 W A7 F [(0, 0), (4, 16), (0, 0)] ((El, M.list (els.map tmV)) :: ls) := ⟨s9.st, s9.bs, ⟨rfl, rfl, rfl⟩, fun p hp => ⟨(s9.ll p hp).1, (s9.ll p hp).2.1⟩, s9.nt⟩
  refine q_next (law_3 Fn hM S rfl o8' hws hkd (.head _) s9.dd ?_ ?_ ?_ ?_ ?_ ?_ ?_ (.tail _ hfa) hP)
  · exact l2
  · exact l4
  · exact l5
  · exact l6
  · exact l7
  · exact l8
  · rfl
theorem law_2 (Fn : Fns K) (hM : ExcMk K 51 48) (pk : PlOk y P) (s : Dl H y P A F ls) {en : Tm} (hen : ElT A F en 1 1) (hens : ¬ isS en) {lo : Lo} (l1 : lo 1 = some (.ref P.p)) (l2 : lo 2 = some (.ref y.o)) (l4 : lo 4 = some (tmV en))
    {X : Addr → HM → Prop} {R : QS} {fa : Addr} {fm : M} (hfa : (fa, fm) ∈ ls) (hP : ∀ lo' H', H' fa = some fm → R (.ret (.bool true)) lo' H') : wpSs prog (tab K) (n + 40) X (.cons (.asgnC 5 24 [1, 2] (.range (.cons (.call 594 (.cons (.var 1) (.cons (.const (.int 6)) .nil))) .nil)) .none (.call 601 (.cons (.var 1) (.cons (.var 2) .nil)))) (.cons (.asgn 6 (.bcall .tuple (.cons (.comp 28 [1] (.seq (.list (.cons (.const (.str (sx 16))) (.cons (.const (.str (sx 18))) (.cons (.const (.str (sx 42))) .nil))))) (.some (.cmp .Eq (.call 594 (.cons (.var 1) (.cons (.const (.int 2)) .nil))) (.const (.int 0)))) (.var 28)) .nil))) (.cons (.asgn 7 (.sub (.list (.cons (.const (.str (sx 47))) (.cons (.const (.str (sx 48))) (.cons (.const (.str (sx 49))) .nil)))) (.call 594 (.cons (.var 1) (.cons (.const (.int 3)) .nil))))) (.cons (.asgn 8 (.call 583 (.cons (.var 2) (.cons (.list .nil) .nil)))) (.cons (.asgn 9 (.dict3 (.const (.int 0)) (.meth (.attr (.var 8) 14) 35 .nil) (.const (.int 1)) (.meth (.attr (.var 8) 14) 35 .nil) (.const (.int 2)) (.meth (.attr (.var 8) 14) 35 .nil))) (.cons (.expr (.meth (.attr (.var 8) 14) 39 (.cons (.sub (.var 9) (.const (.int 1))) (.cons (.tup (.cons (.const (.int 4)) (.cons (.meth (.var 2) 28 (.cons (.const (.str (sx 16))) .nil)) .nil))) .nil)))) (.cons (.expr (.meth (.attr (.var 8) 14) 39 (.cons (.sub (.var 9) (.const (.int 2))) (.cons (.sub (.var 9) (.const (.int 0))) .nil)))) (.cons (.asgn 10 (.var 4)) (.cons (.loop 11 (.seq (.rev (.var 5) (.neg (.const (.int 1))))) (.cons (.asgn 10 (.tup (.cons (.const (.str (sx 29))) (.cons (.const (.int 0)) (.cons (.tup (.cons (.var 11) (.cons (.var 10) .nil))) .nil))))) .nil)) (.cons (.asgn 12 (.meth (.attr (.var 8) 14) 48 (.cons (.var 10) (.cons (.var 9) .nil)))) (.cons (.asgn 13 (.bcall .list (.cons (.attr (.attr (.var 8) 14) 2) .nil))) (.cons (.asgnC 14 11 [2] (.seq (.var 5)) .none (.call 606 (.cons (.var 2) (.cons (.var 11) .nil)))) (.cons (.asgn 15 (.call 606 (.cons (.var 2) (.cons (.var 4) .nil)))) (.cons (.asgn 16 (.call 620 (.cons (.var 8) (.cons (.var 12) .nil)))) (.cons (.asgn 17 (.call 613 (.cons (.var 2) (.cons (.const (.str (sx 31))) (.cons (.list .nil) .nil))))) (.cons (.ite (.cmp .Eq (.var 15) (.tup (.cons (.const (.str (sx 36))) (.cons (.const (.int 0)) .nil)))) (.cons (.ret (.and (.cmp .Eq (.var 16) (.var 17)) (.cmp .Eq (.attr (.attr (.var 8) 14) 2) (.var 13)))) .nil) .nil) (.cons (.ite (.cmp .NotEq (.var 15) (.tup (.cons (.const (.str (sx 30))) (.cons (.const (.int 0)) .nil)))) (.cons (.asgn 19 (.call 606 (.cons (.var 2) (.cons (.var 10) .nil)))) (.cons (.ret (.and (.cmp .Eq (.var 16) (.call 613 (.cons (.var 2) (.cons (.const (.str (sx 32))) (.cons (.list (.cons (.tup (.cons (.const (.str (sx 30))) (.cons (.meth (.var 2) 28 (.cons (.const (.str (sx 38))) .nil)) .nil))) (.cons (.var 19) .nil))) .nil))))) (.cmp .Eq (.attr (.attr (.var 8) 14) 2) (.var 13)))) .nil)) .nil) (.cons (.ite (.cmp .In (.tup (.cons (.const (.str (sx 36))) (.cons (.const (.int 0)) .nil))) (.var 14)) (.cons (.ret (.and (.cmp .Eq (.var 16) (.var 17)) (.cmp .Eq (.attr (.attr (.var 8) 14) 2) (.var 13)))) .nil) .nil) (.cons (.ite (.or (.cmp .NotEq (.sub (.var 16) (.const (.int 0))) (.const (.str (sx 44)))) (.cmp .NotEq (.bcall .len (.cons (.sub (.var 16) (.const (.int 1))) .nil)) (.bcall .len (.cons (.var 14) .nil)))) (.cons (.ret (.const (.bool false))) .nil) .nil) (.cons (.loop 18 (.range (.cons (.bcall .len (.cons (.var 14) .nil)) .nil)) (.cons (.asgn 20 (.sub (.sub (.var 16) (.const (.int 1))) (.var 18))) (.cons (.asgn 21 (.sub (.var 14) (.var 18))) (.cons (.ite (.or (.not (.call 641 (.cons (.var 8) (.cons (.var 20) .nil)))) (.cmp .NotEq (.meth (.var 8) 52 (.cons (.var 20) .nil)) (.var 21))) (.cons (.ret (.const (.bool false))) .nil) .nil) (.cons (.asgn 22 (.call 613 (.cons (.var 2) (.cons (.const (.str (sx 33))) (.cons (.list (.cons (.tup (.cons (.const (.str (sx 30))) (.cons (.meth (.var 2) 28 (.cons (.var 7) .nil)) .nil))) (.cons (.var 21) .nil))) .nil))))) (.cons (.asgn 23 (.call 627 (.cons (.var 8) (.cons (.var 20) (.cons (.var 7) .nil))))) (.cons (.ite (.or (.cmp .NotEq (.sub (.var 21) (.const (.int 0))) (.const (.str (sx 29)))) (.cmp .NotEq (.bcall .len (.cons (.sub (.var 21) (.const (.int 2))) .nil)) (.const (.int 1)))) (.cons (.ite (.cmp .NotEq (.var 23) (.var 22)) (.cons (.ret (.const (.bool false))) .nil) .nil) .nil) (.cons (.asgn 25 (.sub (.sub (.var 21) (.const (.int 2))) (.const (.int 0)))) (.cons (.ite (.or (.cmp .NotEq (.sub (.var 23) (.const (.int 0))) (.const (.str (sx 45)))) (.cmp .NotEq (.sub (.sub (.var 23) (.const (.int 1))) (.const (.int 0))) (.meth (.var 2) 29 (.cons (.meth (.var 2) 32 (.cons (.sub (.var 21) (.const (.int 1))) .nil)) .nil)))) (.cons (.ret (.const (.bool false))) .nil) .nil) (.cons (.asgn 26 (.sub (.sub (.var 23) (.const (.int 1))) (.const (.int 1)))) (.cons (.ite (.or (.not (.call 641 (.cons (.var 8) (.cons (.var 26) .nil)))) (.cmp .NotEq (.meth (.var 8) 52 (.cons (.var 26) .nil)) (.var 25))) (.cons (.ret (.const (.bool false))) .nil) .nil) (.cons (.asgn 27 (.call 634 (.cons (.var 8) (.cons (.var 20) (.cons (.var 26) (.cons (.var 7) (.cons (.var 6) .nil))))))) (.cons (.ite (.cmp .Eq (.var 25) (.tup (.cons (.const (.str (sx 36))) (.cons (.const (.int 0)) .nil)))) (.cons (.asgn 22 (.var 17)) .nil) (.cons (.ite (.and (.cmp .Eq (.sub (.var 25) (.const (.int 0))) (.const (.str (sx 30)))) (.cmp .In (.meth (.var 2) 29 (.cons (.sub (.var 25) (.const (.int 1))) .nil)) (.var 6))) (.cons (.asgn 22 (.tup (.cons (.const (.str (sx 46))) (.cons (.meth (.var 2) 29 (.cons (.sub (.var 25) (.const (.int 1))) .nil)) .nil)))) .nil) .nil) .nil)) (.cons (.ite (.cmp .NotEq (.var 27) (.var 22)) (.cons (.ret (.const (.bool false))) .nil) .nil) .nil)))))))) .nil))))))) (.cons (.ret (.and (.cmp .Eq (.attr (.attr (.var 8) 14) 2) (.var 13)) (.cmp .Eq (.attr (.attr (.var 8) 14) 4) (.list .nil)))) .nil))))))))))))))))))))) lo H R := by
  refine w_cons (law_els (n := n + 37) Fn pk s l1 l2 fun El els H1 A1 F1 a1 f1 s1 hl hels => q_next ?_)
  have o1 : ElsOk A1 F1 els en := ⟨hen.up a1 f1, hens, hels, hl⟩
  refine w_cons (law_words (n := n + 39) Fn pk s1 ?_ fun ws H2 s2 hws => q_next ?_)
  · exact l1
  clear s s1
  have l1' : upN (upN lo 5 (.ref El)) 6 (.tup (ws.map .str)) 1 = some (.ref P.p) := l1
  walk_at "R"
  refine fun q hq => ?_
  have s3 := s2.new pk hq [.str (sx 47), .str (sx 48), .str (sx 49)]
  walk_at "R"
  refine (c_draw (l := 3) Fn pk.ne pk.len s3.dr.pl (by decide) (by decide) fun r hr H3 p3 o3 => ?_).x
  have s4 := s3.draw pk p3 o3
  obtain ⟨w, hw, hw2⟩ := get3 (a := 47) (b := 48) (c := 49) hr
  have hkd : sx w ∈ sxl := sx_mem (by (first | lia | omega))
  refine sbR (s4.ll _ (.head _)).1 (Int.natCast_nonneg _) (by (first | lia | omega)) (by rw [Int.toNat_natCast]; exact hw) ?_
  clear s3 s2 p3 o3 hq
  have l2' : upN (upN (upN lo 5 (.ref El)) 6 (.tup (ws.map .str))) 7 (.str (sx w)) 2 = some (.ref y.o) := l2
  walk_at "R"
  refine fun c hc => ?_
  have s5 := s4.new pk hc []
  walk_at "R"
  refine (c_Areas (n := n + 35) Fn s5.dr.sy fun W H6 eW w6 sy6 t6 o6 fr6 => ?_).x
  have hE : ∀ p ∈ (El, M.list (els.map tmV)) :: ls, H6 p.1 = some p.2 ∧ p.1 ∉ W.all := fun p hp => by
    have hE5 := s5.ll p (.tail _ (.tail _ hp))
    have hnt := s5.nt p (.tail _ (.tail _ hp))
    refine ⟨o6 _ _ hnt (by simp) hE5.1, fun q => ?_⟩
    unfold Ar.all at q
    rcases List.mem_append.mp q with q | q
    · rcases List.mem_append.mp q with q | q
      · exact fr6 _ (List.mem_append_left _ q) _ hnt hE5.1
      · rw [eW] at q; exact hE5.2.1 q
    · exact fr6 _ (List.mem_append_right _ q) _ hnt hE5.1
  have hnt : ∀ p ∈ ls, p.2.nt = true := fun p hp => s5.nt p (.tail _ (.tail _ (.tail _ hp)))
  have bs := s5.dr.bs
  have ok := s5.dr.ok
  clear s5 s4 fr6 o6 hc pk
  subst eW
  refine q_next (law_tab (ws := ws) (kd := sx w) Fn hM ⟨w6, sy6, ok, t6, by simp⟩ bs o1 hws hkd hE hnt ?_ ?_ ?_ ?_ ?_ ?_ hfa hP)
  · exact l2
  · exact l4
  · rfl
  · rfl
  · rfl
  · rfl
theorem ok_fix : SyOk fixA fixF where
  a := fixA_nd
  asub := fun z hz => by
    unfold fixA at hz
    obtain ⟨j, hj, rfl⟩ := List.mem_map.mp hz
    exact sx_mem (by have := List.mem_range.mp hj; (first | lia | omega))
  f := by decide
  fsub := fun q hq => by
    have : ∀ p ∈ fixF, p.1 < 29 ∧ p.2 ≤ 8 := by decide
    rw [fixA_len]; exact this q hq
theorem w_sliceTo {T : Tab} {X : Addr → HM → Prop} {lo : Lo} {e i : E} (hh : wpE prog T n X e lo H fun x H1 => wpE prog T n X i lo H1 fun y H2 => ∃ l vs m xs b, x = .ref l ∧ H2 l = some (.fixed vs m) ∧ FxI vs xs ∧ xs.length ≤ 1000000 ∧ y = .int b ∧ 0 ≤ b ∧ ∀ d, H2 d = none → Q (.ref d) (upd H2 d (.list (xs.take b.toNat)))) : wpE prog T n X (.sliceTo e i) lo H Q := hh
/-- THE LAW -/
theorem law_body (Fn : Fns K) (hM : ExcMk K 51 48) {a : Addr} {vs : List Value} {m : Nat} {xs : List Int} (ha : H a = some (.fixed vs m)) (hf : FxI vs (xs.map .int)) (hl : xs.length ≤ 1000000) :
    wpSs prog (tab K) (n + 40) (fun _ _ => False) s_law (fun i => [V.ref a][i]?) H fun r _ H' => match r with | .ret v => v = .bool true ∧ H' a = some (.fixed vs m) | _ => (V.none = .bool true ∧ H' a = some (.fixed vs m)) := by
  unfold s_law
  refine w_cons (w_asgn (w_list (w_lcons (w_sliceTo (w_var rfl (w_const ⟨a, vs, m, _, 63, rfl, ha, hf, by rw [List.length_map]; exact hl, rfl, by decide, fun sc hsc => ?_⟩))))))
  have e1 : (xs.map V.int).take (63 : Int).toNat = (xs.take 63).map .int := by rw [List.map_take]; rfl
  rw [e1]
  have hs1 := upd_self H sc (.list ((xs.take 63).map .int))
  have ha1 := nw (m := .list ((xs.take 63).map .int)) hsc ha
  clear ha hsc
  generalize upd H sc (.list ((xs.take 63).map .int)) = H1 at *
  walk_at "R"
  refine ⟨1, rfl, ?_⟩
  walk_at "R"
  refine fun p hp => ?_
  have hne := ne_new hp hs1
  have hp1 := upd_self H1 p (.list [.ref sc, .int 0, .int (-1), .int 0])
  have hs2 := nw (m := .list [.ref sc, .int 0, .int (-1), .int 0]) hp hs1
  have ha2 := nw (m := .list [.ref sc, .int 0, .int (-1), .int 0]) hp ha1
  have hap := ne_new hp ha1
  clear hp hs1 ha1
  generalize upd H1 p (.list [.ref sc, .int 0, .int (-1), .int 0]) = H2 at *
  walk_at "R"
  refine (c_Symbols (n := n + 36) Fn fun y H3 sy3 o3 fr3 => ?_).x
  have pk : PlOk y ⟨p, sc, xs.take 63⟩ := ⟨fun q => fr3 p q _ rfl hp1, fun q => fr3 sc q _ rfl hs2, hne, List.length_take_le _ _⟩
  have s3 : Dl H3 y ⟨p, sc, xs.take 63⟩ fixA fixF [(a, .fixed vs m)] := ⟨⟨sy3, ok_fix, ⟨0, -1, 0, o3 _ _ rfl (by simp) hp1, o3 _ _ rfl (by simp) hs2, Int.le_refl _, Int.le_refl _, Int.le_refl _⟩, ⟨List.prefix_refl _, List.prefix_refl _⟩⟩, fun q hq => by rw [List.mem_singleton.mp hq]; exact ⟨o3 _ _ rfl (by simp) ha2, fun z => fr3 a z _ rfl ha2, Ne.symm hap⟩, fun q hq => by rw [List.mem_singleton.mp hq]; rfl⟩
  clear sy3 o3 fr3 hp1 hs2 ha2
  walk_at "R"
  refine (c_draw (P := ⟨p, sc, xs.take 63⟩) (l := 8) Fn pk.ne pk.len s3.dr.pl (by decide) (by decide) fun ch hch H4 p4 o4 => ?_).x
  have s4 := s3.draw pk p4 o4
  clear s3 p4 o4
  walk_at "R"
  walk_at "R"
  refine e_int (fun h7 => b_t ?_) fun h7 => b_f ?_
  · walk_at "T"
    refine ⟨by simp, ?_⟩
    refine q_next (w_nil (q_next (law_2 (en := .i 3) Fn hM pk s4 (el_i (by decide) (by decide)) (fun q => q) ?_ ?_ ?_ (.head _) fun _ _ e => ⟨rfl, e⟩)))
    · rfl
    · rfl
    · rfl
  · walk_at "R"
    refine bi2 (b_ifd (fun h4 => ?_) fun h4 => ?_)
    · have h5 : 4 < ch := by (first | lia | omega)
      have h6 : ¬ ch = 7 := by (first | lia | omega)
      have ei : ((ch : Nat) : Int) - 5 = ((ch - 5 : Nat) : Int) := by (first | lia | omega)
      walk_at "R"
      refine bi2 ?_
      walk_at "T"
      refine ⟨by simp, ?_⟩
      rw [ei]
      refine q_next (w_nil (q_next (w_nil (q_next (law_2 (en := .v (ch - 5)) Fn hM pk s4 (el_v (by decide) (by decide) (by (first | lia | omega))) (fun q => q) ?_ ?_ ?_ (.head _) fun _ _ e => ⟨rfl, e⟩)))))
      · rfl
      · rfl
      · rfl
    · refine w_nil (q_next (w_nil (q_next (law_2 (en := .a 0) Fn hM pk s4 (el_a (by decide) (by decide) (by rw [fixA_len]; decide)) (fun q => q) ?_ ?_ ?_ (.head _) fun _ _ e => ⟨rfl, e⟩))))
      · rfl
      · rfl
      · rfl
end

section
variable {prog : Program} {w : World} {K : Frag} {s : Shared}
/-- the heap of the law's start, with the script told apart -/
noncomputable def scH (a : Addr) (vs : List Value) : HM := fun b => if b = a then some (.fixed vs 0) else none
theorem scH_of {a b : Addr} {vs : List Value} {m : M} (e : scH a vs b = some m) : b = a ∧ m = .fixed vs 0 := by
  unfold scH at e
  split at e
  · exact ⟨‹_›, (Option.some.inj e).symm⟩
  · cases e
theorem call_law (Fn : Fns K) (hM : ExcMk K 51 48) {B0 : Heap} (tab' : TabOk (tab K) K B0) (nl : B0.NoLimit) (kin : K.In B0) (sysm : ∃ o, B0.get? sysModules = some o) (hsub : ∀ b o, B0.get? b = some o → s.heap.get? b = some o) (hsz : B0.objs.size ≤ s.heap.objs.size)
    (hgens : s.gens = #[]) {a : Addr} {vs : List Value} (ha : s.heap.get? a = some { cls := .type "list", data := .seq vs.toArray }) (haB : B0.get? a = none) {xs : List Int} (hf : FxI vs (xs.map .int)) (hl : xs.length ≤ 1000000)
    {E : Value → Shared → Prop} {P : Value → Shared → Prop} (hP : ∀ s', (∀ b o, s.heap.get? b = some o → s'.heap.get? b = some o) → s'.os = s.os → s'.gens = #[] → P (.bool true) s') :
    wpAny (model prog w) callerA (PySem.call (.ref 646) [.ref a]) P E s := by
  refine wpAny_call ?_
  obtain ⟨fd, body, g⟩ := fn_ok Fn.f_law
  have Fo := g.fo
  have hb := g.bind
  obtain ⟨o, ho, hd⟩ := Fo.at'
  have hin : K.In s.heap := kin.keeps hsub
  have hcode : s.heap.CodeRec fd.code fd.qualname := by
    obtain ⟨a, oc, fs, t, e1, e2, e3, e4⟩ := Fo.code
    exact ⟨a, oc, fs, t, e1, hin a oc e2, e3, e4⟩
  have rs : RepL s.heap [.ref a] [.ref a] := .cons (.ref a) .nil
  have hbb := hb s [.ref a] hin rfl
  rw [List.append_nil] at hbb
  refine codeAny_call_function (A := callerA) (by decide) (hin 646 o ho) hd Fo.co Fo.gen Fo.body hcode (hbb _ _ _ _ ?_)
  rw [Fo.clos, Fo.glob, Fo.blt]
  have hkd : ∀ y ∈ p_law.zip [Value.ref a], fd.scope.names.lookup y.1 = some .local ∨ (fd.scope.names.lookup y.1 = some .cell ∧ ((cellsFrom (s.heap.objs.size + 1) fd.scope.names []).lookup y.1).isSome = true) := fun y hy => by
    obtain ⟨a, b⟩ := y
    rcases Fo.kinds a (List.of_mem_zip hy).1 with q | q
    · exact .inl q
    · exact .inr ⟨q, cellsFrom_isSome _ _ q⟩
  refine wpAny_newFunctionEnv_cells Fo.kind hkd fun env he s1 x => ?_
  have he' : env = callEnvC fd s.heap.objs.size 646 := by
    rw [he]; unfold callEnvC; rw [Fo.glob, Fo.blt]
  subst he'
  obtain ⟨h1, tk, e1, hk⟩ := x.done
  have hk1 : ∀ b o, s.heap.get? b = some o → s1.heap.get? b = some o := fun b o e => by rw [e1]; exact hk b o e
  refine ⟨nl.keeps fun b o e => hk1 b o (hsub b o e), codeAny_func ?_⟩
  let H := scH a vs
  let c0 : Cx := { w := w, T := tab K, K := K, B0 := B0, env := default, L := 0, fr := [], gd := some [], X := fun _ _ => False, os := s.os, lo := baseC H s.heap }
  let c : Cx := c0.callee fd s.heap.objs.size 646 (fun e s' => wpAny (model prog w) (callerA.deeper (callEnvC fd s.heap.objs.size 646)) (leaving (callEnvC fd s.heap.objs.size 646) e) (fun _ s'' => E e s'') (fun e' s'' => E e' s'') s') (baseC H s.heap)
  have noL : ∀ b, s.heap.objs.size ≤ b → B0.get? b = none := fun b hb => by
    cases q : B0.get? b with
    | none => rfl
    | some o => exact absurd (Heap.lt_size (hsub _ o q)) (Nat.not_lt.mpr hb)
  have cellGt : ∀ b ∈ c.cells, s.heap.objs.size < b := fun b hb => by
    obtain ⟨p, hp, e⟩ := List.mem_map.mp hb
    have := x.above p.1 p.2 hp
    rw [← e]; exact this
  have K1 : CxOk c := {
    kind := Fo.kind
    glob := Fo.glob
    blt := Fo.blt
    locals := rfl
    apart := fun b hb => by
      have hb' : b ∈ [s.heap.objs.size] := hb
      rw [List.mem_singleton.mp hb']
      exact noL _ (Nat.le_refl _)
    Lc := fun h => Nat.lt_irrefl _ (cellGt _ h)
    inj := fun y z a h1 h2 => pair_inj x.apart h1 h2
    newL := noL _ (Nat.le_refl _)
    newC := fun b h => noL _ (Nat.le_of_lt (cellGt b h))
    nl := nl
    kin := kin
    sysm := sysm
    tab := tab'
    above := hsz
    each := fun e he => by
      have he' : e ∈ [callEnvC fd s.heap.objs.size 646] := he
      rw [List.mem_singleton.mp he']
      exact ⟨by show fd.scope.kind ≠ _; rw [Fo.kind]; simp, s.heap.objs.size, rfl⟩ }
  have haH : H a = some (.fixed vs 0) := if_pos rfl
  have Hn : ∀ b, b ≠ a → H b = none := fun b hb => if_neg hb
  have G1 : Good prog c (baseC H s.heap) (binds (p_law.zip [V.ref a]) fun _ => none) H s1 := {
    sub := fun b o e => baseC_get (hsub b o e) (Hn b fun q => by have e' : B0.get? b = some o := e; rw [q, haB] at e'; cases e')
    lo := fun b o e => ⟨fun _ => e, fun _ => ⟨o.slots, e⟩⟩
    kp := fun b o e _ => hk1 b o (baseC_of e).1
    ks := fun b o e _ => ⟨o.slots, hk1 b o (baseC_of e).1⟩
    apart := fun b hb => by
      cases q : (baseC H s.heap).get? b with
      | none => rfl
      | some o =>
        have hlt := Heap.lt_size (baseC_of q).1
        rcases hb with hb | hb
        · rw [hb] at hlt; exact absurd hlt (Nat.lt_irrefl _)
        · exact absurd (Nat.lt_trans hlt (cellGt b hb)) (Nat.lt_irrefl _)
    obj := fun b m e => by
      obtain ⟨rfl, rfl⟩ := scH_of e
      have hlt := Heap.lt_size ha
      refine ⟨?_, ?_, Nat.ne_of_lt hlt, fun q => absurd (Nat.lt_trans hlt (cellGt b q)) (Nat.lt_irrefl _), hk1 _ _ ha⟩
      · cases q : (baseC H s.heap).get? b with
        | none => rfl
        | some o => have := (baseC_of q).2; first | exact (no haH this).elim | exact (no this haH).elim | obtain rfl := so haH this | (rw [haH] at this; cases this)
      · intro q
        have q' : b ∈ [s.heap.objs.size] := q
        rw [List.mem_singleton.mp q'] at hlt
        exact Nat.lt_irrefl _ hlt
    loc := {
      ns := ⟨_, x.toInCall.ns, fun y v e => by
        have hkd : ∀ p ∈ p_law, (callEnvC fd s.heap.objs.size 646).kindOf p = some .local ∨ (callEnvC fd s.heap.objs.size 646).kindOf p = some .cell := Fo.kinds
        rcases binds_ok (RepL.mono (Kt.of_keeps hk1) rs) hkd (m := fun _ => none) (cm := fun _ => none) (fun _ _ q => by cases q) y v e with ⟨a, u, b, d⟩ | ⟨a, u, b, d⟩
        · exact .inl ⟨a, u, b, d⟩
        · obtain ⟨ad, had⟩ := Option.isSome_iff_exists.mp (cellsFrom_isSome fd.scope.names (s.heap.objs.size + 1) a)
          exact .inr ⟨a, ad, u, had, b ▸ x.cell y ad had, d⟩⟩
      cl := fun a ha => by
        obtain ⟨p, hp, e⟩ := List.mem_map.mp ha
        have hl := lookup_of_mem_nodup (n := p.1) (c := p.2) (cellsFrom_names fd.scope.names 0 (s.heap.objs.size + 1) [] [] rfl ▸ Fo.nd) hp
        exact ⟨_, e ▸ x.cell p.1 p.2 hl⟩ }
    gens := by rw [e1]; exact hgens
    os := by rw [e1]; rfl
    fr := fun b hb => by
      have hb' : b ∈ [s.heap.objs.size] := hb
      rw [List.mem_singleton.mp hb']
      obtain ⟨o, es, ep, e, d, _⟩ := x.toInCall.ns
      exact ⟨o, es, ep, e, d⟩ }
  have R : Room 40 0 (1 + claimMargin + 1) (4 + 3) := ⟨by decide, by decide, by decide⟩
  refine TF.run (c := c) (dp := 1 + claimMargin + 1) (un := 4 + 3) (ret_of (Q := fun v H' => v = V.bool true ∧ H' a = some (.fixed vs 0)) g rfl K1 rfl rfl (cellsFrom_names fd.scope.names _ 0 [] [] rfl) (.inl fun _ _ q => q) (law_body (n := 0) Fn hM haH hf hl)) K1 R G1 fun fl r loc2 H2 s2 rf F q => ?_
  have G2 := F.g
  have fin : ∀ v, (v = V.bool true ∧ H2 a = some (.fixed vs 0)) → ∀ u, Rep s2.heap u v → P u s2 := fun v q u ru => by
    obtain ⟨rfl, q2⟩ := q
    have : u = .bool true := by cases ru; rfl
    subst this
    refine hP s2 (fun b o e => ?_) G2.os G2.gens
    by_cases hb : b = a
    · subst hb
      rw [ha] at e
      cases e
      exact (G2.obj _ _ q2).rep
    · refine G2.kp b o (baseC_get e (Hn b hb)) fun q => ?_
      have q' : b ∈ [s.heap.objs.size] := q
      rw [List.mem_singleton.mp q'] at e
      exact absurd (Heap.lt_size e) (Nat.lt_irrefl _)
  induction rf with
  | ret rv => exact fin _ q _ rv
  | next => exact absurd q.1 (by simp)
  | brk => exact absurd q.1 (by simp)
  | cont => exact absurd q.1 (by simp)
end

theorem law_walk {prog : Program} {w : World} {s : Shared} (x : ∃ h0 : Heap, headH h0 = true ∧ ∀ b o, h0.get? b = some o → s.heap.get? b = some o) (hgens : s.gens = #[]) {a : Addr} {vs : List Value} (ha : s.heap.get? a = some { cls := .type "list", data := .seq vs.toArray })
    {xs : List Int} (hf : FxI vs (xs.map .int)) (hl : xs.length ≤ 1000000)
    {E : Value → Shared → Prop} {P : Value → Shared → Prop} (hP : ∀ s', (∀ b o, s.heap.get? b = some o → s'.heap.get? b = some o) → s'.os = s.os → s'.gens = #[] → P (.bool true) s') :
    wpAny (model prog w) callerA (PySem.call (.ref 646) [.ref a]) P E s := by
  obtain ⟨h0, hh, hk⟩ := x
  unfold headH headK at hh
  simp only [Bool.and_eq_true, Option.isNone_iff_eq_none, Option.isSome_iff_exists] at hh
  obtain ⟨⟨⟨⟨⟨⟨⟨⟨⟨⟨⟨⟨⟨⟨⟨⟨⟨k1, k2⟩, k3⟩, k4⟩, k5⟩, k6⟩, k7⟩, k8⟩, k9⟩, k10⟩, k11⟩, k12⟩, n1⟩, n2⟩, n3⟩, n4⟩, n5⟩, n6⟩ := hh
  have X : (fragAt h0 KA).In h0 := frag_in
  refine call_law (B0 := h0) ⟨k1, k2, k3⟩ (excMk_of k11) (tab_ok X k4 k5 k6 k7 k8 k9 k10) ⟨_, .of_isNs n1, n2⟩ X n3 hk ?_ hgens ha ?_ hf hl hP
  · obtain ⟨o, ho⟩ := n5
    have h1 : (h0.objs.size - 1 : Nat) < s.heap.objs.size := Heap.lt_size (hk _ o ho)
    have h2 : 0 < h0.objs.size := Nat.le_of_ble_eq_true n6
    (first | lia | omega)
  · cases q : h0.get? a with
    | none => rfl
    | some o =>
      exfalso
      have e := hk a o q
      rw [ha] at e
      cases e
      have hm : ({ cls := .type "list", data := .seq vs.toArray } : Obj) ∈ h0.objs.toList := by
        unfold Heap.get? at q
        split at q
        · cases q
        · exact Array.mem_toList_iff.mpr (Array.mem_of_getElem? q)
      have := List.all_eq_true.mp n4 _ hm
      simp at this

theorem ints_of {P : Params} {h : Heap} {R : WRecords} : ∀ {vs : List Value} {ds : List WData}, WellAll P h vs ds → WShape.hasItems R ds .int = true → ∃ xs : List Int, FxI vs (xs.map .int) ∧ xs.length = ds.length
  | _, _, .nil, _ => ⟨[], fun _ => .nil, rfl⟩
  | _, _, .cons (v := v) (vs := vs) (d := d) (ds := ds) a b, e => by
    have e : (WShape.has R d .int && WShape.hasItems R ds .int) = true := e
    obtain ⟨xs, h1, h2⟩ := ints_of b (br e)
    have e := bl e
    cases a with
    | int i t => exact ⟨i :: xs, fun h => .cons (.int i t) (h1 h), congrArg (· + 1) h2⟩
    | _ => exact (Bool.false_ne_true e).elim
theorem walk_ok : WalkO (vw pw) (looseN pw) XP (fun _ _ => True) rl.row.toRowW dk.1 dk.2 fun f vs => PySem.call f vs := by
  intro w s₀ s₁ mg mb G Y a o pm cd doc dV kV ho hd hcd hD hmg hgens args vals as hpre hlay hrd hwl hlo
  have hname : dk.1.name = lawN := defOf_name def_ok
  have hx : ∃ h0 : Heap, headH h0 = true ∧ ∀ b o, h0.get? b = some o → s₁.heap.get? b = some o := G.X
  have ea : a = 646 := by
    obtain ⟨h0, hh, hk⟩ := hx
    unfold headH headK at hh
    simp only [Bool.and_eq_true, beq_iff_eq] at hh
    have q := hh.1.1.1.1.1.1.2
    have X : (fragAt h0 KA).In s₁.heap := Frag.In.keeps frag_in hk
    have := ns_of X G.T.g q
    rw [hname] at hmg
    have e : mg "law" = some (.ref a) := hmg
    rw [this] at e
    simpa using e.symm
  subst ea
  have hp := pre_splitW hpre
  obtain ⟨d, r, rfl, hd1, hr⟩ := hasAllW_cons hp.1
  obtain rfl := hasAllW_nil hr
  cases hwl with
  | cons wd wn =>
    cases wn
    cases wd with
    | list hs hw =>
      rename_i b vs ds
      have hi : WShape.hasItems rl.row.toRowW.records ds .int = true := by
        have z : (WShape.hasItems rl.row.toRowW.records ds .int || false) = true := hd1
        rwa [Bool.or_false] at z
      obtain ⟨xs, hf, hl⟩ := ints_of hw hi
      have hlen : xs.length ≤ 1000000 := by
        rw [hl]
        have q := hp.2
        have e : rl.row.toRowW.pre = .and (.not (.lt (.lit (.int 63)) (.len (.arg 0)))) (.lit (.bool true)) := rfl
        rw [e] at q
        have hle : W.less? (.int 63) (.int (ds.length : Nat)) = some (decide ((63 : Int) < (ds.length : Nat))) := rfl
        simp only [WTm.holds, WTm.value, List.getElem?_cons_zero, hle, Option.map_some] at q
        cases z : decide ((63 : Int) < (ds.length : Nat)) with
        | true => first | exact (no z q).elim | exact (no q z).elim | obtain rfl := so z q | (rw [z] at q; cases q)
        | false => have := of_decide_eq_false z; (first | lia | omega)
      refine law_walk hx hgens hs hf hlen fun s' hk hos hg => ?_
      refine GoodW.toG ⟨.inl ⟨.bool true, .bool true, [], rfl, fun cls => rfl, .bool true, ?_, fun _ => ⟨List.nodup_nil, fun _ q => absurd q List.not_mem_nil⟩⟩, hk, hos, hg⟩
      show (WShape.has rl.row.toRowW.records (.bool true) .bool && WTm.holds rl.row.toRowW.records (.eq .res (.lit (.bool true))) { args := [.list ds], res := some (.bool true), after := [.list ds] }) = true
      have e : W.same (.bool true) (.bool true) = true := by decide +kernel
      have h1 : WShape.has rl.row.toRowW.records (.bool true) .bool = true := rfl
      rw [h1, Bool.true_and]
      simp only [WTm.holds, WTm.value, e]
    | _ => exact (Bool.false_ne_true hd1).elim
end Mine
open PySem PySem.W PyProof.Rows
theorem PySem.Challenge.cw_rh0108_01_holds : PySem.Challenge.rw_rh0108_01.Holds :=
  holds_law Mine.said_ok fun said => holds_open (r := Mine.rl.row) (YP := fun _ _ => True) Mine.left_ok (fun _ _ _ => trivial) (fun _ _ _ _ _ => trivial) (fun s e => ⟨s.heap, e, fun _ _ h => h⟩) (fun _ _ _ x k => x.imp fun _ q => ⟨q.1, fun b o e => k b o (q.2 b o e)⟩) Mine.def_ok Mine.the_ok Mine.kw_ok (fun _ _ => recFacts_nil rfl) rfl said Mine.ok_ok Mine.bare_ok Mine.prom_ok Mine.walk_ok
