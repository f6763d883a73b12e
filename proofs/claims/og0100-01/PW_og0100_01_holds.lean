import PyProof.Rows.All
import Wide.All
import OpenK.AllK
import Wide.FinOn
import KE.KDictOf
import KE.KDictList
import KE.KEqDict
import PyProof.ExcBaseAll.Exception
import Lean
import PySem.Challenge.RW_og0100_01
set_option Elab.async false
set_option maxRecDepth 100000
set_option linter.unusedVariables false
set_option maxHeartbeats 2000000
set_option compiler.extract_closed false

namespace Mine
section XA
/-- a goal is set aside while facts are opened: the openings then cost little -/
theorem byc {p : Prop} (h : ¬p → False) : p := Classical.byContradiction h
structure A3 (a0 a1 a2 : Prop) : Prop where
  x0 : a0
  x1 : a1
  x2 : a2
structure A4 (a0 a1 a2 a3 : Prop) : Prop where
  x0 : a0
  x1 : a1
  x2 : a2
  x3 : a3
structure A5 (a0 a1 a2 a3 a4 : Prop) : Prop where
  x0 : a0
  x1 : a1
  x2 : a2
  x3 : a3
  x4 : a4
structure A6 (a0 a1 a2 a3 a4 a5 : Prop) : Prop where
  x0 : a0
  x1 : a1
  x2 : a2
  x3 : a3
  x4 : a4
  x5 : a5
structure A7 (a0 a1 a2 a3 a4 a5 a6 : Prop) : Prop where
  x0 : a0
  x1 : a1
  x2 : a2
  x3 : a3
  x4 : a4
  x5 : a5
  x6 : a6
structure A8 (a0 a1 a2 a3 a4 a5 a6 a7 : Prop) : Prop where
  x0 : a0
  x1 : a1
  x2 : a2
  x3 : a3
  x4 : a4
  x5 : a5
  x6 : a6
  x7 : a7
structure A9 (a0 a1 a2 a3 a4 a5 a6 a7 a8 : Prop) : Prop where
  x0 : a0
  x1 : a1
  x2 : a2
  x3 : a3
  x4 : a4
  x5 : a5
  x6 : a6
  x7 : a7
  x8 : a8
structure A10 (a0 a1 a2 a3 a4 a5 a6 a7 a8 a9 : Prop) : Prop where
  x0 : a0
  x1 : a1
  x2 : a2
  x3 : a3
  x4 : a4
  x5 : a5
  x6 : a6
  x7 : a7
  x8 : a8
  x9 : a9
structure A12 (a0 a1 a2 a3 a4 a5 a6 a7 a8 a9 a10 a11 : Prop) : Prop where
  x0 : a0
  x1 : a1
  x2 : a2
  x3 : a3
  x4 : a4
  x5 : a5
  x6 : a6
  x7 : a7
  x8 : a8
  x9 : a9
  x10 : a10
  x11 : a11
structure A13 (a0 a1 a2 a3 a4 a5 a6 a7 a8 a9 a10 a11 a12 : Prop) : Prop where
  x0 : a0
  x1 : a1
  x2 : a2
  x3 : a3
  x4 : a4
  x5 : a5
  x6 : a6
  x7 : a7
  x8 : a8
  x9 : a9
  x10 : a10
  x11 : a11
  x12 : a12
inductive X2 {α0 α1 : Type} (P : α0 → α1 → Prop) : Prop
  | mk (x0 : α0) (x1 : α1) (h : P x0 x1) : X2 P
inductive X3 {α0 α1 α2 : Type} (P : α0 → α1 → α2 → Prop) : Prop
  | mk (x0 : α0) (x1 : α1) (x2 : α2) (h : P x0 x1 x2) : X3 P
inductive X4 {α0 α1 α2 α3 : Type} (P : α0 → α1 → α2 → α3 → Prop) : Prop
  | mk (x0 : α0) (x1 : α1) (x2 : α2) (x3 : α3) (h : P x0 x1 x2 x3) : X4 P
inductive X5 {α0 α1 α2 α3 α4 : Type} (P : α0 → α1 → α2 → α3 → α4 → Prop) : Prop
  | mk (x0 : α0) (x1 : α1) (x2 : α2) (x3 : α3) (x4 : α4) (h : P x0 x1 x2 x3 x4) : X5 P
end XA
section SL0
open PySem PySem.W PyProof.Rows
set_option tactic.hygienic false

/-- abstract values; tuples are values -/
inductive V where
  | none
  | bool (b : Bool)
  | int (i : Int)
  | str (l : List Nat)
  | tup (l : List V)
  | ref (a : Addr)
  | bi (id : String)
  | ty (n : String)
  deriving Inhabited

/-- abstract objects that may be changed -/
inductive O where
  | list (l : List V)
  | dict (l : List (List Nat × V)) (n : Nat)
  | inst (c dx : Addr) (fm : List (Str × V))
  | aux (x : Addr)

abbrev AH := Addr → Option O
def upd (H : AH) (a : Addr) (o : O) : AH := fun b => if b = a then some o else H b
theorem upd_eq {H : AH} {a : Addr} {o : O} : upd H a o a = some o := if_pos rfl
theorem upd_ne {H : AH} {a b : Addr} {o : O} (h : b ≠ a) : upd H a o b = H b := if_neg h

abbrev Loc := Str → Option V
def put (m : Loc) (x : Str) (v : V) : Loc := fun y => if y = x then some v else m y
theorem put_eq {m : Loc} {x : Str} {v : V} : put m x v x = some v := if_pos rfl
theorem put_ne {m : Loc} {x y : Str} {v : V} {r : Option V} (h : y ≠ x) (e : m y = r) : put m x v y = r := (if_neg h).trans e
def noLoc : Loc := fun u' => none

mutual
inductive RV (h : Heap) (H : AH) : V → Value → Prop
  | none : RV h H .none .none
  | bool (b : Bool) : RV h H (.bool b) (.bool b)
  | int (i : Int) (t : Tok) : RV h H (.int i) (.int i t)
  | str (l : List Nat) (t : Tok) : RV h H (.str l) (.str ⟨l.toArray⟩ t)
  | tup {a : Addr} {items : Array Value} {l : List V} : IsTup h a items → H a = Option.none → RVs h H l items.toList → RV h H (.tup l) (.ref a)
  | ref (a : Addr) : RV h H (.ref a) (.ref a)
  | bi (id : String) : RV h H (.bi id) (.builtin id)
  | ty (n : String) : RV h H (.ty n) (.type n)
inductive RVs (h : Heap) (H : AH) : List V → List Value → Prop
  | nil : RVs h H [] []
  | cons {v : V} {c : Value} {vs : List V} {cs : List Value} : RV h H v c → RVs h H vs cs → RVs h H (v :: vs) (c :: cs)
end

/-- nothing vanishes, and what is not in H stays (up to slots); X: the frame at hand and its cells, which may turn -/
def KeepX (X : Addr → Prop) (H : AH) (h : Heap) (H' : AH) (h' : Heap) : Prop := ∀ b o, h.get? b = some o → (∃ o', h'.get? b = some o') ∧ (H b = none → H' b = none ∧ ((X b → (X2 fun it n => o.data = .seq it n)) → ∃ sl, h'.get? b = some { o with slots := sl }))
abbrev Keep := KeepX fun u' => False

theorem KeepX.refl {X : Addr → Prop} {H : AH} {h : Heap} : KeepX X H h H h := fun u' o e => ⟨⟨o, e⟩, fun n => ⟨n, fun u' => ⟨o.slots, e⟩⟩⟩
theorem KeepX.trans {X : Addr → Prop} {H H' H'' : AH} {h h' h'' : Heap} (k : KeepX X H h H' h') (k' : KeepX X H' h' H'' h'') : KeepX X H h H'' h'' := by
  intro b o e
  obtain ⟨⟨o', e'⟩, f⟩ := k b o e
  obtain ⟨x, f'⟩ := k' b o' e'
  refine ⟨x, fun n => ?_⟩
  obtain ⟨n', g⟩ := f n
  refine ⟨(f' n').1, fun q => ?_⟩
  obtain ⟨sl, e₁⟩ := g q
  obtain ⟨_, g'⟩ := (k' b _ e₁).2 n'
  obtain ⟨sl', e₂⟩ := g' q
  exact ⟨sl', e₂⟩
theorem KeepX.weak {X X' : Addr → Prop} {H H' : AH} {h h' : Heap} (k : KeepX X H h H' h') (s : ∀ b, X b → X' b) : KeepX X' H h H' h' := fun b o e => ⟨(k b o e).1, fun n => ⟨((k b o e).2 n).1, fun q => ((k b o e).2 n).2 fun x => q (s b x)⟩⟩
theorem KeepX.of {X : Addr → Prop} {H H' : AH} {h h' : Heap} (k : Keep H h H' h') : KeepX X H h H' h' := fun b o e => ⟨(k b o e).1, fun n => ⟨((k b o e).2 n).1, fun u' => ((k b o e).2 n).2 fun x => x.elim⟩⟩
theorem Keep.at {H H' : AH} {h h' : Heap} (k : Keep H h H' h') {b : Addr} {o : Obj} (e : h.get? b = some o) (n : H b = none) : ∃ sl, h'.get? b = some { o with slots := sl } := ((k b o e).2 n).2 fun x => x.elim
theorem KeepX.off {X : Addr → Prop} {H H' : AH} {h h' : Heap} (k : KeepX X H h H' h') {b : Addr} {o : Obj} (e : h.get? b = some o) (n : H b = none) : H' b = none := ((k b o e).2 n).1
theorem KeepX.back {X : Addr → Prop} {H H' : AH} {h h' : Heap} (k : KeepX X H h H' h') {b : Addr} (e : h'.get? b = none) : h.get? b = none := by
  cases q : h.get? b with
  | none => rfl
  | some o => obtain ⟨o', e'⟩ := (k b o q).1; rw [e] at e'; cases e'

theorem KeepX.tup {X : Addr → Prop} {H H' : AH} {h h' : Heap} (k : KeepX X H h H' h') {a : Addr} {items : Array Value} (t : IsTup h a items) (n : H a = none) : IsTup h' a items ∧ H' a = none := by
  obtain ⟨o, e, hc, m, hd⟩ := t
  obtain ⟨n', f⟩ := (k a o e).2 n
  obtain ⟨sl, e'⟩ := f fun u' => ⟨_, _, hd⟩
  exact ⟨⟨_, e', hc, m, hd⟩, n'⟩

/-- tuples stay -/
def TupS (H : AH) (h : Heap) (H' : AH) (h' : Heap) : Prop := ∀ a items, IsTup h a items → H a = none → IsTup h' a items ∧ H' a = none
theorem KeepX.tups {X : Addr → Prop} {H H' : AH} {h h' : Heap} (k : KeepX X H h H' h') : TupS H h H' h' := fun u' u' t n => k.tup t n
theorem RVs.ind {h : Heap} {H : AH} {M : List V → List Value → Prop} (n : M [] []) (c : ∀ v c vs cs, RV h H v c → RVs h H vs cs → M vs cs → M (v :: vs) (c :: cs)) {vs : List V} {cs : List Value} (r : RVs h H vs cs) : M vs cs :=
  RVs.rec (motive_1 := fun x y z => True) (motive_2 := fun a b z => M a b) trivial (fun x => trivial) (fun x y => trivial) (fun x y => trivial) (fun x y z w => trivial) (fun x => trivial) (fun x => trivial) (fun x => trivial) n (fun a r x ih => c _ _ _ _ a r ih) r
theorem RV.monoT {H H' : AH} {h h' : Heap} (k : TupS H h H' h') {v : V} {c : Value} (x : RV h H v c) : RV h' H' v c :=
  RV.rec (motive_1 := fun v c z => RV h' H' v c) (motive_2 := fun v c z => RVs h' H' v c) .none .bool .int .str (fun t n x r => .tup (k _ _ t n).1 (k _ _ t n).2 r) .ref .bi .ty .nil (fun x y a r => .cons a r) x
theorem RVs.monoT {H H' : AH} {h h' : Heap} (k : TupS H h H' h') {v : List V} {c : List Value} (x : RVs h H v c) : RVs h' H' v c :=
  RVs.ind .nil (fun v c vs cs a r ih => .cons (a.monoT k) ih) x
theorem RV.mono {X : Addr → Prop} {H H' : AH} {h h' : Heap} (k : KeepX X H h H' h') {v : V} {c : Value} (x : RV h H v c) : RV h' H' v c := x.monoT k.tups
theorem RVs.mono {X : Addr → Prop} {H H' : AH} {h h' : Heap} (k : KeepX X H h H' h') {v : List V} {c : List Value} (x : RVs h H v c) : RVs h' H' v c := x.monoT k.tups

theorem RVs.length {h : Heap} {H : AH} {v : List V} {c : List Value} (x : RVs h H v c) : v.length = c.length :=
  RVs.ind (M := fun v c => v.length = c.length) rfl (fun v c vs cs a r ih => congrArg (· + 1) ih) x
theorem RVs.append {h : Heap} {H : AH} {v v' : List V} {c c' : List Value} (x : RVs h H v c) (y : RVs h H v' c') : RVs h H (v ++ v') (c ++ c') :=
  RVs.ind (M := fun v c => RVs h H (v ++ v') (c ++ c')) y (fun v c vs cs a r ih => .cons a ih) x
theorem RVs.get {h : Heap} {H : AH} {v : List V} {c : List Value} {i : Nat} {x : V} (r : RVs h H v c) (e : v[i]? = some x) : ∃ y, c[i]? = some y ∧ RV h H x y :=
  RVs.ind (M := fun v c => ∀ i, v[i]? = some x → ∃ y, c[i]? = some y ∧ RV h H x y) (fun i e => nomatch (show none = some x from e))
    (fun v c vs cs a r ih i e => Nat.casesOn (motive := fun i => (v :: vs)[i]? = some x → ∃ y, (c :: cs)[i]? = some y ∧ RV h H x y) i (fun e => ⟨c, rfl, Option.some.inj e ▸ a⟩) (fun i e => ih i e) e) r i e
theorem RVs.take {h : Heap} {H : AH} {v : List V} {c : List Value} (n : Nat) (r : RVs h H v c) : RVs h H (v.take n) (c.take n) :=
  RVs.ind (M := fun v c => ∀ n, RVs h H (v.take n) (c.take n)) (fun n => by cases n <;> exact .nil) (fun v c vs cs a r ih n => by cases n with | zero => exact .nil | succ n => exact .cons a (ih n)) r n
theorem RVs.drop {h : Heap} {H : AH} {v : List V} {c : List Value} (n : Nat) (r : RVs h H v c) : RVs h H (v.drop n) (c.drop n) :=
  RVs.ind (M := fun v c => ∀ n, RVs h H (v.drop n) (c.drop n)) (fun n => by cases n <;> exact .nil) (fun v c vs cs a r ih n => by cases n with | zero => exact .cons a r | succ n => exact ih n) r n
theorem RVs.set {h : Heap} {H : AH} {x : V} {y : Value} (q : RV h H x y) {v : List V} {c : List Value} (n : Nat) (r : RVs h H v c) : RVs h H (v.set n x) (c.set n y) :=
  RVs.ind (M := fun v c => ∀ n, RVs h H (v.set n x) (c.set n y)) (fun n => .nil) (fun v c vs cs a r ih n => by cases n with | zero => exact .cons q r | succ n => exact .cons a (ih n)) r n

/-- a dict with str keys, in order -/
inductive RDs (P : Params) (h : Heap) (H : AH) : List (List Nat × V) → List DictEntry → Prop
  | nil : RDs P h H [] []
  | cons {k : List Nat} {v : V} {t : Tok} {c : Value} {l : List (List Nat × V)} {es : List DictEntry} : RV h H v c → RDs P h H l es →
      RDs P h H ((k, v) :: l) (⟨PyData.keyHash P ⟨k.toArray⟩, .str ⟨k.toArray⟩ t, c⟩ :: es)
theorem RDs.monoT {P : Params} {H H' : AH} {h h' : Heap} (k : TupS H h H' h') {v : List (List Nat × V)} {c : List DictEntry} (x : RDs P h H v c) : RDs P h' H' v c := by
  induction x with
  | nil => exact .nil
  | cons a r ih => exact .cons (a.monoT k) ih
theorem RDs.mono {P : Params} {X : Addr → Prop} {H H' : AH} {h h' : Heap} (k : KeepX X H h H' h') {v : List (List Nat × V)} {c : List DictEntry} (x : RDs P h H v c) : RDs P h' H' v c := x.monoT k.tups

/-- an object's own dict -/
inductive RFs (P : Params) (h : Heap) (H : AH) : List (Str × V) → List DictEntry → Prop
  | nil : RFs P h H [] []
  | cons {k : Str} {v : V} {t : Tok} {c : Value} {l : List (Str × V)} {es : List DictEntry} : RV h H v c → RFs P h H l es → RFs P h H ((k, v) :: l) (⟨PyData.keyHash P k, .str k t, c⟩ :: es)
theorem RFs.monoT {P : Params} {H H' : AH} {h h' : Heap} (k : TupS H h H' h') {v : List (Str × V)} {c : List DictEntry} (x : RFs P h H v c) : RFs P h' H' v c := by
  induction x with
  | nil => exact .nil
  | cons a r ih => exact .cons (a.monoT k) ih
theorem RFs.mono {P : Params} {X : Addr → Prop} {H H' : AH} {h h' : Heap} (k : KeepX X H h H' h') {v : List (Str × V)} {c : List DictEntry} (x : RFs P h H v c) : RFs P h' H' v c := x.monoT k.tups
theorem RFs.length {P : Params} {h : Heap} {H : AH} {v : List (Str × V)} {c : List DictEntry} (x : RFs P h H v c) : v.length = c.length := by
  induction x with
  | nil => rfl
  | cons a r ih => exact congrArg (· + 1) ih

structure Ctx where
  prog : Program
  w : World
  K : Frag
  s₀ : Shared
  p : Program
  loose : List Str
  mg : Str → Option Value
  mb : Str → Option Value
  kin : K.In s₀.heap
  top : TopRead p loose mg mb s₀.heap
  /-- the class of the one exception that is raised -/
  C : Value

/-- an exception under way over the frames fs, new since h -/
def ExcSt (G : Ctx) (fs : List Env) (h : Heap) (H : AH) (e : Value) (s : Shared) : Prop := (X4 fun ea oe vs a0 => A8 (e = .ref ea) (h.get? ea = none) (H ea = none) (s.heap.get? ea = some oe) (oe.cls = G.C) (oe.data = .fields vs) (vs[0]? = some a0) (vs[1]? = some .none ∨ (X3 fun T oT ts => A7 (vs[1]? = some (.ref T)) (T ≠ ea) (h.get? T = none) (H T = none) (s.heap.get? T = some oT) (oT.data = .fields ts) (ts[3]? = some .none ∨ ∃ L, (fs.head?.bind (·.frame)) = some L ∧ ts[3]? = some (rawInt L)))))
theorem ExcSt.older {G : Ctx} {fs : List Env} {h h₁ : Heap} {H : AH} {e : Value} {s : Shared} (k : ∀ b, h₁.get? b = none → h.get? b = none) (q : ExcSt G fs h₁ H e s) : ExcSt G fs h H e s := by
  refine byc fun hnn => ?_
  obtain ⟨ea, oe, vs, a0, q1, q2, q3, q4, q5, q6, q7, q8⟩ := q
  refine hnn ?_; clear hnn
  refine ⟨ea, oe, vs, a0, q1, k _ q2, q3, q4, q5, q6, q7, ?_⟩
  rcases q8 with q | ⟨T, oT, ts, p1, p2, p3, p4, p5, p6, p7⟩
  · exact .inl q
  · exact .inr ⟨T, oT, ts, p1, p2, k _ p3, p4, p5, p6, p7⟩

def RO (G : Ctx) (h : Heap) (H : AH) (a : Addr) : O → Prop
  | .list l => ∃ items n, h.get? a = some (listOf items n) ∧ RVs h H l items.toList
  | .dict l n => ∃ es, h.get? a = some (dictOf es n) ∧ RDs G.w.params h H l es ∧ (l.map (·.1)).Nodup
  | .inst c dx fm => h.get? a = some (instObj c dx) ∧ H dx = some (.aux a) ∧ ∃ es n, h.get? dx = some (dictOf es n) ∧ RFs G.w.params h H fm es
  | .aux x => ∃ c fm, H x = some (.inst c a fm)

structure Rel (G : Ctx) (fs : List Env) (H : AH) (s : Shared) : Prop where
  base : ∀ b o, G.s₀.heap.get? b = some o → s.heap.get? b = some o
  off : ∀ b o, G.s₀.heap.get? b = some o → H b = none
  objs : ∀ a o, H a = some o → RO G s.heap H a o
  frames : s.heap.FunFrames G.s₀.heap fs
  foff : ∀ env ∈ fs, ∀ L, env.frame = some L → H L = none
  gens : s.gens = G.s₀.gens
  os : s.os = G.s₀.os

structure AOK (fs : List Env) (r : Nat) (A : Around) : Prop where
  frames : A.frames = some fs
  handled : A.handled = none
  depth : A.depth + r ≤ 999
  units : A.units + 10 * r ≤ 9890

/-- the locals (and cells) of the code at hand -/
structure LocsR (base : Heap) (env : Env) (m : Loc) (h : Heap) (H : AH) : Prop where
  ns : ∃ mc, h.Ns env.locals mc ∧ ∀ x v, m x = some v → env.kindOf x = some .local → ∃ c, mc x = some c ∧ RV h H v c
  cl : ∀ x v, m x = some v → env.kindOf x ≠ some .local → ∃ c o cv, env.cells.lookup x = some c ∧ h.get? c = some o ∧ o.data = .cell (some cv) ∧ RV h H v cv
  off : H env.locals = none
  coff : ∀ p ∈ env.cells, H p.2 = none ∧ ∃ o v, h.get? p.2 = some o ∧ o.data = .cell v
  fresh : base.get? env.locals = none
  cfresh : ∀ p ∈ env.cells, base.get? p.2 = none

def mineX (env : Env) (b : Addr) : Prop := b = env.locals ∨ ∃ p ∈ env.cells, b = p.2

structure After (G : Ctx) (fs : List Env) (H : AH) (s : Shared) (H' : AH) (s' : Shared) : Prop where
  r : Rel G fs H' s'
  k : Keep H s.heap H' s'.heap
theorem After.refl {G : Ctx} {fs : List Env} {H : AH} {s : Shared} (r : Rel G fs H s) : After G fs H s H s := ⟨r, .refl⟩
theorem After.trans {G : Ctx} {fs : List Env} {H H' H'' : AH} {s s' s'' : Shared} (a : After G fs H s H' s') (b : After G fs H' s' H'' s'') : After G fs H s H'' s'' := ⟨b.1, KeepX.trans a.2 b.2⟩

theorem mem_of_lookup {α : Type} {l : List (Str × α)} {x : Str} {c : α} (e : l.lookup x = some c) : (x, c) ∈ l := by
  induction l with
  | nil => cases e
  | cons p l ih =>
    rw [List.lookup_cons] at e
    by_cases hy : x = p.1
    · rw [beq_iff_eq.mpr hy] at e; cases e; rw [hy]; exact .head _
    · rw [beq_eq_false_iff_ne.mpr hy] at e; exact .tail _ (ih e)
theorem LocsR.keep {base : Heap} {env : Env} {m : Loc} {h h' : Heap} {H H' : AH} (x : LocsR base env m h H) (k : Keep H h H' h') : LocsR base env m h' H' := by
  refine byc fun hnn => ?_
  obtain ⟨⟨mc, hn, hl⟩, hc, ho, hco, f1, f2⟩ := x
  refine hnn ?_; clear hnn
  refine byc fun hnn => ?_
  obtain ⟨oL, es, ep, e1, e2, e3, e4⟩ := hn
  refine hnn ?_; clear hnn
  obtain ⟨sl, e1'⟩ := k.at e1 ho
  refine ⟨⟨mc, ⟨_, es, ep, e1', e2, e3, e4⟩, fun x v a b => ?_⟩, fun x v a b => ?_, k.off e1 ho, fun p hp => ?_, f1, f2⟩
  · obtain ⟨c, q, r⟩ := hl x v a b; exact ⟨c, q, r.mono k⟩
  · refine byc fun hnn => ?_
    obtain ⟨c, o, cv, q1, q2, q3, q4⟩ := hc x v a b
    refine hnn ?_; clear hnn
    obtain ⟨sl', e'⟩ := k.at q2 (hco (x, c) (mem_of_lookup q1)).1
    exact ⟨c, _, cv, q1, e', q3, q4.mono k⟩
  · refine byc fun hnn => ?_
    obtain ⟨a, o, v, b, d⟩ := hco p hp
    refine hnn ?_; clear hnn
    obtain ⟨sl', e'⟩ := k.at b a
    exact ⟨k.off b a, _, v, e', d⟩

/-- posts at a concrete state -/
inductive QV (G : Ctx) (fs : List Env) (H : AH) (s : Shared) (Q : V → AH → Prop) (v : Value) (s' : Shared) : Prop
  | mk (a : V) (H' : AH) (x : After G fs H s H' s') (y : RV s'.heap H' a v) (z : Q a H') : QV G fs H s Q v s'
inductive QE (G : Ctx) (fs : List Env) (H : AH) (s : Shared) (E : AH → Prop) (e : Value) (s' : Shared) : Prop
  | mk (H' : AH) (x : After G fs H s H' s') (y : ExcSt G fs s.heap H' e s') (z : E H') : QE G fs H s E e s'
inductive QB (G : Ctx) (fs : List Env) (H : AH) (s : Shared) (Q : Bool → AH → Prop) (b : Bool) (s' : Shared) : Prop
  | mk (H' : AH) (x : After G fs H s H' s') (z : Q b H') : QB G fs H s Q b s'
inductive QU (G : Ctx) (fs : List Env) (H : AH) (s : Shared) (Q : AH → Prop) (b : Unit) (s' : Shared) : Prop
  | mk (H' : AH) (x : After G fs H s H' s') (z : Q H') : QU G fs H s Q b s'
theorem qv {G : Ctx} {fs : List Env} {H : AH} {s : Shared} {Q : V → AH → Prop} {R : Value → Shared → Prop} (k : ∀ v s' a H', After G fs H s H' s' → RV s'.heap H' a v → Q a H' → R v s') : ∀ v s', QV G fs H s Q v s' → R v s' := by
  rintro v s' ⟨a, H', x, y, z⟩; exact k v s' a H' x y z
theorem qb {G : Ctx} {fs : List Env} {H : AH} {s : Shared} {Q : Bool → AH → Prop} {R : Bool → Shared → Prop} (k : ∀ v s' H', After G fs H s H' s' → Q v H' → R v s') : ∀ v s', QB G fs H s Q v s' → R v s' := by
  rintro v s' ⟨H', x, z⟩; exact k v s' H' x z
theorem qu {G : Ctx} {fs : List Env} {H : AH} {s : Shared} {Q : AH → Prop} {R : Unit → Shared → Prop} (k : ∀ v s' H', After G fs H s H' s' → Q H' → R v s') : ∀ v s', QU G fs H s Q v s' → R v s' := by
  rintro v s' ⟨H', x, z⟩; exact k v s' H' x z
def RVi (h : Heap) (H : AH) : V → Value → Prop
  | .none, c => c = .none
  | .bool b, c => c = .bool b
  | .int i, c => ∃ t, c = .int i t
  | .str l, c => ∃ t, c = .str ⟨l.toArray⟩ t
  | .tup l, c => ∃ a items, c = .ref a ∧ IsTup h a items ∧ H a = Option.none ∧ RVs h H l items.toList
  | .ref a, c => c = .ref a
  | .bi i, c => c = .builtin i
  | .ty n, c => c = .type n
theorem RV.inv {h : Heap} {H : AH} {v : V} {c : Value} (x : RV h H v c) : RVi h H v c := by
  cases x with
  | tup a b c => exact ⟨_, _, rfl, a, b, c⟩
  | int i t => exact ⟨t, rfl⟩
  | str l t => exact ⟨t, rfl⟩
  | _ => rfl
def RVsi (h : Heap) (H : AH) : List V → List Value → Prop
  | [], cs => cs = []
  | v :: vs, cs => ∃ c cs', cs = c :: cs' ∧ RV h H v c ∧ RVs h H vs cs'
theorem RVs.inv {h : Heap} {H : AH} {v : List V} {c : List Value} (x : RVs h H v c) : RVsi h H v c := by
  cases x with
  | nil => rfl
  | cons a b => exact ⟨_, _, rfl, a, b⟩
/-- an expression's (or operation's) triple at a concrete state -/
def WV (G : Ctx) (fs : List Env) (A : Around) (t : Sem Value) (H : AH) (Q : V → AH → Prop) (E : AH → Prop) (s : Shared) : Prop := wpAny (model G.prog G.w) A t (QV G fs H s Q)
    (QE G fs H s E) s

def Ev (G : Ctx) (fs : List Env) (r : Nat) (env : Env) (m : Loc) (t : Sem Value) (H : AH) (Q : V → AH → Prop) (E : AH → Prop) : Prop := ∀ A s, AOK fs r A → Rel G fs H s → LocsR G.s₀.heap env m s.heap H → WV G fs A t H Q E s

theorem WV.mono {G : Ctx} {fs : List Env} {A : Around} {t : Sem Value} {H : AH} {Q Q' : V → AH → Prop} {E E' : AH → Prop} {s : Shared} (h : WV G fs A t H Q E s) (hq : ∀ a H', Q a H' → Q' a H') (he : ∀ H', E H' → E' H') : WV G fs A t H Q' E' s :=
  wpAny_mono h (fun _ _ ⟨a, H', x, y, z⟩ => ⟨a, H', x, y, hq _ _ z⟩) fun _ _ ⟨H', x, y, z⟩ => ⟨H', x, y, he _ z⟩

/-- carry on from a later state -/
theorem WV.from {G : Ctx} {fs : List Env} {A : Around} {t : Sem Value} {H H₁ : AH} {Q : V → AH → Prop} {E : AH → Prop} {s s₁ : Shared} (a : After G fs H s H₁ s₁) (h : WV G fs A t H₁ Q E s₁) :
    wpAny (model G.prog G.w) A t (QV G fs H s Q) (QE G fs H s E) s₁ :=
  wpAny_mono h (fun _ _ ⟨x, H', y, w, z⟩ => ⟨x, H', a.trans y, w, z⟩) fun _ _ ⟨H', y, z, u⟩ => ⟨H', a.trans y, z.older fun u' => a.2.back, u⟩

/-- a new token alone -/
theorem Rel.toks {G : Ctx} {fs : List Env} {H : AH} {s : Shared} {t : Nat} (r : Rel G fs H s) : Rel G fs H { s with toks := t } := ⟨r.base, r.off, r.objs, r.frames, r.foff, r.gens, r.os⟩
theorem After.toks {G : Ctx} {fs : List Env} {H : AH} {s : Shared} {t : Nat} (r : Rel G fs H s) : After G fs H s H { s with toks := t } := ⟨r.toks, .refl⟩

theorem WV.ret {G : Ctx} {fs : List Env} {H : AH} {Q : V → AH → Prop} {s : Shared} {t : Nat} {a : V} {c : Value} (r : Rel G fs H s) (v : RV s.heap H a c) (q : Q a H) :
    QV G fs H s Q c { s with toks := t } := ⟨a, H, After.toks r, v, q⟩
end SL0
section SL1
open PySem PySem.W PyProof.Rows
set_option tactic.hygienic false

theorem KeepX.frames {X : Addr → Prop} {H H' : AH} {h h' base : Heap} (k : KeepX X H h H' h') {l : List Env} (ff : h.FunFrames base l) (off : ∀ env ∈ l, ∀ L, env.frame = some L → H L = none)
    (hx : ∀ env ∈ l, ∀ L, env.frame = some L → X L → ∃ o', h'.get? L = some o' ∧ ∀ vs, o'.data ≠ .fields vs) : h'.FunFrames base l := by
  induction l with
  | nil => trivial
  | cons env rest ih =>
    refine byc fun hnn => ?_
    obtain ⟨hk, ⟨L, o, hf, hn, ho, hd⟩, hr⟩ := ff
    refine hnn ?_; clear hnn
    refine ⟨hk, ?_, ih hr (fun e he => off e (.tail _ he)) fun e he => hx e (.tail _ he)⟩
    by_cases q : X L
    · refine byc fun hnn => ?_
      obtain ⟨o', e1, e2⟩ := hx env (.head _) L hf q
      refine hnn ?_; clear hnn
      exact ⟨L, o', hf, hn, e1, e2⟩
    · obtain ⟨sl, e'⟩ := ((k L o ho).2 (off env (.head _) L hf)).2 fun x => (q x).elim
      exact ⟨L, _, hf, hn, e', hd⟩

theorem Rel.stepX {G : Ctx} {fs : List Env} {X : Addr → Prop} {H H' : AH} {s : Shared} {h' : Heap} {t : Nat} (r : Rel G fs H s) (k : KeepX X H s.heap H' h') (objs : ∀ a o, H' a = some o → RO G h' H' a o)
    (kb : ∀ b o, G.s₀.heap.get? b = some o → h'.get? b = some o)
    (hx : ∀ env ∈ fs, ∀ L, env.frame = some L → X L → ∃ o', h'.get? L = some o' ∧ ∀ vs, o'.data ≠ .fields vs) : Rel G fs H' { s with heap := h', toks := t } where
  base := kb
  off := fun b o e => k.off (r.base b o e) (r.off b o e)
  objs := objs
  frames := k.frames r.frames r.foff hx
  foff := fun env he L hf => by
    have hm : L ∈ fs.filterMap (·.frame) := List.mem_filterMap.mpr ⟨env, he, hf⟩
    obtain ⟨_, o, ho, _⟩ := r.frames.mem hm
    exact k.off ho (r.foff env he L hf)
  gens := r.gens
  os := r.os
theorem Rel.step {G : Ctx} {fs : List Env} {H H' : AH} {s : Shared} {h' : Heap} {t : Nat} (r : Rel G fs H s) (k : Keep H s.heap H' h') (objs : ∀ a o, H' a = some o → RO G h' H' a o)
    (kb : ∀ b o, G.s₀.heap.get? b = some o → h'.get? b = some o) : Rel G fs H' { s with heap := h', toks := t } := r.stepX k objs kb fun u' u' u' u' x => x.elim

theorem Rel.has {G : Ctx} {fs : List Env} {H : AH} {s : Shared} (r : Rel G fs H s) {a : Addr} {o : O} (e : H a = some o) : ∃ ob, s.heap.get? a = some ob := by
  have := r.objs a o e
  cases o with
  | list l => obtain ⟨_, _, e, _⟩ := this; exact ⟨_, e⟩
  | dict l n => obtain ⟨_, e, _⟩ := this; exact ⟨_, e⟩
  | inst c dx fm => exact ⟨_, this.1⟩
  | aux x =>
    obtain ⟨c, fm, e'⟩ := this
    obtain ⟨_, _, _, _, e2, _⟩ := r.objs x _ e'
    exact ⟨_, e2⟩
theorem Rel.notBase {G : Ctx} {fs : List Env} {H : AH} {s : Shared} (r : Rel G fs H s) {a : Addr} {o : O} (e : H a = some o) : G.s₀.heap.get? a = none := by
  cases q : G.s₀.heap.get? a with
  | none => rfl
  | some ob => rw [r.off a ob q] at e; cases e

/-- what is known of an object where the owned objects stand as they stood -/
theorem RO.monoT {G : Ctx} {H H' : AH} {h h' : Heap} (k : TupS H h H' h') (hH : ∀ b o, H b = some o → H' b = some o) (hh : ∀ b ob, H b ≠ none → h.get? b = some ob → h'.get? b = some ob) {a : Addr} {o : O}
    (ha : H a = some o) (x : RO G h H a o) : RO G h' H' a o := by
  cases o with
  | list l => obtain ⟨items, n, e, q⟩ := x; exact ⟨items, n, hh _ _ (by rw [ha]; simp) e, q.monoT k⟩
  | dict l n => obtain ⟨es, e, q, nd⟩ := x; exact ⟨es, hh _ _ (by rw [ha]; simp) e, q.monoT k, nd⟩
  | inst c dx fm =>
    obtain ⟨e, hd, es, n, e2, q⟩ := x
    have hdn : H dx ≠ none := by rw [hd]; simp
    exact ⟨hh _ _ (by rw [ha]; simp) e, hH _ _ hd, es, n, hh _ _ hdn e2, q.monoT k⟩
  | aux x' => obtain ⟨c, fm, e⟩ := x; exact ⟨c, fm, hH _ _ e⟩
theorem RO.mono {G : Ctx} {X : Addr → Prop} {H H' : AH} {h h' : Heap} (k : KeepX X H h H' h') (hH : ∀ b o, H b = some o → H' b = some o) (hh : ∀ b ob, H b ≠ none → h.get? b = some ob → h'.get? b = some ob) {a : Addr} {o : O}
    (ha : H a = some o) (x : RO G h H a o) : RO G h' H' a o := RO.monoT k.tups hH hh ha x

theorem Keep.of_grow {H : AH} {h h' : Heap} (hk : ∀ b o, h.get? b = some o → h'.get? b = some o) : Keep H h H h' := fun b o e => ⟨⟨o, hk b o e⟩, fun n => ⟨n, fun u' => ⟨o.slots, hk b o e⟩⟩⟩

/-- the heap has grown by what is frozen -/
theorem Rel.grow {G : Ctx} {fs : List Env} {H : AH} {s : Shared} {h' : Heap} {t : Nat} (r : Rel G fs H s) (hk : ∀ b o, s.heap.get? b = some o → h'.get? b = some o) : Rel G fs H { s with heap := h', toks := t } :=
  r.step (Keep.of_grow hk) (fun u' u' e => RO.mono (Keep.of_grow hk) (fun u' u' e => e) (fun b ob u' e => hk b ob e) e (r.objs _ _ e)) fun b o e => hk _ _ (r.base b o e)
theorem After.grow {G : Ctx} {fs : List Env} {H : AH} {s : Shared} {h' : Heap} {t : Nat} (r : Rel G fs H s) (hk : ∀ b o, s.heap.get? b = some o → h'.get? b = some o) : After G fs H s H { s with heap := h', toks := t } :=
  ⟨r.grow hk, Keep.of_grow hk⟩
theorem After.push {G : Ctx} {fs : List Env} {H : AH} {s : Shared} {o : Obj} {t : Nat} (r : Rel G fs H s) : After G fs H s H { s with heap := s.heap.push o, toks := t } :=
  After.grow r fun u' u' e => Heap.get?_push_of_some _ e

theorem Keep.of_new {H : AH} {h h' : Heap} {a : Addr} {o : O} (hk : ∀ b o, h.get? b = some o → h'.get? b = some o) (hn : h.get? a = none) : Keep H h (upd H a o) h' := fun b ob e => ⟨⟨ob, hk b ob e⟩, fun n =>
  ⟨by rw [upd_ne (fun q => by rw [q, hn] at e; cases e)]; exact n, fun u' => ⟨ob.slots, hk b ob e⟩⟩⟩

/-- one new object of ours -/
theorem After.new {G : Ctx} {fs : List Env} {H : AH} {s : Shared} {h' : Heap} {t : Nat} {a : Addr} {o : O} (r : Rel G fs H s) (hk : ∀ b o, s.heap.get? b = some o → h'.get? b = some o) (hn : s.heap.get? a = none)
    (ho : RO G h' (upd H a o) a o) : After G fs H s (upd H a o) { s with heap := h', toks := t } := by
  have hH : H a = none := by
    cases q : H a with
    | none => rfl
    | some o' => obtain ⟨ob, e⟩ := r.has q; rw [hn] at e; cases e
  refine ⟨r.step (Keep.of_new hk hn) (fun b ob e => ?_) fun b o e => hk _ _ (r.base b o e), Keep.of_new hk hn⟩
  by_cases q : b = a
  · subst q; rw [upd_eq] at e; cases e; exact ho
  · rw [upd_ne q] at e
    exact RO.mono (Keep.of_new hk hn) (fun c oc e => by rw [upd_ne (fun z => by rw [z, hH] at e; cases e)]; exact e) (fun c oc u' e => hk c oc e) e (r.objs _ _ e)

theorem Keep.of_upd {H : AH} {h h' : Heap} {a : Addr} {o : O} {ob : Obj} (hs : Heap.SameBut a h h') (hn : H a ≠ none) (ha : h'.get? a = some ob) : Keep H h (upd H a o) h' := fun b ob' e =>
  ⟨by by_cases q : b = a
      · exact ⟨ob, q ▸ ha⟩
      · exact ⟨ob', (hs.2 b q).trans e⟩, fun n =>
  have q : b ≠ a := fun q => hn (q ▸ n)
  ⟨by rw [upd_ne q]; exact n, fun u' => ⟨ob'.slots, (hs.2 b q).trans e⟩⟩⟩

/-- one object of ours is changed in place (a list or dict) -/
theorem After.turn {G : Ctx} {fs : List Env} {H : AH} {s : Shared} {h' : Heap} {t : Nat} {a : Addr} {o o' : O} (r : Rel G fs H s) (hs : Heap.SameBut a s.heap h') (ho : H a = some o) (hp : (∃ l, o = .list l) ∨ ∃ l n, o = .dict l n)
    (hq : RO G h' (upd H a o') a o') (hx : ∀ x, o' ≠ .aux x := by intro _ z; cases z) : After G fs H s (upd H a o') { s with heap := h', toks := t } := by
  have hn : H a ≠ none := by rw [ho]; simp
  have ha : ∃ ob, h'.get? a = some ob := by
    cases o' with
    | list l => obtain ⟨_, _, e, _⟩ := hq; exact ⟨_, e⟩
    | dict l n => obtain ⟨_, e, _⟩ := hq; exact ⟨_, e⟩
    | inst c dx fm => exact ⟨_, hq.1⟩
    | aux x => exact (hx x rfl).elim
  obtain ⟨oa, ha⟩ := ha
  have k : Keep H s.heap (Mine.upd H a o') h' := Keep.of_upd hs hn ha
  refine ⟨r.step k (fun b ob e => ?_) fun b ob e => (hs.2 b fun q => ?_).trans (r.base b ob e), k⟩
  · by_cases q : b = a
    · subst q; rw [upd_eq] at e; cases e; exact hq
    · rw [upd_ne q] at e
      have x := r.objs _ _ e
      cases ob with
      | list l => obtain ⟨items, n, e1, q1⟩ := x; exact ⟨items, n, (hs.2 b q).trans e1, q1.mono k⟩
      | dict l n => obtain ⟨es, e1, q1, nd⟩ := x; exact ⟨es, (hs.2 b q).trans e1, q1.mono k, nd⟩
      | inst c dx fm =>
        refine byc fun hnn => ?_
        obtain ⟨e1, hd, es, n, e2, q1⟩ := x
        refine hnn ?_; clear hnn
        have hdx : dx ≠ a := fun z => by
          rw [z, ho] at hd
          rcases hp with ⟨l, rfl⟩ | ⟨l, n, rfl⟩ <;> cases hd
        exact ⟨(hs.2 b q).trans e1, by rw [upd_ne hdx]; exact hd, es, n, (hs.2 dx hdx).trans e2, q1.mono k⟩
      | aux x' =>
        refine byc fun hnn => ?_
        obtain ⟨c, fm, e1⟩ := x
        refine hnn ?_; clear hnn
        have hx : x' ≠ a := fun z => by
          rw [z, ho] at e1
          rcases hp with ⟨l, rfl⟩ | ⟨l, n, rfl⟩ <;> cases e1
        exact ⟨c, fm, by rw [upd_ne hx]; exact e1⟩
  · rw [q, r.notBase ho] at e; cases e

section
variable {G : Ctx} {fs : List Env} {r : Nat} {env : Env} {m : Loc} {H : AH} {Q : V → AH → Prop} {E : AH → Prop}

/-! expressions -/
theorem Ev.mono {t : Sem Value} {Q' : V → AH → Prop} {E' : AH → Prop} (h : Ev G fs r env m t H Q E) (hq : ∀ a H', Q a H' → Q' a H') (he : ∀ H', E H' → E' H') : Ev G fs r env m t H Q' E' := fun A s a b c => (h A s a b c).mono hq he

theorem Ev_none {k pos} (h : Q .none H) : Ev G fs r env m (eval (.Constant .none k pos) env) H Q E := fun u' s u' b u' => wpAny_Constant_none ⟨.none, H, .refl b, .none, h⟩
theorem Ev_bool {v k pos} (h : Q (.bool v) H) : Ev G fs r env m (eval (.Constant (.bool v) k pos) env) H Q E := fun u' s u' b u' => wpAny_Constant_bool ⟨.bool v, H, .refl b, .bool v, h⟩
theorem Ev_int {v k pos} (h : Q (.int v) H) : Ev G fs r env m (eval (.Constant (.int v) k pos) env) H Q E := fun u' s u' b u' => wpAny_Constant_int ⟨.int v, H, .toks b, .int v _, h⟩
theorem Ev_str {x : Str} {k pos} (h : Q (.str x.cps.toList) H) : Ev G fs r env m (eval (.Constant (.str x) k pos) env) H Q E :=
  fun u' s u' b u' => wpAny_Constant_str ⟨.str x.cps.toList, H, .toks b, .str x.cps.toList _, h⟩

theorem Ev_local {x : Str} {pos : Pos} {v : V} (hv : m x = some v) (h : Q v H) (hk : env.scope.kind = .function := by rfl) (hl : env.kindOf x = some .local := by rfl) (hd : (x == ("__debug__" : Str)) = false := by decide) :
    Ev G fs r env m (eval (.Name x pos) env) H Q E := fun A s u' b c => by
  refine byc fun hnn => ?_
  obtain ⟨mc, hn, q⟩ := c.ns
  refine hnn ?_; clear hnn
  refine byc fun hnn => ?_
  obtain ⟨cv, e, rv⟩ := q x v hv hl
  refine hnn ?_; clear hnn
  exact wpAny_Name (wpAny_loadName_local hk hl hn e ⟨v, H, .refl b, rv, h⟩) hd

theorem Rel.keepK (b : Rel G fs H s) : G.K.In s.heap := G.kin.keeps b.base
theorem Rel.topK (b : Rel G fs H s) : TopRead G.p G.loose G.mg G.mb s.heap := G.top.keeps b.base

inductive GV : V → Value → Prop
  | ref (a : Addr) : GV (.ref a) (.ref a)
  | bi (i : String) : GV (.bi i) (.builtin i)
  | ty (i : String) : GV (.ty i) (.type i)
  | int (i : Int) (t : Tok) : GV (.int i) (.int i t)
  | str (x : Str) (t : Tok) : GV (.str x.cps.toList) (.str x t)
theorem GV.rv {v : V} {c : Value} {h : Heap} (g : GV v c) : RV h H v c := by
  cases g with
  | ref a => exact .ref a
  | bi a => exact .bi a
  | ty a => exact .ty a
  | int i t => exact .int i t
  | str x t => exact .str x.cps.toList t

theorem Ev_global {x : Str} {pos : Pos} {v : V} {c : Value} (e : nsIn G.K mainGlobals x = some (some c)) (g : GV v c) (h : Q v H) (hk : env.scope.kind = .function := by rfl) (hl : env.kindOf x = some .globalImplicit := by rfl)
    (hg : env.globals = mainGlobals := by rfl) (hd : (x == ("__debug__" : Str)) = false := by decide) :
    Ev G fs r env m (eval (.Name x pos) env) H Q E := fun A s u' b u' => by
  refine Calls.Name_function_global hk hl (Calls.loadGlobal_global (by rw [hg]; exact b.topK.g) (mg_of b.keepK b.topK.g e) ⟨v, H, .refl b, g.rv, h⟩) hd

theorem Ev_builtin {x : Str} {pos : Pos} {v : V} {c : Value} (e : nsIn G.K mainGlobals x = some none) (hv : bootBuiltins x = some c) (hn : x ≠ "__name__") (g : GV v c) (h : Q v H) (hk : env.scope.kind = .function := by rfl)
    (hl : env.kindOf x = some .globalImplicit := by rfl) (hg : env.globals = mainGlobals := by rfl) (hb : env.builtins = builtinsNs := by rfl) (hd : (x == ("__debug__" : Str)) = false := by decide) :
    Ev G fs r env m (eval (.Name x pos) env) H Q E := fun A s u' b u' => by
  refine Calls.Name_function_global hk hl (Calls.loadGlobal_builtin (by rw [hg]; exact b.topK.g) (mg_none_of b.keepK b.topK.g e) (by rw [hb]; exact b.topK.b) ((G.top.builtins x hn).trans hv) ⟨v, H, .refl b, g.rv, h⟩) hd

/-! operations on values -/
def BOp (G : Ctx) (fs : List Env) (r : Nat) (op : Operator) (a b : V) (H : AH) (Q : V → AH → Prop) (E : AH → Prop) : Prop := ∀ A s va vb, AOK fs r A → Rel G fs H s → RV s.heap H a va → RV s.heap H b vb → WV G fs A (binaryOp op va vb) H Q E s
def COp (G : Ctx) (fs : List Env) (r : Nat) (op : CmpOp) (a b : V) (H : AH) (Q : V → AH → Prop) (E : AH → Prop) : Prop := ∀ A s va vb, AOK fs r A → Rel G fs H s → RV s.heap H a va → RV s.heap H b vb → WV G fs A (compareOp op va vb) H Q E s
/-- truth, as a triple that yields a bool -/
def Tr (G : Ctx) (fs : List Env) (r : Nat) (a : V) (H : AH) (Q : Bool → AH → Prop) (E : AH → Prop) : Prop := ∀ A s va, AOK fs r A → Rel G fs H s → RV s.heap H a va → wpAny (model G.prog G.w) A (truthy va) (QB G fs H s Q) (QE G fs H s E) s
def Ts (G : Ctx) (fs : List Env) (r : Nat) (env : Env) (m : Loc) (t : Sem Bool) (H : AH) (Q : Bool → AH → Prop) (E : AH → Prop) : Prop := ∀ A s, AOK fs r A → Rel G fs H s → LocsR G.s₀.heap env m s.heap H → wpAny (model G.prog G.w) A t (QB G fs H s Q) (QE G fs H s E) s

theorem bool_from {A : Around} {t : Sem Bool} {H₁ : AH} {Q : Bool → AH → Prop} {s s₁ : Shared} (a : After G fs H s H₁ s₁)
    (h : wpAny (model G.prog G.w) A t (QB G fs H₁ s₁ Q) (QE G fs H₁ s₁ E) s₁) :
    wpAny (model G.prog G.w) A t (QB G fs H s Q) (QE G fs H s E) s₁ :=
  wpAny_mono h (fun _ _ ⟨H', y, z⟩ => ⟨H', a.trans y, z⟩) fun _ _ ⟨H', y, z, u⟩ => ⟨H', a.trans y, z.older fun u' => a.2.back, u⟩

theorem ex_from {H₁ : AH} {s s₁ s' : Shared} {e : Value} (a : After G fs H s H₁ s₁) : QE G fs H₁ s₁ E e s' → QE G fs H s E e s' :=
  fun ⟨H', y, z, u⟩ => ⟨H', a.trans y, z.older fun u' => a.2.back, u⟩

abbrev KBin2 (G : Ctx) (fs : List Env) (r : Nat) (op : Operator) (a : V) (Q : V → AH → Prop) (E : AH → Prop) : V → AH → Prop := fun b H => BOp G fs r op a b H Q E
abbrev KBin1 (G : Ctx) (fs : List Env) (r : Nat) (env : Env) (m : Loc) (rr : Expr) (op : Operator) (Q : V → AH → Prop) (E : AH → Prop) : V → AH → Prop := fun a H => Ev G fs r env m (eval rr env) H (KBin2 G fs r op a Q E) E
abbrev KCmp2 (G : Ctx) (fs : List Env) (r : Nat) (op : CmpOp) (a : V) (Q : V → AH → Prop) (E : AH → Prop) : V → AH → Prop := fun b H => COp G fs r op a b H Q E
abbrev KCmp1 (G : Ctx) (fs : List Env) (r : Nat) (env : Env) (m : Loc) (rr : Expr) (op : CmpOp) (Q : V → AH → Prop) (E : AH → Prop) : V → AH → Prop := fun a H => Ev G fs r env m (eval rr env) H (KCmp2 G fs r op a Q E) E
abbrev KTr (G : Ctx) (fs : List Env) (r : Nat) (Q : Bool → AH → Prop) (E : AH → Prop) : V → AH → Prop := fun c H => Tr G fs r c H Q E
abbrev KNot (Q : Bool → AH → Prop) : Bool → AH → Prop := fun b H => Q (!b) H
abbrev KIfE (G : Ctx) (fs : List Env) (r : Nat) (env : Env) (m : Loc) (body orelse : Expr) (Q : V → AH → Prop) (E : AH → Prop) : Bool → AH → Prop := fun b H => if b then Ev G fs r env m (eval body env) H Q E else Ev G fs r env m (eval orelse env) H Q E
abbrev KIfT (G : Ctx) (fs : List Env) (r : Nat) (env : Env) (m : Loc) (body orelse : Expr) (Q : Bool → AH → Prop) (E : AH → Prop) : Bool → AH → Prop := fun b H => if b then Ts G fs r env m (isTrue body env (eval body env)) H Q E else Ts G fs r env m (isTrue orelse env (eval orelse env)) H Q E
abbrev KAnd (G : Ctx) (fs : List Env) (r : Nat) (env : Env) (m : Loc) (rest : List Expr) (Q : Bool → AH → Prop) (E : AH → Prop) : Bool → AH → Prop := fun b H => if b then Ts G fs r env m (allTrue .And rest env) H Q E else Q false H
abbrev KOr (G : Ctx) (fs : List Env) (r : Nat) (env : Env) (m : Loc) (rest : List Expr) (Q : Bool → AH → Prop) (E : AH → Prop) : Bool → AH → Prop := fun b H => if b then Q true H else Ts G fs r env m (allTrue .Or rest env) H Q E
theorem Ev_BinOp {l rr : Expr} {op : Operator} {pos : Pos} (h : Ev G fs r env m (eval l env) H (KBin1 G fs r env m rr op Q E) E) :
    Ev G fs r env m (eval (.BinOp l op rr pos) env) H Q E := fun A s a b c => by
  refine wpAny_BinOp (wpAny_mono (h A s a b c) ?_ fun u' u' z => z)
  first | refine qv fun va s₁ x H₁ a₁ v₁ h₁ => ?_ | refine ql fun va s₁ x H₁ a₁ v₁ h₁ => ?_ | rintro va s₁ ⟨x, H₁, a₁, v₁, h₁⟩
  refine wpAny_mono (h₁ A s₁ a a₁.1 (c.keep a₁.2)) ?_ fun u' u' z => ex_from a₁ z
  first | refine qv fun vb s₂ y H₂ a₂ v₂ h₂ => ?_ | refine ql fun vb s₂ y H₂ a₂ v₂ h₂ => ?_ | rintro vb s₂ ⟨y, H₂, a₂, v₂, h₂⟩
  exact WV.from (a₁.trans a₂) (h₂ A s₂ va vb a a₂.1 (v₁.mono a₂.2) v₂)

theorem Ev_IfExp {test body orelse : Expr} {pos : Pos} (h : Ts G fs r env m (isTrue test env (eval test env)) H (KIfE G fs r env m body orelse Q E) E) :
    Ev G fs r env m (eval (.IfExp test body orelse pos) env) H Q E := fun A s a b c => by
  refine wpAny_IfExp (wpAny_mono (h A s a b c) ?_ fun u' u' z => z)
  first | refine qb fun v s₁ H₁ a₁ h₁ => ?_ | refine qu fun v s₁ H₁ a₁ h₁ => ?_ | rintro v s₁ ⟨H₁, a₁, h₁⟩
  (first | (have hqv := v.inv; clear v; obtain ⟨_, rfl⟩ := hqv) | (have hqv := v.inv; clear v; obtain rfl := hqv) | cases v)
  · exact WV.from a₁ (h₁ A s₁ a a₁.1 (c.keep a₁.2))
  · exact WV.from a₁ (h₁ A s₁ a a₁.1 (c.keep a₁.2))

theorem Ev_Compare {l rr : Expr} {op : CmpOp} {pos : Pos} (h : Ev G fs r env m (eval l env) H (KCmp1 G fs r env m rr op Q E) E)
    (hm : behindInMarks op rr = false := by with_unfolding_all rfl) : Ev G fs r env m (eval (.Compare l [op] [rr] pos) env) H Q E := fun A s a b c => by
  refine wpAny_Compare1 (wpAny_mono (h A s a b c) ?_ fun u' u' z => z) hm
  first | refine qv fun va s₁ x H₁ a₁ v₁ h₁ => ?_ | refine ql fun va s₁ x H₁ a₁ v₁ h₁ => ?_ | rintro va s₁ ⟨x, H₁, a₁, v₁, h₁⟩
  refine wpAny_mono (h₁ A s₁ a a₁.1 (c.keep a₁.2)) ?_ fun u' u' z => ex_from a₁ z
  first | refine qv fun vb s₂ y H₂ a₂ v₂ h₂ => ?_ | refine ql fun vb s₂ y H₂ a₂ v₂ h₂ => ?_ | rintro vb s₂ ⟨y, H₂, a₂, v₂, h₂⟩
  exact WV.from (a₁.trans a₂) (h₂ A s₂ va vb a a₂.1 (v₁.mono a₂.2) v₂)

theorem Ts_Compare {l rr : Expr} {op : CmpOp} {pos : Pos} {w : Sem Value} {Q : Bool → AH → Prop}
    (h : Ev G fs r env m (eval l env) H (KCmp1 G fs r env m rr op (KTr G fs r Q E) E) E)
    (hm : behindInMarks op rr = false := by with_unfolding_all rfl) : Ts G fs r env m (isTrue (.Compare l [op] [rr] pos) env w) H Q E := fun A s a b c => by
  refine wpAny_isTrue_Compare1 (wpAny_mono (h A s a b c) ?_ fun u' u' z => z) hm
  first | refine qv fun va s₁ x H₁ a₁ v₁ h₁ => ?_ | refine ql fun va s₁ x H₁ a₁ v₁ h₁ => ?_ | rintro va s₁ ⟨x, H₁, a₁, v₁, h₁⟩
  refine wpAny_mono (h₁ A s₁ a a₁.1 (c.keep a₁.2)) ?_ fun u' u' z => ex_from a₁ z
  first | refine qv fun vb s₂ y H₂ a₂ v₂ h₂ => ?_ | refine ql fun vb s₂ y H₂ a₂ v₂ h₂ => ?_ | rintro vb s₂ ⟨y, H₂, a₂, v₂, h₂⟩
  refine wpAny_mono (h₂ A s₂ va vb a a₂.1 (v₁.mono a₂.2) v₂) ?_ fun u' u' z => ex_from (a₁.trans a₂) z
  first | refine qv fun vc s₃ y H₃ a₃ v₃ h₃ => ?_ | refine ql fun vc s₃ y H₃ a₃ v₃ h₃ => ?_ | rintro vc s₃ ⟨y, H₃, a₃, v₃, h₃⟩
  exact bool_from ((a₁.trans a₂).trans a₃) (h₃ A s₃ vc a a₃.1 v₃)

theorem Ts_Not {x : Expr} {pos : Pos} {w : Sem Value} {Q : Bool → AH → Prop} (h : Ts G fs r env m (isTrue x env (eval x env)) H (KNot Q) E) :
    Ts G fs r env m (isTrue (.UnaryOp .Not x pos) env w) H Q E := fun A s a b c =>
  wpAny_isTrue_Not (wpAny_mono (h A s a b c) (qb fun u' u' H' x z => ⟨H', x, z⟩) fun u' u' z => z)

theorem Ts_value {e : Expr} {w : Sem Value} {Q : Bool → AH → Prop} (h : Ev G fs r env m w H (KTr G fs r Q E) E)
    (he : isTrue e env w = (do let v ← w; standAt e.pos; holding [v] (truthy v)) := by rfl) : Ts G fs r env m (isTrue e env w) H Q E := fun A s a b c => by
  refine wpAny_isTrue_value (wpAny_mono (h A s a b c) ?_ fun u' u' z => z) he
  first | refine qv fun va s₁ x H₁ a₁ v₁ h₁ => ?_ | refine ql fun va s₁ x H₁ a₁ v₁ h₁ => ?_ | rintro va s₁ ⟨x, H₁, a₁, v₁, h₁⟩
  exact bool_from a₁ (h₁ A s₁ va a a₁.1 v₁)

theorem Ts_BoolOp {op : BoolOp} {values : List Expr} {pos : Pos} {w : Sem Value} {Q : Bool → AH → Prop} (h : Ts G fs r env m (allTrue op values env) H Q E) : Ts G fs r env m (isTrue (.BoolOp op values pos) env w) H Q E := fun A s a b c =>
  wpAny_isTrue_BoolOp (h A s a b c)
theorem Ts_And_nil {Q : Bool → AH → Prop} (h : Q true H) : Ts G fs r env m (allTrue .And [] env) H Q E := fun u' u' u' b u' => wpAny_allTrue_And_nil ⟨H, .refl b, h⟩
theorem Ts_Or_nil {Q : Bool → AH → Prop} (h : Q false H) : Ts G fs r env m (allTrue .Or [] env) H Q E := fun u' u' u' b u' => wpAny_allTrue_Or_nil ⟨H, .refl b, h⟩
theorem Ts_And_cons {x : Expr} {rest : List Expr} {Q : Bool → AH → Prop} (h : Ts G fs r env m (isTrue x env (eval x env)) H (KAnd G fs r env m rest Q E) E) :
    Ts G fs r env m (allTrue .And (x :: rest) env) H Q E := fun A s a b c => by
  refine wpAny_allTrue_And_cons (wpAny_mono (h A s a b c) ?_ fun u' u' z => z)
  first | refine qb fun v s₁ H₁ a₁ h₁ => ?_ | refine qu fun v s₁ H₁ a₁ h₁ => ?_ | rintro v s₁ ⟨H₁, a₁, h₁⟩
  (first | (have hqv := v.inv; clear v; obtain ⟨_, rfl⟩ := hqv) | (have hqv := v.inv; clear v; obtain rfl := hqv) | cases v)
  · exact ⟨H₁, a₁, h₁⟩
  · exact bool_from a₁ (h₁ A s₁ a a₁.1 (c.keep a₁.2))
theorem Ts_Or_cons {x : Expr} {rest : List Expr} {Q : Bool → AH → Prop} (h : Ts G fs r env m (isTrue x env (eval x env)) H (KOr G fs r env m rest Q E) E) :
    Ts G fs r env m (allTrue .Or (x :: rest) env) H Q E := fun A s a b c => by
  refine wpAny_allTrue_Or_cons (wpAny_mono (h A s a b c) ?_ fun u' u' z => z)
  first | refine qb fun v s₁ H₁ a₁ h₁ => ?_ | refine qu fun v s₁ H₁ a₁ h₁ => ?_ | rintro v s₁ ⟨H₁, a₁, h₁⟩
  (first | (have hqv := v.inv; clear v; obtain ⟨_, rfl⟩ := hqv) | (have hqv := v.inv; clear v; obtain rfl := hqv) | cases v)
  · exact bool_from a₁ (h₁ A s₁ a a₁.1 (c.keep a₁.2))
  · exact ⟨H₁, a₁, h₁⟩
theorem Ts_IfExp {test body orelse : Expr} {pos : Pos} {w : Sem Value} {Q : Bool → AH → Prop} (h : Ts G fs r env m (isTrue test env (eval test env)) H (KIfT G fs r env m body orelse Q E) E) :
    Ts G fs r env m (isTrue (.IfExp test body orelse pos) env w) H Q E := fun A s a b c => by
  show wpAny _ A (do if ← isTrue test env (eval test env) then isTrue body env (eval body env) else isTrue orelse env (eval orelse env)) _ _ s
  refine wpAny_bind (wpAny_mono (h A s a b c) ?_ fun u' u' z => z)
  first | refine qb fun v s₁ H₁ a₁ h₁ => ?_ | refine qu fun v s₁ H₁ a₁ h₁ => ?_ | rintro v s₁ ⟨H₁, a₁, h₁⟩
  (first | (have hqv := v.inv; clear v; obtain ⟨_, rfl⟩ := hqv) | (have hqv := v.inv; clear v; obtain rfl := hqv) | cases v)
  · exact bool_from a₁ (h₁ A s₁ a a₁.1 (c.keep a₁.2))
  · exact bool_from a₁ (h₁ A s₁ a a₁.1 (c.keep a₁.2))

/-! boolOp as a value -/
theorem Ev_BoolOp {op : BoolOp} {values : List Expr} {pos : Pos} (h : Ev G fs r env m (boolOp pos op (evalEach values env)) H Q E) : Ev G fs r env m (eval (.BoolOp op values pos) env) H Q E := h
theorem Ev_boolOp_one {op : BoolOp} {x : Expr} {pos : Pos} (h : Ev G fs r env m (eval x env) H Q E) : Ev G fs r env m (boolOp pos op (evalEach [x] env)) H Q E := h
theorem Ev_boolOp_cons {op : BoolOp} {x y : Expr} {rest : List Expr} {pos : Pos}
    (h : Ev G fs r env m (eval x env) H (fun v H₁ => Tr G fs r v H₁ (fun b H₂ => match op, b with | .And, false | .Or, true => Q v H₂ | _, _ => Ev G fs r env m (boolOp pos op (evalEach (y :: rest) env)) H₂ Q E) E) E) :
    Ev G fs r env m (boolOp pos op (evalEach (x :: y :: rest) env)) H Q E := fun A s a b c => by
  show wpAny _ A (do
    let v ← eval x env
    standAt pos
    let t ← holding [v] (truthy v)
    match op, t with
    | .And, false | .Or, true => pure v
    | _, _ => boolOp pos op (evalEach (y :: rest) env)) _ _ s
  refine wpAny_bind (wpAny_mono (h A s a b c) ?_ fun u' u' z => z)
  first | refine qv fun va s₁ x H₁ a₁ v₁ h₁ => ?_ | refine ql fun va s₁ x H₁ a₁ v₁ h₁ => ?_ | rintro va s₁ ⟨x, H₁, a₁, v₁, h₁⟩
  refine wpAny_bind (wpAny_standAt (wpAny_bind (wpAny_holding (wpAny_mono (h₁ A s₁ va a a₁.1 v₁) ?_ fun u' u' z => ex_from a₁ z))))
  first | refine qb fun v s₂ H₂ a₂ h₂ => ?_ | refine qu fun v s₂ H₂ a₂ h₂ => ?_ | rintro v s₂ ⟨H₂, a₂, h₂⟩
  cases op <;> (first | (have hqv := v.inv; clear v; obtain ⟨_, rfl⟩ := hqv) | (have hqv := v.inv; clear v; obtain rfl := hqv) | cases v)
  · exact wpAny_pure ⟨x, H₂, a₁.trans a₂, v₁.mono a₂.2, h₂⟩
  · exact WV.from (a₁.trans a₂) (h₂ A s₂ a a₂.1 (c.keep (a₁.trans a₂).2))
  · exact WV.from (a₁.trans a₂) (h₂ A s₂ a a₂.1 (c.keep (a₁.trans a₂).2))
  · exact wpAny_pure ⟨x, H₂, a₁.trans a₂, v₁.mono a₂.2, h₂⟩
end
end SL1
section SL2
open PySem PySem.W PyProof.Rows
set_option tactic.hygienic false

inductive Fl where
  | next | brk | cont
  | ret (v : V)
inductive RF (h : Heap) (H : AH) : Fl → Flow → Prop
  | next : RF h H .next .next
  | brk : RF h H .brk .brk
  | cont : RF h H .cont .cont
  | ret {v c} : RV h H v c → RF h H (.ret v) (.ret c)

structure AfterX (G : Ctx) (fs : List Env) (env : Env) (H : AH) (s : Shared) (H' : AH) (s' : Shared) : Prop where
  r : Rel G fs H' s'
  k : KeepX (mineX env) H s.heap H' s'.heap
theorem After.x {G : Ctx} {fs : List Env} {env : Env} {H H' : AH} {s s' : Shared} (a : After G fs H s H' s') : AfterX G fs env H s H' s' := ⟨a.1, KeepX.of a.2⟩

theorem AfterX.trans {G : Ctx} {fs : List Env} {env : Env} {H H' H'' : AH} {s s' s'' : Shared} (a : AfterX G fs env H s H' s') (b : AfterX G fs env H' s' H'' s'') :
    AfterX G fs env H s H'' s'' := ⟨b.1, KeepX.trans a.2 b.2⟩

inductive QF (G : Ctx) (fs : List Env) (env : Env) (H : AH) (s : Shared) (Q : Fl → Loc → AH → Prop) (f : Flow) (s' : Shared) : Prop
  | mk (fl : Fl) (m' : Loc) (H' : AH) (x : AfterX G fs env H s H' s') (y : LocsR G.s₀.heap env m' s'.heap H') (w : RF s'.heap H' fl f) (z : Q fl m' H') : QF G fs env H s Q f s'
inductive QX (G : Ctx) (fs : List Env) (env : Env) (H : AH) (s : Shared) (E : AH → Prop) (e : Value) (s' : Shared) : Prop
  | mk (H' : AH) (x : AfterX G fs env H s H' s') (y : LocsR G.s₀.heap env noLoc s'.heap H') (w : ExcSt G fs s.heap H' e s') (z : E H') : QX G fs env H s E e s'
theorem qf {G : Ctx} {fs : List Env} {env : Env} {H : AH} {s : Shared} {Q : Fl → Loc → AH → Prop} {R : Flow → Shared → Prop} (k : ∀ f s' fl m' H', AfterX G fs env H s H' s' → LocsR G.s₀.heap env m' s'.heap H' → RF s'.heap H' fl f → Q fl m' H' → R f s') : ∀ f s', QF G fs env H s Q f s' → R f s' := by
  rintro f s' ⟨fl, m', H', x, y, z, w⟩; exact k f s' fl m' H' x y z w
def WS (G : Ctx) (fs : List Env) (env : Env) (A : Around) (t : Sem Flow) (H : AH) (Q : Fl → Loc → AH → Prop) (E : AH → Prop) (s : Shared) : Prop := wpAny (model G.prog G.w) A t (QF G fs env H s Q)
    (QX G fs env H s E) s
def Ex (G : Ctx) (fs : List Env) (r : Nat) (env : Env) (m : Loc) (t : Sem Flow) (H : AH) (Q : Fl → Loc → AH → Prop) (E : AH → Prop) : Prop := ∀ A s, AOK fs r A → Rel G fs H s → LocsR G.s₀.heap env m s.heap H → WS G fs env A t H Q E s

theorem LocsR.none {base h : Heap} {env : Env} {m : Loc} {H : AH} (c : LocsR base env m h H) : LocsR base env noLoc h H :=
  ⟨let ⟨mc, a, _⟩ := c.ns; ⟨mc, a, fun x v e => (nomatch e)⟩, (fun x v e => (nomatch e)), c.off, c.coff, c.fresh, c.cfresh⟩
theorem LocsR.sub {base h : Heap} {env : Env} {m m' : Loc} {H : AH} (c : LocsR base env m h H) (k : ∀ x v, m' x = some v → m x = some v) : LocsR base env m' h H :=
  ⟨let ⟨mc, a, b⟩ := c.ns; ⟨mc, a, fun x v e => b x v (k x v e)⟩, fun x v e => c.cl x v (k x v e), c.off, c.coff, c.fresh, c.cfresh⟩

section
variable {G : Ctx} {fs : List Env} {r : Nat} {env : Env} {m : Loc} {H : AH} {Q : Fl → Loc → AH → Prop} {E : AH → Prop}

theorem WS.from {A : Around} {t : Sem Flow} {H₁ : AH} {s s₁ : Shared} (a : AfterX G fs env H s H₁ s₁) (h : WS G fs env A t H₁ Q E s₁) :
    wpAny (model G.prog G.w) A t (QF G fs env H s Q)
    (QX G fs env H s E) s₁ :=
  wpAny_mono h (fun _ _ ⟨x, m', H', y, w, w', z⟩ => ⟨x, m', H', a.trans y, w, w', z⟩) fun _ _ ⟨H', y, z, u, v⟩ => ⟨H', a.trans y, z, u.older fun u' => a.2.back, v⟩
theorem Ex.mono {t : Sem Flow} {Q' : Fl → Loc → AH → Prop} {E' : AH → Prop} (h : Ex G fs r env m t H Q E) (hq : ∀ f m' H', Q f m' H' → Q' f m' H') (he : ∀ H', E H' → E' H') : Ex G fs r env m t H Q' E' :=
  fun A s a b c => wpAny_mono (h A s a b c) (fun _ _ ⟨x, m', H', y, z, u, v⟩ => ⟨x, m', H', y, z, u, hq _ _ _ v⟩) fun _ _ ⟨H', y, z, u, v⟩ => ⟨H', y, z, u, he _ v⟩
/-- an expression's raise is the statement's -/
theorem exX {s s' : Shared} {e : Value} (c : LocsR G.s₀.heap env m s.heap H) : QE G fs H s E e s' → QX G fs env H s E e s' :=
  fun ⟨H', y, z, w⟩ => ⟨H', y.x, (c.keep y.2).none, z, w⟩

theorem Ex_nil (h : Q .next m H) : Ex G fs r env m (execs [] env) H Q E := fun u' u' u' b c => wpAny_execs_nil ⟨.next, m, H, (After.refl b).x, c, .next, h⟩
abbrev KSeq (G : Ctx) (fs : List Env) (r : Nat) (env : Env) (rest : List Stmt) (Q : Fl → Loc → AH → Prop) (E : AH → Prop) : Fl → Loc → AH → Prop := fun fl m H => match fl with | .next => Ex G fs r env m (execs rest env) H Q E | f => Q f m H
abbrev KRet (Q : Fl → Loc → AH → Prop) (m : Loc) : V → AH → Prop := fun v H => Q (.ret v) m H
abbrev KAsg (Q : Fl → Loc → AH → Prop) (m : Loc) (x : Str) : V → AH → Prop := fun v H => Q .next (put m x v) H
abbrev KIf (G : Ctx) (fs : List Env) (r : Nat) (env : Env) (m : Loc) (body orelse : List Stmt) (Q : Fl → Loc → AH → Prop) (E : AH → Prop) : Bool → AH → Prop := fun b H => if b then Ex G fs r env m (execs body env) H Q E else Ex G fs r env m (execs orelse env) H Q E
theorem Ex_cons {st : Stmt} {rest : List Stmt} (h : Ex G fs r env m (exec st env) H (KSeq G fs r env rest Q E) E) :
    Ex G fs r env m (execs (st :: rest) env) H Q E := fun A s a b c => by
  refine wpAny_execs_cons (wpAny_mono (h A s a b c) ?_ fun u' u' z => z)
  rintro f s₁ ⟨fl, m₁, H₁, a₁, c₁, rf, q⟩
  cases rf with
  | next => exact WS.from a₁ (q A s₁ a a₁.1 c₁)
  | brk => exact ⟨.brk, m₁, H₁, a₁, c₁, .brk, q⟩
  | cont => exact ⟨.cont, m₁, H₁, a₁, c₁, .cont, q⟩
  | ret v => exact ⟨.ret _, m₁, H₁, a₁, c₁, .ret v, q⟩

theorem Ex_Return {e : Expr} {pos : Pos} (h : Ev G fs r env m (eval e env) H (KRet Q m) E) : Ex G fs r env m (exec (.Return (some e) pos) env) H Q E := fun A s a b c => by
  refine wpAny_Return_some (wpAny_mono (h A s a b c) ?_ fun u' u' z => exX c z)
  first | refine qv fun v s₁ x H₁ a₁ v₁ q => ?_ | refine ql fun v s₁ x H₁ a₁ v₁ q => ?_ | rintro v s₁ ⟨x, H₁, a₁, v₁, q⟩
  exact ⟨.ret x, m, H₁, a₁.x, c.keep a₁.2, .ret v₁, q⟩
theorem Ex_ReturnNone {pos : Pos} (h : Q (.ret .none) m H) : Ex G fs r env m (exec (.Return none pos) env) H Q E := fun A s a b c =>
  wpAny_Return_none ⟨.ret .none, m, H, (After.refl b).x, c, .ret .none, h⟩
theorem Ex_Continue {pos : Pos} (h : Q .cont m H) : Ex G fs r env m (exec (.Continue pos) env) H Q E := fun A s a b c => wpAny_Continue ⟨.cont, m, H, (After.refl b).x, c, .cont, h⟩
theorem Ex_Pass {pos : Pos} (h : Q .next m H) : Ex G fs r env m (exec (.Pass pos) env) H Q E := fun A s a b c => wpAny_Pass ⟨.next, m, H, (After.refl b).x, c, .next, h⟩
theorem Ex_If {test : Expr} {body orelse : List Stmt} {pos : Pos} (h : Ts G fs r env m (isTrue test env (eval test env)) H (KIf G fs r env m body orelse Q E) E) :
    Ex G fs r env m (exec (.If test body orelse pos) env) H Q E := fun A s a b c => by
  refine wpAny_If (wpAny_mono (h A s a b c) ?_ fun u' u' z => exX c z)
  first | refine qb fun v s₁ H₁ a₁ q => ?_ | refine qu fun v s₁ H₁ a₁ q => ?_ | rintro v s₁ ⟨H₁, a₁, q⟩
  have c₁ := c.keep a₁.2
  (first | (have hqv := v.inv; clear v; obtain ⟨_, rfl⟩ := hqv) | (have hqv := v.inv; clear v; obtain rfl := hqv) | cases v)
  · exact WS.from a₁.x (q A s₁ a a₁.1 c₁)
  · exact WS.from a₁.x (q A s₁ a a₁.1 c₁)
/-- the store of a local -/
theorem store_localX {A : Around} {x : Str} {v : V} {cv : Value} {s : Shared} {R : Unit → Shared → Prop} {E' : Value → Shared → Prop} {base : Heap} (b : Rel G fs H s) (hb : ∀ b o, G.s₀.heap.get? b = some o → base.get? b = some o) (c : LocsR base env m s.heap H) (rv : RV s.heap H v cv) (hl : env.kindOf x = some .local)
    (hp : (env.scope.kind == .class || (env.scope.kind == .module && env.locals != env.globals)) = false)
    (h : ∀ s', Rel G fs H s' → KeepX (fun b => b = env.locals) H s.heap H s'.heap → Heap.SameBut env.locals s.heap s'.heap → LocsR base env (put m x v) s'.heap H → R () s') : wpAny (model G.prog G.w) A (storeName env x cv) R E' s := by
  refine byc fun hnn => ?_
  obtain ⟨mc, hn, q⟩ := c.ns
  refine hnn ?_; clear hnn
  refine wpAny_storeName_local hl hn (fun h' hn' hs => ?_) hp
  have k : KeepX (fun b => b = env.locals) H s.heap H h' := fun b' o e => ⟨by
    by_cases z : b' = env.locals
    · obtain ⟨o', _, _, e', _⟩ := hn'; exact ⟨o', z ▸ e'⟩
    · exact ⟨o, (hs.2 b' z).trans e⟩, fun n => ⟨n, fun hx => by
    by_cases z : b' = env.locals
    · refine byc fun hnn => ?_
      obtain ⟨it, nn, hd⟩ := hx z
      refine hnn ?_; clear hnn
      refine byc fun hnn => ?_
      obtain ⟨oL, es, ep, e1, e2, _⟩ := hn
      refine hnn ?_; clear hnn
      rw [z, e1] at e; cases e; rw [e2] at hd; cases hd
    · exact ⟨o.slots, (hs.2 b' z).trans e⟩⟩⟩
  have hcell : ∀ p ∈ env.cells, ∃ o v, h'.get? p.2 = some o ∧ o.data = .cell v := fun p hp' => by
    refine byc fun hnn => ?_
    obtain ⟨_, o, v, e1, e2⟩ := c.coff p hp'
    refine hnn ?_; clear hnn
    refine ⟨o, v, (hs.2 p.2 fun z => ?_).trans e1, e2⟩
    refine byc fun hnn => ?_
    obtain ⟨oL, es, ep, e3, e4, _⟩ := hn
    refine hnn ?_; clear hnn
    rw [z, e3] at e1; cases e1; rw [e4] at e2; cases e2
  have hne : ∀ b' o, H b' = some o → b' ≠ env.locals := fun b' o e z => by rw [z, c.off] at e; cases e
  refine h { s with heap := h', toks := s.toks + 1 } (b.stepX k (fun a o e => RO.mono k (fun u' u' e => e) (fun b' ob n e => ?_) e (b.objs a o e)) (fun b' o e => (hs.2 b' fun z => ?_).trans (b.base b' o e)) (fun env' he L hf hx => ?_)) k hs ?_
  · exact (hs.2 b' fun z => n (by rw [z]; exact c.off)).trans e
  · have := hb _ _ e; rw [z, c.fresh] at this; cases this
  · subst hx
    refine byc fun hnn => ?_
    obtain ⟨o, es, ep, e1, e2, _⟩ := hn'
    refine hnn ?_; clear hnn
    exact ⟨o, e1, fun vs z => by rw [e2] at z; cases z⟩
  · refine ⟨⟨_, hn', fun y w e k' => ?_⟩, fun y w e k' => ?_, c.off, fun p hp' => ⟨(c.coff p hp').1, hcell p hp'⟩, c.fresh, c.cfresh⟩
    · unfold put at e
      by_cases z : y = x
      · rw [if_pos z] at e; cases e
        exact ⟨cv, if_pos z, rv.mono k⟩
      · rw [if_neg z] at e
        refine byc fun hnn => ?_
        obtain ⟨c', e1, r1⟩ := q y w e k'
        refine hnn ?_; clear hnn
        exact ⟨c', (if_neg z).trans e1, r1.mono k⟩
    · unfold put at e
      by_cases z : y = x
      · rw [z] at k'; exact (k' hl).elim
      · rw [if_neg z] at e
        refine byc fun hnn => ?_
        obtain ⟨ca, o, cv', e1, e2, e3, r1⟩ := c.cl y w e k'
        refine hnn ?_; clear hnn
        refine ⟨ca, o, cv', e1, (hs.2 ca fun z' => ?_).trans e2, e3, r1.mono k⟩
        refine byc fun hnn => ?_
        obtain ⟨oL, es, ep, e4, e5, _⟩ := hn
        refine hnn ?_; clear hnn
        rw [z', e4] at e2; cases e2; rw [e5] at e3; cases e3
theorem store_local {A : Around} {x : Str} {v : V} {cv : Value} {s : Shared} {R : Unit → Shared → Prop} {E' : Value → Shared → Prop} (b : Rel G fs H s) (c : LocsR G.s₀.heap env m s.heap H) (rv : RV s.heap H v cv) (hl : env.kindOf x = some .local)
    (hp : (env.scope.kind == .class || (env.scope.kind == .module && env.locals != env.globals)) = false)
    (h : ∀ s', AfterX G fs env H s H s' → LocsR G.s₀.heap env (put m x v) s'.heap H → R () s') : wpAny (model G.prog G.w) A (storeName env x cv) R E' s :=
  store_localX b (fun u' u' e => e) c rv hl hp fun s' b' k u' c' => h s' ⟨b', k.weak fun u' z => .inl z⟩ c'

theorem Ex_Assign {x : Str} {px pos : Pos} {e : Expr} (h : Ev G fs r env m (eval e env) H (KAsg Q m x) E) (hl : env.kindOf x = some .local := by rfl)
    (hs : swapsWith e (some (.Name x px)) pos.line env = pure false := by rfl) (hp : (env.scope.kind == .class || (env.scope.kind == .module && env.locals != env.globals)) = false := by rfl) :
    Ex G fs r env m (exec (.Assign [.Name x px] e pos) env) H Q E := fun A s a b c => by
  refine wpAny_Assign_Name (wpAny_mono (h A s a b c) ?_ fun u' u' z => exX c z) hs
  first | refine qv fun v s₁ x H₁ a₁ v₁ q => ?_ | refine ql fun v s₁ x H₁ a₁ v₁ q => ?_ | rintro v s₁ ⟨x, H₁, a₁, v₁, q⟩
  have c₁ := c.keep a₁.2
  exact store_local a₁.1 c₁ v₁ hl hp fun s' a' c' => ⟨.next, _, H₁, a₁.x.trans a', c', .next, q⟩
end
end SL2
section SL3
open PySem PySem.W PyProof.Rows
set_option tactic.hygienic false

/-! exceptions under way -/
def SameE (S F : List Addr) (h h' : Heap) : Prop := ∀ b o, h.get? b = some o → (∃ o', h'.get? b = some o') ∧ (b ∉ S → (∃ sl, h'.get? b = some { o with slots := sl }) ∧ (b ∉ F → h'.get? b = some o))
theorem SameE.refl {S F : List Addr} {h : Heap} : SameE S F h h := fun u' o e => ⟨⟨o, e⟩, fun u' => ⟨⟨o.slots, e⟩, fun u' => e⟩⟩
theorem SameE.trans {S F : List Addr} {h h' h'' : Heap} (x : SameE S F h h') (y : SameE S F h' h'') : SameE S F h h'' := fun b o e => by
  obtain ⟨⟨o', e'⟩, f⟩ := x b o e
  refine ⟨(y b o' e').1, fun n => ?_⟩
  obtain ⟨⟨sl, e1⟩, g⟩ := f n
  obtain ⟨_, f'⟩ := y b _ e1
  obtain ⟨⟨sl', e2⟩, g'⟩ := f' n
  exact ⟨⟨sl', e2⟩, fun nf => ((y b o (g nf)).2 n).2 nf⟩
theorem SameE.mono {S S' F : List Addr} {h h' : Heap} (x : SameE S F h h') (k : ∀ a ∈ S, a ∈ S') : SameE S' F h h' := fun b o e => ⟨(x b o e).1, fun n => (x b o e).2 fun q => n (k _ q)⟩

abbrev frs (fs : List Env) : List Addr := fs.filterMap (·.frame)

theorem SameE.keep {X : Addr → Prop} {S F : List Addr} {Hs H : AH} {hs h h' : Heap} (x : SameE S F h h') (k : KeepX X Hs hs H h) (n : ∀ a ∈ S, hs.get? a = none) : KeepX X Hs hs H h' := fun b o e => by
  refine byc fun hnn => ?_
  obtain ⟨⟨o', e'⟩, f⟩ := k b o e
  refine hnn ?_; clear hnn
  have nS : b ∉ S := fun q => by rw [n b q] at e; cases e
  refine ⟨(x b o' e').1, fun nn => ⟨(f nn).1, fun q => ?_⟩⟩
  obtain ⟨sl, e1⟩ := (f nn).2 q
  refine byc fun hnn => ?_
  obtain ⟨⟨sl', e2⟩, _⟩ := (x b _ e1).2 nS
  refine hnn ?_; clear hnn
  exact ⟨sl', e2⟩

def Recs (S : List Addr) (h : Heap) : Prop := ∀ a ∈ S, ∀ o, h.get? a = some o → ∃ vs, o.data = .fields vs
theorem SameE.x {S F : List Addr} {H : AH} {h h' : Heap} (x : SameE S F h h') (d : Recs S h) : KeepX (fun b => b ∈ S) H h H h' := fun b o e => ⟨(x b o e).1, fun nn => ⟨nn, fun q => by
  by_cases z : b ∈ S
  · obtain ⟨vs, e1⟩ := d b z o e
    obtain ⟨it, n, e2⟩ := q z
    rw [e1] at e2; cases e2
  · exact ((x b o e).2 z).1⟩⟩
theorem Rel.sameE {G : Ctx} {fs : List Env} {S : List Addr} {H : AH} {s : Shared} {h' : Heap} {t : Nat} (r : Rel G fs H s) (x : SameE S (frs fs) s.heap h') (n : ∀ a ∈ S, H a = none ∧ G.s₀.heap.get? a = none) (d : Recs S s.heap) :
    Rel G fs H { s with heap := h', toks := t } := by
  have hfS : ∀ a ∈ S, a ∉ frs fs := fun a ha q => by
    obtain ⟨_, o, ho, hd⟩ := r.frames.mem q
    obtain ⟨vs, e⟩ := d a ha o ho
    exact hd vs e
  have ex : ∀ b o, b ∉ S → b ∉ frs fs → s.heap.get? b = some o → h'.get? b = some o := fun b o n1 n2 e => ((x b o e).2 n1).2 n2
  have own : ∀ b ob, H b ≠ none → s.heap.get? b = some ob → h'.get? b = some ob := fun b ob hb e => ex b ob (fun q => hb (n b q).1) (fun q => by
    obtain ⟨env, he, hf⟩ := List.mem_filterMap.mp q
    exact hb (r.foff env he b hf)) e
  refine r.stepX (x.x d) (fun a o e => RO.mono (x.x d) (fun u' u' e => e) own e (r.objs a o e)) (fun b o e => ex b o (fun q => ?_) (fun q => ?_) (r.base b o e)) fun env he L hf z => (hfS L z (List.mem_filterMap.mpr ⟨env, he, hf⟩)).elim
  · rw [(n b q).2] at e; cases e
  · rw [(r.frames.mem q).1] at e; cases e
theorem LocsR.sameE {base : Heap} {env : Env} {m : Loc} {S F : List Addr} {H : AH} {h h' : Heap} (c : LocsR base env m h H) (x : SameE S F h h') (d : Recs S h) : LocsR base env m h' H := by
  refine byc fun hnn => ?_
  obtain ⟨⟨mc, ⟨oL, es, ep, e1, e2, e3, e4⟩, hl⟩, hc, ho, hco, f1, f2⟩ := c
  refine hnn ?_; clear hnn
  have hL : env.locals ∉ S := fun q => by obtain ⟨vs, e⟩ := d _ q _ e1; rw [e2] at e; cases e
  have cell : ∀ {b o v}, h.get? b = some o → o.data = .cell v → ∃ sl, h'.get? b = some { o with slots := sl } := fun {b o v} e q => ((x b o e).2 fun z => by obtain ⟨vs, e'⟩ := d _ z _ e; rw [q] at e'; cases e').1
  obtain ⟨sl, e1'⟩ := ((x _ _ e1).2 hL).1
  refine ⟨⟨mc, ⟨_, es, ep, e1', e2, e3, e4⟩, fun x' v a b => ?_⟩, fun x' v a b => ?_, ho, fun p hp => ?_, f1, f2⟩
  · obtain ⟨c, q, r⟩ := hl x' v a b; exact ⟨c, q, r.mono (x.x d)⟩
  · refine byc fun hnn => ?_
    obtain ⟨c, o, cv, q1, q2, q3, q4⟩ := hc x' v a b
    refine hnn ?_; clear hnn
    obtain ⟨sl', e'⟩ := cell q2 q3
    exact ⟨c, _, cv, q1, e', q3, q4.mono (x.x d)⟩
  · refine byc fun hnn => ?_
    obtain ⟨a, o, v, b, d'⟩ := hco p hp
    refine hnn ?_; clear hnn
    obtain ⟨sl', e'⟩ := cell b d'
    exact ⟨a, _, v, e', d'⟩

/-- the raise at hand is noted at this frame: its newest entry is in flight here -/
def HeldSt (G : Ctx) (L : Addr) (h : Heap) (H : AH) (ea T : Addr) (fl : Value) (hh : Heap) : Prop := (X5 fun oe vs a0 oT ts => A13 (h.get? ea = none) (H ea = none) (hh.get? ea = some oe) (oe.cls = G.C) (oe.data = .fields vs) (vs[0]? = some a0) (vs[1]? = some (.ref T)) (T ≠ ea) (h.get? T = none) (H T = none) (hh.get? T = some oT) (oT.data = .fields ts) (ts[3]? = some fl))

section
variable {G : Ctx} {fs : List Env} {r : Nat} {env : Env} {H : AH} {A : Around} {s : Shared} {L : Addr} {h : Heap}

theorem hide_split {F S : List Addr} {s : Shared} {h' : Heap} (hs : (hideAll s.heap (F ++ S)).StaysIn h') (hu : ∀ b o, s.heap.get? b = some o → (∀ vs, o.data ≠ .fields vs) → ∃ sl, h'.get? b = some { o with slots := sl })
    (hF : ∀ b ∈ F, ∀ o, s.heap.get? b = some o → ∀ vs, o.data ≠ .fields vs) (hS : ∀ b ∈ S, ∃ o', h'.get? b = some o') : SameE S F s.heap h' := fun b o e => by
  by_cases q : b ∈ S
  · exact ⟨hS b q, fun n => (n q).elim⟩
  · by_cases q' : b ∈ F
    · obtain ⟨sl, e'⟩ := hu b o e (hF b q' o e)
      exact ⟨⟨_, e'⟩, fun u' => ⟨⟨sl, e'⟩, fun n => (n q').elim⟩⟩
    · have e' := hs b o (hideAll_get _ e fun z => (List.mem_append.mp z).elim q' q)
      exact ⟨⟨o, e'⟩, fun u' => ⟨⟨o.slots, e'⟩, fun u' => e'⟩⟩

theorem Exc_note {Q : Unit → Shared → Prop} {E : Value → Shared → Prop} {e : Value} (a : AOK (env :: fs) r A) (b : Rel G (env :: fs) H s) (hf : env.frame = some L) (x : ExcSt G (env :: fs) h H e s) (hback : ∀ c, s.heap.get? c = none → h.get? c = none)
    (hQ : ∀ ea T h' S, e = .ref ea → HeldSt G L h H ea T (rawInt L) h' → SameE S (frs (env :: fs)) s.heap h' → Recs S s.heap → (∀ c ∈ S, h.get? c = none ∧ H c = none) → Q () { s with heap := h' }) :
    wpAny (model G.prog G.w) A (noteFrame e env) Q E s := by
  obtain ⟨ea, oe, vs, a0, rfl, x1, x2, x3, x4, x5, x6, x7⟩ := x
  have hnf : ∀ c ∈ frs (env :: fs), ∀ o, s.heap.get? c = some o → ∀ vs, o.data ≠ .fields vs := fun c hc o ho => by
    refine byc fun hnn => ?_
    obtain ⟨_, o', ho', hd⟩ := b.frames.mem hc
    refine hnn ?_; clear hnn
    rw [ho'] at ho; cases ho; exact hd
  have hsz : 1 < vs.size := by
    rcases x7 with q | ⟨T, oT, ts, q, _⟩ <;> exact (Array.getElem?_eq_some_iff.mp q).1
  have frames : ∀ S : List Addr, s.heap.FunFrames (hideAll s.heap (frs (env :: fs) ++ S)) (env :: fs) := fun S => by
    have : ∀ l : List Env, s.heap.FunFrames G.s₀.heap l → (∀ env ∈ l, ∀ a, env.frame = some a → a ∈ frs (env :: fs) ++ S → True) → (∀ e ∈ l, ∀ a, e.frame = some a → a ∈ frs (env :: fs) ++ S) → s.heap.FunFrames (hideAll s.heap (frs (env :: fs) ++ S)) l := by
      intro l
      induction l with
      | nil => intros; trivial
      | cons e1 l ih =>
        rintro ⟨hk, ⟨L', o, hf', _, ho, hd⟩, hr⟩ h1 h2
        exact ⟨hk, ⟨L', o, hf', hideAll_none _ (h2 e1 (.head _) L' hf'), ho, hd⟩, ih hr (fun u' u' u' u' u' => trivial) fun e he => h2 e (.tail _ he)⟩
    exact this _ b.frames (fun u' u' u' u' u' => trivial) fun e he a' ha' => List.mem_append_left _ (List.mem_filterMap.mpr ⟨e, he, ha'⟩)
  rcases x7 with q | ⟨T, oT, ts, q, qe, qh, qH, qT, qd, q3⟩
  · -- no entry yet
    have stays : (hideAll s.heap (frs (env :: fs) ++ [ea])).StaysIn s.heap := fun u' u' e => of_hideAll _ e
    have hen : (hideAll s.heap (frs (env :: fs) ++ [ea])).get? ea = none := hideAll_none _ (by simp)
    unfold noteFrame
    simp only [hf]
    refine wpAny_bind (wpAny_field x3 x5 q ?_)
    rw [if_neg (by decide)]
    refine wpAny_entryW (A := A) (base := hideAll s.heap (frs (env :: fs) ++ [ea])) a.frames (frames [ea]) hf x3 stays hen x5 hsz x6 fun h' hN => ?_
    refine byc fun hnn => ?_
    obtain ⟨k1, k2, ⟨oe', vs', T, oT, ts, t1, ⟨t2, t3⟩, t4, t5, t6, t7, t8, t9, t10⟩, k4⟩ := hN
    refine hnn ?_; clear hnn
    have hTs : s.heap.get? T = none ∨ T = ea ∨ T ∈ frs (env :: fs) := by
      cases z : s.heap.get? T with
      | none => exact .inl rfl
      | some o' =>
        refine .inr ?_
        by_cases z1 : T ∈ frs (env :: fs) ++ [ea]
        · rcases List.mem_append.mp z1 with z2 | z2
          · exact .inr z2
          · exact .inl (by simpa using z2)
        · have := hideAll_get _ z z1; rw [t6] at this; cases this
    have hTs' : s.heap.get? T = none := by
      rcases hTs with z | z | z
      · exact z
      · exact (t7 z).elim
      · refine byc fun hnn => ?_
        obtain ⟨_, o', ho', hd'⟩ := b.frames.mem z
        refine hnn ?_; clear hnn
        obtain ⟨sl, e'⟩ := k4 T o' ho' hd'
        rw [t8] at e'; cases e'; exact (hd' ts t9).elim
    have own : ∀ {T}, s.heap.get? T = none → H T = none := fun {T} z => by
      cases z1 : H T with
      | none => rfl
      | some o => obtain ⟨ob, e⟩ := b.has z1; rw [z] at e; cases e
    exact hQ ea T h' [ea] rfl ⟨oe', vs', a0, oT, ts, x1, x2, t1, t2.trans x4, t4, t3, t5, t7, hback _ hTs', own hTs', t8, t9, t10⟩ (hide_split k1 k4 hnf fun b hb => by rw [List.mem_singleton.mp hb]; exact ⟨_, t1⟩)
      (fun c hc o ho => by rw [List.mem_singleton.mp hc, x3] at ho; cases ho; exact ⟨vs, x5⟩) fun c hc => by rw [List.mem_singleton.mp hc]; exact ⟨x1, x2⟩
  · have stays : (hideAll s.heap (frs (env :: fs) ++ [ea, T])).StaysIn s.heap := fun u' u' e => of_hideAll _ e
    have hen : (hideAll s.heap (frs (env :: fs) ++ [ea, T])).get? ea = none := hideAll_none _ (by simp)
    have hTn : (hideAll s.heap (frs (env :: fs) ++ [ea, T])).get? T = none := hideAll_none _ (by simp)
    have recs : Recs [ea, T] s.heap := fun c hc o ho => by
      rcases List.mem_cons.mp hc with z | z
      · rw [z, x3] at ho; cases ho; exact ⟨vs, x5⟩
      · rw [List.mem_singleton.mp z, qT] at ho; cases ho; exact ⟨ts, qd⟩
    have fresh : ∀ c ∈ [ea, T], h.get? c = none ∧ H c = none := fun c hc => by
      rcases List.mem_cons.mp hc with z | z
      · rw [z]; exact ⟨x1, x2⟩
      · rw [List.mem_singleton.mp z]; exact ⟨qh, qH⟩
    rcases q3 with q3 | ⟨L', hL', q3⟩
    · have hz3 : 3 < ts.size := (Array.getElem?_eq_some_iff.mp q3).1
      have own : ∀ {T}, s.heap.get? T = none → H T = none := fun {T} z => by
        cases z1 : H T with
        | none => rfl
        | some o => obtain ⟨ob, e⟩ := b.has z1; rw [z] at e; cases e
      unfold noteFrame
      simp only [hf]
      refine wpAny_bind (wpAny_field x3 x5 q ?_)
      rw [if_pos (show (Value.ref T != Value.none) = true from by simp)]
      refine wpAny_bind (wpAny_field qT qd q3 ?_)
      rw [if_neg (show ¬ ((Value.none == rawInt L) = true) from by simp [rawInt])]
      refine wpAny_bind (wpAny_setField qT qd hz3 ?_)
      generalize hh₁ : s.heap.update T (Obj.mapFields (·.setIfInBounds 3 Value.none)) = h₁
      have other : ∀ c, c ≠ T → h₁.get? c = s.heap.get? c := fun c hc => by rw [← hh₁]; exact Heap.get?_update_other _ _ (Ne.symm hc)
      have hT₁ : ∃ oT', h₁.get? T = some oT' ∧ oT'.data = .fields (ts.setIfInBounds 3 .none) := by
        have hd' := Obj.data_mapFields qd (·.setIfInBounds 3 Value.none)
        exact ⟨_, by rw [← hh₁]; exact Heap.get?_update_self _ qT (Obj.isFreed_of_fields hd'), hd'⟩
      refine byc fun hnn => ?_
      obtain ⟨oT₁, hT₁, hT₁d⟩ := hT₁
      refine hnn ?_; clear hnn
      have ea₁ : h₁.get? ea = some oe := (other ea (Ne.symm qe)).trans x3
      have notT : ∀ c o, s.heap.get? c = some o → (∀ vs, o.data ≠ .fields vs) → c ≠ T := fun c o ho hn z => by rw [z, qT] at ho; cases ho; exact hn ts qd
      have fr₁ : ∀ l : List Env, s.heap.FunFrames (hideAll s.heap (frs (env :: fs) ++ [ea])) l → (∀ e ∈ l, ∀ a, e.frame = some a → a ∈ frs (env :: fs) ++ [ea]) → h₁.FunFrames (hideAll h₁ (frs (env :: fs) ++ [ea])) l := by
        intro l
        induction l with
        | nil => intros; trivial
        | cons e1 l ih =>
          rintro ⟨hk, ⟨L', o, hf', _, ho, hd⟩, hr⟩ h2
          exact ⟨hk, ⟨L', o, hf', hideAll_none _ (h2 e1 (.head _) L' hf'), (other L' (notT L' o ho hd)).trans ho, hd⟩, ih hr fun e he => h2 e (.tail _ he)⟩
      refine wpAny_entryW (s := { s with heap := h₁ }) (A := A) (base := hideAll h₁ (frs (env :: fs) ++ [ea])) a.frames (fr₁ _ (frames [ea]) fun e he a' ha' => List.mem_append_left _ (List.mem_filterMap.mpr ⟨e, he, ha'⟩)) hf ea₁ (fun u' u' e => of_hideAll _ e) (hideAll_none _ (by simp)) x5 hsz x6 fun h' hN => ?_
      refine byc fun hnn => ?_
      obtain ⟨k1, k2, ⟨oe', vs', T', oT', ts', t1, ⟨t2, t3⟩, t4, t5, t6, t7, t8, t9, t10⟩, k4⟩ := hN
      refine hnn ?_; clear hnn
      have k4' : ∀ c o, s.heap.get? c = some o → (∀ vs, o.data ≠ .fields vs) → ∃ sl, h'.get? c = some { o with slots := sl } := fun c o ho hn => k4 c o ((other c (notT c o ho hn)).trans ho) hn
      have hT' : h.get? T' = none ∧ H T' = none := by
        cases z : s.heap.get? T' with
        | none => exact ⟨hback _ z, own z⟩
        | some o' =>
          by_cases z1 : T' ∈ frs (env :: fs) ++ [ea]
          · rcases List.mem_append.mp z1 with z2 | z2
            · refine byc fun hnn => ?_
              obtain ⟨_, o', ho', hd'⟩ := b.frames.mem z2
              refine hnn ?_; clear hnn
              obtain ⟨sl, e'⟩ := k4' T' o' ho' hd'
              rw [t8] at e'; cases e'; exact (hd' ts' t9).elim
            · exact fresh T' (by rw [List.mem_singleton.mp z2]; simp)
          · by_cases z3 : T' = T
            · exact z3 ▸ ⟨qh, qH⟩
            · have := hideAll_get _ ((other T' z3).trans z) z1; rw [t6] at this; cases this
      have nf : T ∉ frs (env :: fs) := fun z => hnf T z oT qT ts qd
      have st : (hideAll s.heap (frs (env :: fs) ++ [ea, T])).StaysIn h' := fun c o e => by
        have n1 : c ∉ frs (env :: fs) ++ [ea, T] := fun z => by rw [hideAll_none _ z] at e; cases e
        have n2 : c ≠ T := fun z => n1 (by rw [z]; simp)
        exact k1 c o (hideAll_get _ ((other c n2).trans (of_hideAll _ e)) fun z => n1 (by
          rcases List.mem_append.mp z with z | z
          · exact List.mem_append_left _ z
          · exact List.mem_append_right _ (by rw [List.mem_singleton.mp z]; simp)))
      have hTal : h'.get? T = some oT₁ := k1 T oT₁ (hideAll_get _ hT₁ fun z => by
        rcases List.mem_append.mp z with z | z
        · exact nf z
        · exact qe (List.mem_singleton.mp z))
      exact hQ ea T' h' [ea, T] rfl ⟨oe', vs', a0, oT', ts', x1, x2, t1, t2.trans x4, t4, t3, t5, t7, hT'.1, hT'.2, t8, t9, t10⟩ (hide_split st k4' hnf fun b hb => by
        rcases List.mem_cons.mp hb with z | z
        · rw [z]; exact ⟨_, t1⟩
        · rw [List.mem_singleton.mp z]; exact ⟨_, hTal⟩) recs fresh
    · have : L' = L := by
        have : some L = some L' := by rw [← hL']; exact hf.symm
        exact (Option.some.inj this).symm
      subst this
      exact wpAny_noteFrame_againW (base := hideAll s.heap (frs (env :: fs) ++ [ea, T])) (cls := G.C) (a0 := a0) hf ⟨oe, vs, T, oT, ts, x3, ⟨x4, x6⟩, x5, q, hTn, qe, qT, qd, q3⟩
        (hQ ea T s.heap [ea, T] rfl ⟨oe, vs, a0, oT, ts, x1, x2, x3, x4, x5, x6, q, qe, qh, qH, qT, qd, q3⟩ .refl recs fresh)

theorem Exc_flight {Q : Unit → Shared → Prop} {E : Value → Shared → Prop} {ea T : Addr} {fl : Value} {fr : Option Addr} {F : List Addr} (x : HeldSt G L h H ea T fl s.heap)
    (hQ : ∀ h', HeldSt G L h H ea T (fr.elim .none fun f => rawInt f) h' → SameE [T] F s.heap h' → Recs [T] s.heap → Q () { s with heap := h' }) :
    wpAny (model G.prog G.w) A (setFlight (.ref ea) fr) Q E s := by
  refine byc fun hnn => ?_
  obtain ⟨oe, vs, a0, oT, ts, x1, x2, x3, x4, x5, x6, q, qe, qh, qH, qT, qd, q3⟩ := x
  refine hnn ?_; clear hnn
  have hz3 : 3 < ts.size := (Array.getElem?_eq_some_iff.mp q3).1
  unfold setFlight
  refine wpAny_bind (wpAny_field x3 x5 q ?_)
  rw [if_pos (show (Value.ref T != Value.none) = true from by simp)]
  refine wpAny_setField qT qd hz3 (hQ _ ⟨oe, vs, a0, _, _, x1, x2, (Heap.get?_update_other _ _ qe).trans x3, x4, x5, x6, q, qe, qh, qH, Heap.get?_update_self _ qT (Obj.isFreed_of_fields (Obj.data_mapFields qd _)), Obj.data_mapFields qd _, by simp [hz3]⟩ (fun b o e => ?_) ?_)
  · by_cases z : b = T
    · subst z; exact ⟨⟨_, Heap.get?_update_self _ qT (Obj.isFreed_of_fields (Obj.data_mapFields qd _))⟩, fun n => (n (by simp)).elim⟩
    · have e' := (Heap.get?_update_other s.heap (Obj.mapFields (·.setIfInBounds 3 (fr.elim .none fun f => rawInt f))) (Ne.symm z)).trans e
      exact ⟨⟨o, e'⟩, fun u' => ⟨⟨o.slots, e'⟩, fun u' => e'⟩⟩
  · intro c hc o ho; rw [List.mem_singleton.mp hc, qT] at ho; cases ho; exact ⟨ts, qd⟩

theorem HeldSt.flying {ea T : Addr} (x : HeldSt G L h H ea T .none s.heap) : ExcSt G fs h H (.ref ea) s := by
  refine byc fun hnn => ?_
  obtain ⟨oe, vs, a0, oT, ts, x1, x2, x3, x4, x5, x6, q, qe, qh, qH, qT, qd, q3⟩ := x
  refine hnn ?_; clear hnn
  exact ⟨ea, oe, vs, a0, rfl, x1, x2, x3, x4, x5, x6, .inr ⟨T, oT, ts, q, qe, qh, qH, qT, qd, .inl q3⟩⟩
theorem HeldSt.held {ea T : Addr} (hf : env.frame = some L) (x : HeldSt G L h H ea T (rawInt L) s.heap) : ExcSt G (env :: fs) h H (.ref ea) s := by
  refine byc fun hnn => ?_
  obtain ⟨oe, vs, a0, oT, ts, x1, x2, x3, x4, x5, x6, q, qe, qh, qH, qT, qd, q3⟩ := x
  refine hnn ?_; clear hnn
  exact ⟨ea, oe, vs, a0, rfl, x1, x2, x3, x4, x5, x6, .inr ⟨T, oT, ts, q, qe, qh, qH, qT, qd, .inr ⟨L, hf, q3⟩⟩⟩

/-- a raise leaves the frame -/
theorem Exc_leave {E : Value → Shared → Prop} {e : Value} {X : Addr → Prop} {Hs : AH} (a : AOK (env :: fs) r A) (b : Rel G (env :: fs) H s) (hf : env.frame = some L) (k : KeepX X Hs h H s.heap) (x : ExcSt G (env :: fs) h H e s) (hb : ∀ c o, G.s₀.heap.get? c = some o → h.get? c = some o)
    {Q : Unit → Shared → Prop} (hQ : ∀ s', Rel G (env :: fs) H s' → KeepX X Hs h H s'.heap → ExcSt G fs h H e s' → Q () s') : wpAny (model G.prog G.w) A (leaving env e) Q E s := by
  unfold leaving
  refine wpAny_bind (Exc_note a b hf x (fun u' => k.back) fun ea T h₁ S he x₁ se₁ d₁ n₁ => ?_)
  subst he
  have base : ∀ c, h.get? c = none → G.s₀.heap.get? c = none := fun c hc => by
    cases z : G.s₀.heap.get? c with
    | none => rfl
    | some o => rw [hb c o z] at hc; cases hc
  have b₁ : Rel G (env :: fs) H { s with heap := h₁ } := b.sameE (t := s.toks) se₁ (fun c hc => ⟨(n₁ c hc).2, base c (n₁ c hc).1⟩) d₁
  have k₁ := se₁.keep k fun c hc => (n₁ c hc).1
  refine Exc_flight (s := { s with heap := h₁ }) (F := frs (env :: fs)) x₁ fun h₂ x₂ se₂ d₂ => ?_
  have nT : ∀ c ∈ [T], h.get? c = none ∧ H c = none := fun c hc => by
    refine byc fun hnn => ?_
    obtain ⟨_, _, _, _, _, _, _, _, _, _, _, _, _, qh, qH, _⟩ := x₂
    refine hnn ?_; clear hnn
    rw [List.mem_singleton.mp hc]; exact ⟨qh, qH⟩
  exact hQ { s with heap := h₂ } (b₁.sameE (t := s.toks) se₂ (fun c hc => ⟨(nT c hc).2, base c (nT c hc).1⟩) d₂) (se₂.keep k₁ fun c hc => (nT c hc).1) (HeldSt.flying (s := { s with heap := h₂ }) x₂)

/-- a raise out of a loop of this frame -/
theorem Exc_loop {E : Value → Shared → Prop} {e : Value} {X : Addr → Prop} {Hs : AH} {m : Loc} {A' : Around} (a : AOK (env :: fs) r A) (b : Rel G (env :: fs) H s) (hf : env.frame = some L) (k : KeepX X Hs h H s.heap) (c : LocsR G.s₀.heap env m s.heap H) (x : ExcSt G (env :: fs) h H e s) (hb : ∀ c o, G.s₀.heap.get? c = some o → h.get? c = some o)
    (hE : ∀ s', Rel G (env :: fs) H s' → KeepX X Hs h H s'.heap → LocsR G.s₀.heap env m s'.heap H → ExcSt G (env :: fs) h H e s' → E e s') : notedBy (model G.prog G.w) A env (fun e s' => cameBackBy (model G.prog G.w) A' env E e s') e s := by
  unfold notedBy
  refine Exc_note a b hf x (fun u' => k.back) fun ea T h₁ S he x₁ se₁ d₁ n₁ => ?_
  subst he
  have base : ∀ c, h.get? c = none → G.s₀.heap.get? c = none := fun c hc => by
    cases z : G.s₀.heap.get? c with
    | none => rfl
    | some o => rw [hb c o z] at hc; cases hc
  have b₁ : Rel G (env :: fs) H { s with heap := h₁ } := b.sameE (t := s.toks) se₁ (fun c hc => ⟨(n₁ c hc).2, base c (n₁ c hc).1⟩) d₁
  have k₁ := se₁.keep k fun c hc => (n₁ c hc).1
  have c₁ := c.sameE se₁ d₁
  unfold cameBackBy
  refine byc fun hnn => ?_
  obtain ⟨oe, vs, a0, oT, ts, y1, y2, y3, y4, y5, y6, q, qe, qh, qH, qT, qd, q3⟩ := id x₁
  refine hnn ?_; clear hnn
  refine wpAny_bind (wpAny_field y3 y5 q ?_)
  rw [if_neg (by simp)]
  rw [hf]
  refine Exc_flight (s := { s with heap := h₁ }) (F := frs (env :: fs)) x₁ fun h₂ x₂ se₂ d₂ => ?_
  have nT : ∀ c ∈ [T], h.get? c = none ∧ H c = none := fun c hc => by rw [List.mem_singleton.mp hc]; exact ⟨qh, qH⟩
  exact hE { s with heap := h₂ } (b₁.sameE (t := s.toks) se₂ (fun c hc => ⟨(nT c hc).2, base c (nT c hc).1⟩) d₂) (se₂.keep k₁ fun c hc => (nT c hc).1) (c₁.sameE se₂ d₂) (HeldSt.held (s := { s with heap := h₂ }) hf x₂)
end
end SL3
section SL4
open PySem PySem.W PyProof.Rows
set_option tactic.hygienic false

theorem off_of {H H' : AH} (e : ∀ a o, H a = some o → H' a = some o) {b : Addr} (n : H' b = none) : H b = none := by
  cases z : H b with
  | none => rfl
  | some ob => rw [e b ob z] at n; cases n
theorem none_of {h h' : Heap} (k : ∀ b o, h.get? b = some o → h'.get? b = some o) {c : Addr} (n : h'.get? c = none) : h.get? c = none := by
  cases z : h.get? c with
  | none => rfl
  | some o => rw [k c o z] at n; cases n
def Ext (H H' : AH) : Prop := ∀ a o, H a = some o → H' a = some o
theorem Ext.refl {H : AH} : Ext H H := fun u' u' e => e
theorem Ext.trans {H H' H'' : AH} (x : Ext H H') (y : Ext H' H'') : Ext H H'' := fun a o e => y a o (x a o e)
theorem Ext.upd {H : AH} {a : Addr} {o : O} (n : H a = none) : Ext H (upd H a o) := fun b ob e => by rw [upd_ne fun q => by rw [q, n] at e; cases e]; exact e
structure Closed (H : AH) : Prop where
  inst : ∀ a c dx fm, H a = some (.inst c dx fm) → H dx = some (.aux a)
  aux : ∀ a x, H a = some (.aux x) → ∃ c fm, H x = some (.inst c a fm)
theorem Rel.closed {G : Ctx} {fs : List Env} {H : AH} {s : Shared} (r : Rel G fs H s) : Closed H := ⟨fun a c dx fm e => (r.objs a _ e).2.1, fun a x e => r.objs a _ e⟩
/-- H'' is what we still want to know of H' -/
def Drop (H'' H' : AH) : Prop := H'' = H' ∨ (Closed H'' ∧ Ext H'' H')
theorem Drop.refl {H : AH} : Drop H H := .inl rfl
theorem Drop.to {H H' : AH} (c : Closed H) (e : Ext H H') : Drop H H' := .inr ⟨c, e⟩
theorem RV.dropH {h : Heap} {H H' : AH} (e : Ext H H') {v : V} {c : Value} (x : RV h H' v c) : RV h H v c :=
  x.mono (X := fun u' => False) fun b o q => ⟨⟨o, q⟩, fun n => ⟨off_of e n, fun u' => ⟨o.slots, q⟩⟩⟩
theorem Rel.drop {G : Ctx} {fs : List Env} {H'' H' : AH} {s : Shared} (r : Rel G fs H' s) (d : Drop H'' H') : Rel G fs H'' s := by
  rcases d with rfl | ⟨c, e⟩
  · exact r
  · have k : Keep H' s.heap H'' s.heap := fun b o q => ⟨⟨o, q⟩, fun n => ⟨off_of e n, fun u' => ⟨o.slots, q⟩⟩⟩
    have := r.step (t := s.toks) k (fun a o z => ?_) r.base
    · exact this
    · have x := r.objs a o (e a o z)
      cases o with
      | list l => obtain ⟨items, n, e1, q⟩ := x; exact ⟨items, n, e1, q.mono k⟩
      | dict l n => obtain ⟨es, e1, q, nd⟩ := x; exact ⟨es, e1, q.mono k, nd⟩
      | inst c' dx fm =>
        refine byc fun hnn => ?_
        obtain ⟨e1, hd, es, n, e2, q⟩ := x
        refine hnn ?_; clear hnn
        exact ⟨e1, c.inst a c' dx fm z, es, n, e2, q.mono k⟩
      | aux x' => exact c.aux a x' z
theorem Drop.off {H'' H' : AH} (d : Drop H'' H') {b : Addr} (n : H' b = none) : H'' b = none := by
  rcases d with rfl | ⟨c, e⟩
  · exact n
  · exact off_of e n
theorem Drop.keep {X : Addr → Prop} {H H'' H' : AH} {h h' : Heap} (d : Drop H'' H') (k : KeepX X H h H' h') : KeepX X H h H'' h' := fun b o e => ⟨(k b o e).1, fun n => ⟨d.off ((k b o e).2 n).1, ((k b o e).2 n).2⟩⟩
theorem Drop.rv {h : Heap} {H'' H' : AH} (d : Drop H'' H') {v : V} {c : Value} (x : RV h H' v c) : RV h H'' v c := by
  rcases d with rfl | ⟨c, e⟩
  · exact x
  · exact x.dropH e

def Fl.val : Fl → V
  | .ret v => v
  | _ => .none
def RetQ (Q : V → AH → Prop) (fl : Fl) (H' : AH) : Prop := ∃ H'', Drop H'' H' ∧ Q fl.val H''

/-- a call -/
def Cl (G : Ctx) (fs : List Env) (r : Nat) (f : V) (args : List V) (H : AH) (Q : V → AH → Prop) (E : AH → Prop) : Prop := ∀ A s vf cs, AOK fs r A → Rel G fs H s → RV s.heap H f vf → RVs s.heap H args cs → WV G fs A (call vf cs) H Q E s

abbrev QR (G : Ctx) (fs : List Env) (H : AH) (s : Shared) (Q : V → AH → Prop) (E : AH → Prop) : Result → Shared → Prop := fun res s' => match res with
    | .ok (.ret v) => QV G fs H s Q v s'
    | .ok _ => False
    | .error e => QE G fs H s E e s'
abbrev RQ (Q : V → AH → Prop) : Fl → Loc → AH → Prop := fun fl u' H' => RetQ Q fl H'
/-- a call as code -/
def CC (G : Ctx) (fs : List Env) (r : Nat) (f : V) (args : List V) (H : AH) (Q : V → AH → Prop) (E : AH → Prop) : Prop := ∀ A s vf cs, AOK fs r A → Rel G fs H s → RV s.heap H f vf → RVs s.heap H args cs → codeAny (model G.prog G.w) A (.call vf ⟨cs, []⟩) (QR G fs H s Q E) s
theorem CC.cl {G : Ctx} {fs : List Env} {r : Nat} {f : V} {args : List V} {H : AH} {Q : V → AH → Prop} {E : AH → Prop} (h : CC G fs r f args H Q E) : Cl G fs r f args H Q E := fun A s vf cs a b v vs => wpAny_call (h A s vf cs a b v vs)

def locs : List Str → List V → Loc → Loc
  | [], _, m => m
  | _ :: _, [], m => m
  | p :: ps, v :: vs, m => locs ps vs (put m p v)

theorem locs_rel {h : Heap} {H : AH} {ps : List Str} {vs : List V} {cs : List Value} {m : Loc} {x : Str} {v : V} (r : RVs h H vs cs) (e : locs ps vs m x = some v) :
    (x ∈ ps ∧ ∃ c, (ps.zip cs).reverse.lookup x = some c ∧ RV h H v c) ∨ (m x = some v ∧ (ps.zip cs).reverse.lookup x = none) := by
  induction ps generalizing vs cs m with
  | nil => exact .inr ⟨e, rfl⟩
  | cons p ps ih =>
    cases r with
    | nil => exact .inr ⟨e, rfl⟩
    | @cons w d vs cs a r =>
      rw [List.zip_cons_cons, List.reverse_cons, List.lookup_append]
      rcases ih (m := put m p w) r e with ⟨hm, c, e1, rv⟩ | ⟨e1, e2⟩
      · exact .inl ⟨.tail _ hm, c, by rw [e1]; rfl, rv⟩
      · rw [e2]
        unfold put at e1
        by_cases z : x = p
        · rw [if_pos z] at e1; cases e1
          exact .inl ⟨z ▸ .head _, d, by simp [z, List.lookup_cons], a⟩
        · rw [if_neg z] at e1
          have : (x == p) = false := beq_eq_false_iff_ne.mpr z
          exact .inr ⟨e1, by simp [List.lookup_cons, this]⟩

theorem AOK.deeper {fs : List Env} {r : Nat} {A : Around} {env : Env} (a : AOK fs (r + 1) A) : AOK (env :: fs) r (A.deeper env) :=
  ⟨Around.frames_deeper a.frames, a.handled, by have := a.depth; show A.depth + 1 + r ≤ 999; lia, by have := a.units; show A.units + 3 + 10 * r ≤ 9890; lia⟩
theorem AOK.mono {fs : List Env} {r r' : Nat} {A : Around} (a : AOK fs r A) (h : r' ≤ r) : AOK fs r' A := ⟨a.frames, a.handled, by have := a.depth; lia, by have := a.units; lia⟩

theorem Rel.pop {G : Ctx} {fs : List Env} {env : Env} {H : AH} {s : Shared} (r : Rel G (env :: fs) H s) : Rel G fs H s :=
  ⟨r.base, r.off, r.objs, r.frames.2.2, fun e he => r.foff e (.tail _ he), r.gens, r.os⟩

theorem CC_def {G : Ctx} {fs : List Env} {r : Nat} {f : Addr} {fo : Obj} {fd : FuncData} {body : List Stmt} {ps : List Str} {args dvals : List V} {dcs : List Value} {H : AH} {Q : V → AH → Prop} {E : AH → Prop}
    (ho : G.K.lookup f = some fo) (hd : fo.data = .func fd) (hbody : fd.body = .stmts body) (hcode : codeIn G.K fd.code fd.qualname = true) (hclo : fd.closure = [])
    (hb : ∀ s, G.K.In s.heap → ∀ cs : List Value, cs.length = args.length → BindsTo s fd ⟨cs, []⟩ (ps.zip (cs ++ dcs)))
    (hdv : ∀ (h : Heap) (H : AH), (∀ b o, G.s₀.heap.get? b = some o → h.get? b = some o) → (∀ b o, G.s₀.heap.get? b = some o → H b = none) → RVs h H dvals dcs)
    (hloc : ∀ p ∈ ps, fd.scope.names.lookup p = some .local) (hcell : ∀ x ∈ fd.scope.names, x.2 ≠ .cell)
    (h : Closed H → ∀ L, H L = none → Ex G (callEnv fd L f :: fs) r (callEnv fd L f) (locs ps (args ++ dvals) noLoc) (execs body (callEnv fd L f)) H (RQ Q) E)
    (hco : fd.scope.isCoroutine = false := by rfl) (hgen : fd.scope.isGenerator = false := by rfl) (hk : fd.scope.kind = .function := by rfl) :
    CC G fs (r + 1) (.ref f) args H Q E := fun A s vf cs a b vr vs => by
  (first | (have hqv := vr.inv; clear vr; obtain ⟨_, rfl⟩ := hqv) | (have hqv := vr.inv; clear vr; obtain rfl := hqv) | cases vr)
  have hL : H s.heap.objs.size = none := by
    cases z : H s.heap.objs.size with
    | none => rfl
    | some o => obtain ⟨ob, e⟩ := b.has z; exact absurd (Heap.lt_size e) (Nat.lt_irrefl _)
  have hX := b.keepK
  refine codeAny_call_def (fd := fd) (body := body) (binds := ps.zip (cs ++ dcs)) (by have := a.depth; show A.depth < 1000; lia) (hX _ _ ho) hd b.topK.nolimit (codeRec_of hX hcode) hbody (hb s hX cs vs.length.symm) hcell
    (fun x hx => hloc x.1 (List.of_mem_zip hx).1) (fun h₁ hns hk₁ => ?_) hco hgen hk
  have fresh : G.s₀.heap.get? s.heap.objs.size = none := Heap.StaysIn.fresh b.base
  have b₁ : Rel G (callEnv fd s.heap.objs.size f :: fs) H { s with heap := h₁, toks := s.toks + (ps.zip (cs ++ dcs)).length } := by
    have g := b.grow (t := s.toks + (ps.zip (cs ++ dcs)).length) hk₁
    exact ⟨g.base, g.off, g.objs, .cons (by show fd.scope.kind ≠ .module; rw [hk]; decide) rfl hns fresh g.frames, fun env he L hf => by
      cases he with
      | head => cases hf; exact hL
      | tail _ he => exact g.foff env he L hf, g.gens, g.os⟩
  have k₁ : Keep H s.heap H h₁ := Keep.of_grow hk₁
  have vs₁ : RVs h₁ H (args ++ dvals) (cs ++ dcs) := (vs.mono k₁).append (hdv h₁ H b₁.base b₁.off)
  have c₁ : LocsR G.s₀.heap (callEnv fd s.heap.objs.size f) (locs ps (args ++ dvals) noLoc) h₁ H := by
    refine ⟨⟨_, hns, fun x v e u' => ?_⟩, fun x v e kn => ?_, hL, fun p hp => ?_, fresh, fun p hp => ?_⟩
    · rcases locs_rel vs₁ e with ⟨_, c, e1, rv⟩ | ⟨e1, _⟩
      · exact ⟨c, e1, rv⟩
      · cases e1
    · rcases locs_rel vs₁ e with ⟨hm, _⟩ | ⟨e1, _⟩
      · exact (kn (hloc x hm)).elim
      · cases e1
    · change p ∈ fd.closure at hp; rw [hclo] at hp; cases hp
    · change p ∈ fd.closure at hp; rw [hclo] at hp; cases hp
  have mine : ∀ b' o, s.heap.get? b' = some o → ¬ mineX (callEnv fd s.heap.objs.size f) b' := fun b' o e x => by
    rcases x with z | ⟨p, hp, _⟩
    · exact absurd (z ▸ Heap.lt_size e) (Nat.lt_irrefl _)
    · change p ∈ fd.closure at hp; rw [hclo] at hp; cases hp
  have out : ∀ {H' : AH} {h' : Heap}, KeepX (mineX (callEnv fd s.heap.objs.size f)) H h₁ H' h' → Keep H s.heap H' h' := fun {H' h'} k b' o e => by
    obtain ⟨x, y⟩ := k b' o (hk₁ b' o e)
    exact ⟨x, fun n => ⟨(y n).1, fun u' => (y n).2 fun z => (mine b' o e z).elim⟩⟩
  refine wpAny_mono (h b.closed _ hL (A.deeper (callEnv fd s.heap.objs.size f)) _ a.deeper b₁ c₁) ?_ ?_
  · rintro fl s' hqq
    refine byc fun hnn => ?_
    obtain ⟨fl', m', H', a', c', rf, H'', d, q⟩ := hqq
    refine hnn ?_; clear hnn
    have fin : ∀ cv, RV s'.heap H' fl'.val cv → QV G fs H s Q cv s' := fun cv rv =>
      ⟨fl'.val, H'', ⟨a'.1.pop.drop d, d.keep (out a'.2)⟩, d.rv rv, q⟩
    cases rf with
    | next => exact fin _ .none
    | brk => exact fin _ .none
    | cont => exact fin _ .none
    | ret v => exact fin _ v
  · rintro e s' hqq
    refine byc fun hnn => ?_
    obtain ⟨H', a', c', x, hE⟩ := hqq
    refine hnn ?_; clear hnn
    refine Exc_leave (L := s.heap.objs.size) a.deeper a'.1 rfl (X := mineX (callEnv fd s.heap.objs.size f)) (Hs := H) (h := h₁) a'.2 x (fun c o e => b₁.base c o e) fun s'' b'' k'' x'' => ?_
    exact ⟨H', ⟨b''.pop, out k''⟩, x''.older fun c hc => none_of hk₁ hc, hE⟩
end SL4
section SL5
open PySem PySem.W PyProof.Rows
set_option tactic.hygienic false

section
variable {G : Ctx} {fs : List Env} {r : Nat} {env : Env} {m : Loc} {H : AH} {Q : V → AH → Prop} {E : AH → Prop}

/-! several expressions -/
inductive QL (G : Ctx) (fs : List Env) (H : AH) (s : Shared) (Q : List V → AH → Prop) (vs : List Value) (s' : Shared) : Prop
  | mk (as : List V) (H' : AH) (x : After G fs H s H' s') (y : RVs s'.heap H' as vs) (z : Q as H') : QL G fs H s Q vs s'
theorem ql {Q : List V → AH → Prop} {s : Shared} {R : List Value → Shared → Prop} (k : ∀ v s' a H', After G fs H s H' s' → RVs s'.heap H' a v → Q a H' → R v s') : ∀ v s', QL G fs H s Q v s' → R v s' := by
  rintro v s' ⟨a, H', x, y, z⟩; exact k v s' a H' x y z
def Sp (G : Ctx) (fs : List Env) (r : Nat) (env : Env) (m : Loc) (t : Sem (List Value)) (H : AH) (Q : List V → AH → Prop) (E : AH → Prop) : Prop := ∀ A s, AOK fs r A → Rel G fs H s → LocsR G.s₀.heap env m s.heap H → wpAny (model G.prog G.w) A t (QL G fs H s Q)
    (QE G fs H s E) s
theorem Sp_nil {pos : Pos} {Q : List V → AH → Prop} (h : Q [] H) : Sp G fs r env m (spliced (backTo pos (starEach [] env))) H Q E := fun A s a b c => wpAny_items_nil ⟨[], H, .refl b, .nil, h⟩
abbrev KSp2 (v : V) (Q : List V → AH → Prop) : List V → AH → Prop := fun vs H => Q (v :: vs) H
abbrev KSp1 (G : Ctx) (fs : List Env) (r : Nat) (env : Env) (m : Loc) (pos : Pos) (rest : List Expr) (Q : List V → AH → Prop) (E : AH → Prop) : V → AH → Prop := fun v H => Sp G fs r env m (spliced (backTo pos (starEach rest env))) H (KSp2 v Q) E
abbrev KTup (Q : V → AH → Prop) : List V → AH → Prop := fun vs H => vs.length ≤ sizeLine ∧ Q (.tup vs) H
abbrev KLst (Q : V → AH → Prop) : List V → AH → Prop := fun vs H => vs.length ≤ sizeLine ∧ ∀ l, H l = none → Q (.ref l) (upd H l (.list vs))
theorem Sp_cons {pos : Pos} {e : Expr} {rest : List Expr} {Q : List V → AH → Prop} (h : Ev G fs r env m (eval e env) H (KSp1 G fs r env m pos rest Q E) E)
    (he : starEach (e :: rest) env = (false, eval e env) :: starEach rest env := by rfl) : Sp G fs r env m (spliced (backTo pos (starEach (e :: rest) env))) H Q E := fun A s a b c => by
  refine wpAny_items_cons (wpAny_mono (h A s a b c) ?_ fun u' u' z => z) he
  first | refine qv fun va s₁ x H₁ a₁ v₁ h₁ => ?_ | refine ql fun va s₁ x H₁ a₁ v₁ h₁ => ?_ | rintro va s₁ ⟨x, H₁, a₁, v₁, h₁⟩
  refine wpAny_mono (h₁ A s₁ a a₁.1 (c.keep a₁.2)) ?_ fun u' u' z => ex_from a₁ z
  first | refine qv fun vb s₂ y H₂ a₂ v₂ h₂ => ?_ | refine ql fun vb s₂ y H₂ a₂ v₂ h₂ => ?_ | rintro vb s₂ ⟨y, H₂, a₂, v₂, h₂⟩
  exact ⟨x :: y, H₂, a₁.trans a₂, .cons (v₁.mono a₂.2) v₂, h₂⟩

theorem Rel.freeSize {s : Shared} (b : Rel G fs H s) : H s.heap.objs.size = none := by
  cases z : H s.heap.objs.size with
  | none => rfl
  | some o => obtain ⟨ob, e⟩ := b.has z; exact absurd (Heap.lt_size e) (Nat.lt_irrefl _)
theorem size_none {h : Heap} : h.get? h.objs.size = none := by
  cases z : h.get? h.objs.size with
  | none => rfl
  | some o => exact absurd (Heap.lt_size z) (Nat.lt_irrefl _)
theorem push_keep {h : Heap} {o : Obj} : ∀ b ob, h.get? b = some ob → (h.push o).get? b = some ob := fun u' u' e => Heap.get?_push_of_some _ e

theorem new_tup {A : Around} {vs : List V} {cs : List Value} {s : Shared} (b : Rel G fs H s) (v : RVs s.heap H vs cs) (hl : vs.length ≤ sizeLine) (h : Q (.tup vs) H) : WV G fs A (newTuple cs) H Q E s :=
  wpAny_newObj_type (⟨.tup vs, H, After.push (t := s.toks) b, .tup ⟨_, Heap.get?_push_size _ rfl, rfl, 0, rfl⟩ b.freeSize (v.mono (KeepX.of (Keep.of_grow push_keep)) (X := fun u' => False)), h⟩)
    (by show cs.toArray.size ≤ sizeLine; rw [List.size_toArray, ← v.length]; exact hl)
theorem new_list {A : Around} {vs : List V} {cs : List Value} {s : Shared} (b : Rel G fs H s) (v : RVs s.heap H vs cs) (hl : vs.length ≤ sizeLine) (h : ∀ l, H l = none → Q (.ref l) (upd H l (.list vs))) : WV G fs A (newList cs) H Q E s := by
  refine wpAny_newObj_type (⟨.ref s.heap.objs.size, _, After.new (t := s.toks) (o := .list vs) b push_keep size_none ⟨cs.toArray, 0, Heap.get?_push_size _ rfl, ?_⟩, .ref _, h _ b.freeSize⟩)
    (by show cs.toArray.size ≤ sizeLine; rw [List.size_toArray, ← v.length]; exact hl)
  exact v.mono (X := fun u' => False) (Keep.of_new push_keep size_none)

theorem Ev_Tuple {elts : List Expr} {k : Nat} {pos : Pos} (h : Sp G fs r env m (spliced (backTo pos (starEach elts env))) H (KTup Q) E) : Ev G fs r env m (eval (.Tuple elts k pos) env) H Q E := fun A s a b c => by
  refine Tuple_ (wpAny_mono (h A s a b c) ?_ fun u' u' z => z)
  first | (refine qv fun vs s₁ as H₁ a₁ v₁ hqq => ?_; obtain ⟨hl, h₁⟩ := hqq) | (refine ql fun vs s₁ as H₁ a₁ v₁ hqq => ?_; obtain ⟨hl, h₁⟩ := hqq) | rintro vs s₁ ⟨as, H₁, a₁, v₁, hl, h₁⟩
  exact WV.from a₁ (new_tup a₁.1 v₁ hl h₁)
theorem Ev_List {elts : List Expr} {pos : Pos} (h : Sp G fs r env m (spliced (backTo pos (starEach elts env))) H (KLst Q) E) : Ev G fs r env m (eval (.List elts pos) env) H Q E := fun A s a b c => by
  refine List_ (wpAny_mono (h A s a b c) ?_ fun u' u' z => z)
  first | (refine qv fun vs s₁ as H₁ a₁ v₁ hqq => ?_; obtain ⟨hl, h₁⟩ := hqq) | (refine ql fun vs s₁ as H₁ a₁ v₁ hqq => ?_; obtain ⟨hl, h₁⟩ := hqq) | rintro vs s₁ ⟨as, H₁, a₁, v₁, hl, h₁⟩
  exact WV.from a₁ (new_list a₁.1 v₁ hl h₁)

/-! calls -/
def KeepV (G : Ctx) : V → Prop
  | .ref a => keepIn G.K (.ref a) = true
  | .bi _ => True
  | .ty _ => True
  | _ => False
theorem KeepV.keeps {f : V} {vf : Value} {h : Heap} (k : KeepV G f) (v : RV h H f vf) (h : Heap) (X : G.K.In h) :
    ∃ k, (k = Keeper.frame ∨ k = Keeper.machine ∨ k = Keeper.boundFrame) ∧ Looks (model G.prog G.w) h (keeperOf vf) k := by
  cases v with
  | ref a => exact keeps_K k h X
  | bi i => exact ⟨.machine, .inr (.inl rfl), Looks.of_pure rfl⟩
  | ty i => exact ⟨.machine, .inr (.inl rfl), Looks.of_pure rfl⟩
  | _ => exact k.elim

abbrev KCl (G : Ctx) (fs : List Env) (r : Nat) (f : V) (Q : V → AH → Prop) (E : AH → Prop) : List V → AH → Prop := fun as H => Cl G fs r f as H Q E
abbrev KClF (G : Ctx) (fs : List Env) (r : Nat) (f : V) (first : List V) (Q : V → AH → Prop) (E : AH → Prop) : List V → AH → Prop := fun as H => Cl G fs r f (first ++ as) H Q E
abbrev KCall (G : Ctx) (fs : List Env) (r : Nat) (env : Env) (m : Loc) (pos : Pos) (args : List Expr) (Q : V → AH → Prop) (E : AH → Prop) : V → AH → Prop := fun f H => KeepV G f ∧ Sp G fs r env m (spliced (backTo pos (starEach args env))) H (KCl G fs r f Q E) E
/-- the arguments, then the call -/
theorem call_with {A : Around} {pos : Pos} {f : V} {vf : Value} {first : List V} {cfirst : List Value} {args : List Expr} {s : Shared} (a : AOK fs r A) (b : Rel G fs H s) (c : LocsR G.s₀.heap env m s.heap H) (k : KeepV G f) (vr : RV s.heap H f vf) (vs : RVs s.heap H first cfirst)
    (h : Sp G fs r env m (spliced (backTo pos (starEach args env))) H (KClF G fs r f first Q E) E) (hp : (backTo pos (starEach args env)).any (·.1) = false := by rfl) :
    WV G fs A (callWith pos vf cfirst (backTo pos (starEach args env)) []) H Q E s := by
  refine callWith_of (P := G.K.In) (by rw [hp]; rfl) (k.keeps vr) ?_
  have body := h A s a b c
  have body' : wpAny (model G.prog G.w) A (spliced (backTo pos (starEach args env))) (fun vs s₁ => G.K.In s₁.heap ∧ wpAny (model G.prog G.w) A (call vf (cfirst ++ vs) [])
      (QV G fs H s Q) (QE G fs H s E) s₁) (QE G fs H s E) s := by
    refine wpAny_mono body ?_ fun u' u' z => z
    first | refine qv fun cs s₁ as H₁ a₁ v₁ h₁ => ?_ | refine ql fun cs s₁ as H₁ a₁ v₁ h₁ => ?_ | rintro cs s₁ ⟨as, H₁, a₁, v₁, h₁⟩
    exact ⟨a₁.1.keepK, WV.from a₁ (h₁ A s₁ vf (cfirst ++ cs) a a₁.1 (vr.mono a₁.2) ((vs.mono a₁.2).append v₁))⟩
  generalize hX : backTo pos (starEach args env) = X at hp body' ⊢
  cases X with
  | nil =>
    unfold evalArgs
    show wpAny _ A (spliced [] >>= _) _ _ s
    refine wpAny_bind (wpAny_mono body' (fun vs s' h' => ?_) fun u' u' x => x)
    refine wpAny_bind (wpAny_pure (wpAny_holding ?_))
    exact wpAny_bind (wpAny_pure (wpAny_bind (wpAny_pure (wpAny_pure h'))))
  | cons x rest =>
    obtain ⟨st, t⟩ := x
    rw [List.any_cons, Bool.or_eq_false_iff] at hp
    obtain rfl : st = false := hp.1
    exact Calls.evalArgs_plain body'

theorem Ev_Call {x : Str} {p pos : Pos} {args : List Expr}
    (h : Ev G fs r env m (eval (.Name x p) env) H (KCall G fs r env m pos args Q E) E)
    (hp : (backTo pos (starEach args env)).any (·.1) = false := by rfl) : Ev G fs r env m (eval (.Call (.Name x p) args [] pos) env) H Q E := fun A s a b c => by
  refine Call_Name rfl (wpAny_mono (h A s a b c) ?_ fun u' u' z => z)
  first | (refine qv fun vf s₁ f H₁ a₁ v₁ hqq => ?_; obtain ⟨k, h₁⟩ := hqq) | (refine ql fun vf s₁ f H₁ a₁ v₁ hqq => ?_; obtain ⟨k, h₁⟩ := hqq) | rintro vf s₁ ⟨f, H₁, a₁, v₁, k, h₁⟩
  exact WV.from a₁ (call_with (first := []) (cfirst := []) a a₁.1 (c.keep a₁.2) k v₁ .nil h₁ hp)

inductive QM (G : Ctx) (fs : List Env) (H : AH) (s : Shared) (Q : V → List V → AH → Prop) (fx : Value × List Value) (s' : Shared) : Prop
  | mk (f : V) (first : List V) (H' : AH) (x : After G fs H s H' s') (y : RV s'.heap H' f fx.1) (w : RVs s'.heap H' first fx.2) (z : Q f first H') : QM G fs H s Q fx s'
/-- a method found -/
def Mt (G : Ctx) (fs : List Env) (r : Nat) (o : V) (name : Str) (H : AH) (Q : V → List V → AH → Prop) (E : AH → Prop) : Prop := ∀ A s co pl, AOK fs r A → Rel G fs H s → RV s.heap H o co → wpAny (model G.prog G.w) A (getMethod co name pl) (QM G fs H s Q)
    (QE G fs H s E) s
abbrev KMt2 (G : Ctx) (fs : List Env) (r : Nat) (env : Env) (m : Loc) (pos : Pos) (args : List Expr) (Q : V → AH → Prop) (E : AH → Prop) : V → List V → AH → Prop := fun f first H => KeepV G f ∧ Sp G fs r env m (spliced (backTo pos (starEach args env))) H (KClF G fs r f first Q E) E
abbrev KMt1 (G : Ctx) (fs : List Env) (r : Nat) (env : Env) (m : Loc) (name : Str) (pos : Pos) (args : List Expr) (Q : V → AH → Prop) (E : AH → Prop) : V → AH → Prop := fun ov H => Mt G fs r ov name H (KMt2 G fs r env m pos args Q E) E
theorem Ev_Method {o : Expr} {name : Str} {apos pos : Pos} {args : List Expr} {pl : Sem Bool}
    (h : Ev G fs r env m (eval o env) H (KMt1 G fs r env m name pos args Q E) E)
    (he : eval (.Call (.Attribute o name apos) args [] pos) env = (do
      let ov ← eval o env
      standAt apos.atName
      let (f, first) ← holding [ov] (getMethod ov name pl)
      callWith pos f first (backTo pos (starEach args env)) []) := by rfl)
    (hp : (backTo pos (starEach args env)).any (·.1) = false := by rfl) : Ev G fs r env m (eval (.Call (.Attribute o name apos) args [] pos) env) H Q E := fun A s a b c => by
  refine MethodCall_ (pl := pl) (wpAny_mono (h A s a b c) ?_ fun u' u' z => z) he
  first | refine qv fun co s₁ ov H₁ a₁ v₁ h₁ => ?_ | refine ql fun co s₁ ov H₁ a₁ v₁ h₁ => ?_ | rintro co s₁ ⟨ov, H₁, a₁, v₁, h₁⟩
  refine wpAny_mono (h₁ A s₁ co pl a a₁.1 v₁) ?_ fun u' u' z => ex_from a₁ z
  rintro ⟨cf, cfirst⟩ s₂ ⟨f, first, H₂, a₂, v₂, vs, k, h₂⟩
  exact WV.from (a₁.trans a₂) (call_with a a₂.1 (c.keep (a₁.trans a₂).2) k v₂ vs h₂ hp)

/-! objects -/
theorem RFs.get {P : Params} {h : Heap} {name : Str} : ∀ {fm : List (Str × V)} {es : List DictEntry}, RFs P h H fm es → (fm.lookup name = none → getL name es = some none) ∧ ∀ v, fm.lookup name = some v → ∃ c, getL name es = some (some c) ∧ RV h H v c := by
  have noref : ∀ {fm : List (Str × V)} {es : List DictEntry}, RFs P h H fm es → es.any (·.refKey) = false := by
    intro fm es q
    induction q with
    | nil => rfl
    | cons a r ih => rw [List.any_cons, ih]; rfl
  intro fm es q
  induction q with
  | nil => exact ⟨fun u' => rfl, fun v e => by cases e⟩
  | @cons k v t c l es a r ih =>
    have hk : (Value.str k t).isStr name = (k == name) := rfl
    by_cases z : name = k
    · subst z
      have e1 : getL name (⟨PyData.keyHash P name, .str name t, c⟩ :: es) = some (some c) := by
        unfold getL; rw [List.find?_cons]; simp [Value.isStr]
      refine ⟨fun e => by simp [List.lookup_cons] at e, fun w e => ⟨c, e1, ?_⟩⟩
      simp [List.lookup_cons] at e; subst e; exact a
    · have z1 : (name == k) = false := beq_eq_false_iff_ne.mpr z
      have z2 : (k == name) = false := beq_eq_false_iff_ne.mpr (Ne.symm z)
      have e1 : getL name (⟨PyData.keyHash P k, .str k t, c⟩ :: es) = getL name es := by
        unfold getL
        have : (Value.str k t).isStr name = false := hk.trans z2
        simp only [List.find?_cons, this, List.any_cons, DictEntry.refKey, Bool.false_or]
        rfl
      rw [e1, List.lookup_cons, z1]; exact ih

theorem inst_at {x c dx : Addr} {fm : List (Str × V)} {s : Shared} (b : Rel G fs H s) (hx : H x = some (.inst c dx fm)) :
    ∃ es n, InstAt s.heap x (instObj c dx) c (some (dictOf es n)) ∧ s.heap.get? dx = some (dictOf es n) ∧ RFs G.w.params s.heap H fm es := by
  refine byc fun hnn => ?_
  obtain ⟨e, hd, es, n, e2, q⟩ := b.objs x _ hx
  refine hnn ?_; clear hnn
  exact ⟨es, n, ⟨e, rfl, rfl, e2⟩, e2, q⟩

theorem Mt_inst {x c dx f : Addr} {fm : List (Str × V)} {name : Str} {Q : V → List V → AH → Prop} (hx : H x = some (.inst c dx fm)) (hf : fm.lookup name = none) (hg : plainGet G.K c name = true) (hm : findIn G.K (.ref c) name = some (some (.ref f))) (ht : isFn G.K (.ref f) = true)
    (h : Q (.ref f) [.ref x] H) : Mt G fs r (.ref x) name H Q E := fun A s co pl a b v => by
  (first | (have hqv := v.inv; clear v; obtain ⟨_, rfl⟩ := hqv) | (have hqv := v.inv; clear v; obtain rfl := hqv) | cases v)
  refine byc fun hnn => ?_
  obtain ⟨es, n, I, e2, q⟩ := inst_at b hx
  refine hnn ?_; clear hnn
  refine method_fn b.keepK I (plainGet_of hg).1 (plainGet_of hg).2 hm (beq_iff_eq.mp ht) ?_ ⟨.ref f, [.ref x], H, .refl b, .ref f, .cons (.ref x) .nil, h⟩
  show (lookIn name (dictOf es n)).map _ = _
  rw [lookIn_dict, q.get.1 hf]; rfl

/-- an attribute read -/
def Ga (G : Ctx) (fs : List Env) (r : Nat) (o : V) (name : Str) (H : AH) (Q : V → AH → Prop) (E : AH → Prop) : Prop := ∀ A s co, AOK fs r A → Rel G fs H s → RV s.heap H o co → WV G fs A (getAttr co name true) H Q E s
abbrev KGa (G : Ctx) (fs : List Env) (r : Nat) (attr : Str) (Q : V → AH → Prop) (E : AH → Prop) : V → AH → Prop := fun o H => Ga G fs r o attr H Q E
theorem Ev_Attr {value : Expr} {attr : Str} {pos : Pos} (h : Ev G fs r env m (eval value env) H (KGa G fs r attr Q E) E)
    (he : eval (.Attribute value attr pos) env = (do
      let o ← eval value env
      standAt pos.atName
      let r ← holding [o] (getAttr o attr true)
      letTemporaryGo value o r
      pure r) := by with_unfolding_all rfl) : Ev G fs r env m (eval (.Attribute value attr pos) env) H Q E := fun A s a b c => by
  refine Attribute_any_ (wpAny_mono (h A s a b c) ?_ fun u' u' z => z) he
  first | refine qv fun co s₁ o H₁ a₁ v₁ h₁ => ?_ | refine ql fun co s₁ o H₁ a₁ v₁ h₁ => ?_ | rintro co s₁ ⟨o, H₁, a₁, v₁, h₁⟩
  exact WV.from a₁ (h₁ A s₁ co a a₁.1 v₁)
def V.isBi : V → Bool
  | .bi _ => true
  | _ => false
theorem Ga_inst {x c dx : Addr} {fm : List (Str × V)} {name : Str} {v : V} {attr : Option Value} (hx : H x = some (.inst c dx fm)) (hf : fm.lookup name = some v) (hb : v.isBi = false) (hg : plainGet G.K c name = true) (hh : hasDictIn G.K c = true)
    (ha : findIn G.K (.ref c) name = some attr) (hn : noGet G.K attr = true) (h : Q v H) : Ga G fs r (.ref x) name H Q E := fun A s co a b vr => by
  (first | (have hqv := vr.inv; clear vr; obtain ⟨_, rfl⟩ := hqv) | (have hqv := vr.inv; clear vr; obtain rfl := hqv) | cases vr)
  refine byc fun hnn => ?_
  obtain ⟨es, n, I, e2, q⟩ := inst_at b hx
  refine hnn ?_; clear hnn
  refine byc fun hnn => ?_
  obtain ⟨cv, e, rv⟩ := q.get.2 v hf
  refine hnn ?_; clear hnn
  refine get_value b.keepK I (plainGet_of hg).1 (findObj_own hh ha hn (by rw [lookIn_dict, e])) ?_ ⟨v, H, .toks b, rv, h⟩
  cases rv <;> first | rfl | cases hb
end
end SL5
section SL6
open PySem PySem.W PyProof.Rows
set_option tactic.hygienic false

section
variable {G : Ctx} {fs : List Env} {r : Nat} {env : Env} {m : Loc} {H : AH} {Q : V → AH → Prop} {E : AH → Prop} {i j : Int} {l k : List Nat}

/-! ints -/
theorem BOp_add (h : Q (.int (i + j)) H) : BOp G fs r .Add (.int i) (.int j) H Q E := fun A s va vb a b v1 v2 => by (first | (have hqv := v1.inv; clear v1; obtain ⟨_, rfl⟩ := hqv) | (have hqv := v1.inv; clear v1; obtain rfl := hqv) | cases v1); (first | (have hqv := v2.inv; clear v2; obtain ⟨_, rfl⟩ := hqv) | (have hqv := v2.inv; clear v2; obtain rfl := hqv) | cases v2); exact P.add_int ⟨_, H, .toks b, .int _ _, h⟩
theorem BOp_sub (h : Q (.int (i - j)) H) : BOp G fs r .Sub (.int i) (.int j) H Q E := fun A s va vb a b v1 v2 => by (first | (have hqv := v1.inv; clear v1; obtain ⟨_, rfl⟩ := hqv) | (have hqv := v1.inv; clear v1; obtain rfl := hqv) | cases v1); (first | (have hqv := v2.inv; clear v2; obtain ⟨_, rfl⟩ := hqv) | (have hqv := v2.inv; clear v2; obtain rfl := hqv) | cases v2); exact P.sub_int ⟨_, H, .toks b, .int _ _, h⟩
theorem BOp_mul (hm : IntMulOk i j) (h : Q (.int (i * j)) H) : BOp G fs r .Mult (.int i) (.int j) H Q E := fun A s va vb a b v1 v2 => by (first | (have hqv := v1.inv; clear v1; obtain ⟨_, rfl⟩ := hqv) | (have hqv := v1.inv; clear v1; obtain rfl := hqv) | cases v1); (first | (have hqv := v2.inv; clear v2; obtain ⟨_, rfl⟩ := hqv) | (have hqv := v2.inv; clear v2; obtain rfl := hqv) | cases v2); exact P.mul_int ⟨_, H, .toks b, .int _ _, h⟩ hm
theorem BOp_mod (hb : j ≠ 0) (h : Q (.int (i.fmod j)) H) : BOp G fs r .Mod (.int i) (.int j) H Q E := fun A s va vb a b v1 v2 => by (first | (have hqv := v1.inv; clear v1; obtain ⟨_, rfl⟩ := hqv) | (have hqv := v1.inv; clear v1; obtain rfl := hqv) | cases v1); (first | (have hqv := v2.inv; clear v2; obtain ⟨_, rfl⟩ := hqv) | (have hqv := v2.inv; clear v2; obtain rfl := hqv) | cases v2); exact mod_int' hb ⟨_, H, .toks b, .int _ _, h⟩
theorem BOp_div (hb : j ≠ 0) (hp : Builtin.divisionGoesByPylong i j = false) (h : Q (.int (i.fdiv j)) H) : BOp G fs r .FloorDiv (.int i) (.int j) H Q E := fun A s va vb a b v1 v2 => by (first | (have hqv := v1.inv; clear v1; obtain ⟨_, rfl⟩ := hqv) | (have hqv := v1.inv; clear v1; obtain rfl := hqv) | cases v1); (first | (have hqv := v2.inv; clear v2; obtain ⟨_, rfl⟩ := hqv) | (have hqv := v2.inv; clear v2; obtain rfl := hqv) | cases v2); exact floordiv_int hb ⟨_, H, .toks b, .int _ _, h⟩ (.inl hp)
theorem BOp_pow (h0 : 0 ≤ j) (hsz : (Builtin.Int.intBits i : Int) * j ≤ 2 ^ 27) (h : Q (.int (i ^ j.toNat)) H) : BOp G fs r .Pow (.int i) (.int j) H Q E := fun A s va vb a b v1 v2 => by (first | (have hqv := v1.inv; clear v1; obtain ⟨_, rfl⟩ := hqv) | (have hqv := v1.inv; clear v1; obtain rfl := hqv) | cases v1); (first | (have hqv := v2.inv; clear v2; obtain ⟨_, rfl⟩ := hqv) | (have hqv := v2.inv; clear v2; obtain rfl := hqv) | cases v2); exact pow_int h0 hsz ⟨_, H, .toks b, .int _ _, h⟩
theorem COp_eq_int (h : Q (.bool (i == j)) H) : COp G fs r .Eq (.int i) (.int j) H Q E := fun A s va vb a b v1 v2 => by (first | (have hqv := v1.inv; clear v1; obtain ⟨_, rfl⟩ := hqv) | (have hqv := v1.inv; clear v1; obtain rfl := hqv) | cases v1); (first | (have hqv := v2.inv; clear v2; obtain ⟨_, rfl⟩ := hqv) | (have hqv := v2.inv; clear v2; obtain rfl := hqv) | cases v2); exact P.eq_int ⟨_, H, .refl b, .bool _, h⟩
theorem COp_ne_int (h : Q (.bool (i != j)) H) : COp G fs r .NotEq (.int i) (.int j) H Q E := fun A s va vb a b v1 v2 => by (first | (have hqv := v1.inv; clear v1; obtain ⟨_, rfl⟩ := hqv) | (have hqv := v1.inv; clear v1; obtain rfl := hqv) | cases v1); (first | (have hqv := v2.inv; clear v2; obtain ⟨_, rfl⟩ := hqv) | (have hqv := v2.inv; clear v2; obtain rfl := hqv) | cases v2); exact P.ne_int ⟨_, H, .refl b, .bool _, h⟩
theorem COp_lt_int (h : Q (.bool (decide (i < j))) H) : COp G fs r .Lt (.int i) (.int j) H Q E := fun A s va vb a b v1 v2 => by (first | (have hqv := v1.inv; clear v1; obtain ⟨_, rfl⟩ := hqv) | (have hqv := v1.inv; clear v1; obtain rfl := hqv) | cases v1); (first | (have hqv := v2.inv; clear v2; obtain ⟨_, rfl⟩ := hqv) | (have hqv := v2.inv; clear v2; obtain rfl := hqv) | cases v2); exact P.lt_int ⟨_, H, .refl b, .bool _, h⟩
theorem COp_le_int (h : Q (.bool (decide (i ≤ j))) H) : COp G fs r .LtE (.int i) (.int j) H Q E := fun A s va vb a b v1 v2 => by (first | (have hqv := v1.inv; clear v1; obtain ⟨_, rfl⟩ := hqv) | (have hqv := v1.inv; clear v1; obtain rfl := hqv) | cases v1); (first | (have hqv := v2.inv; clear v2; obtain ⟨_, rfl⟩ := hqv) | (have hqv := v2.inv; clear v2; obtain rfl := hqv) | cases v2); exact P.le_int ⟨_, H, .refl b, .bool _, h⟩
theorem COp_gt_int (h : Q (.bool (decide (j < i))) H) : COp G fs r .Gt (.int i) (.int j) H Q E := fun A s va vb a b v1 v2 => by (first | (have hqv := v1.inv; clear v1; obtain ⟨_, rfl⟩ := hqv) | (have hqv := v1.inv; clear v1; obtain rfl := hqv) | cases v1); (first | (have hqv := v2.inv; clear v2; obtain ⟨_, rfl⟩ := hqv) | (have hqv := v2.inv; clear v2; obtain rfl := hqv) | cases v2); exact P.gt_int ⟨_, H, .refl b, .bool _, h⟩
theorem COp_ge_int (h : Q (.bool (decide (j ≤ i))) H) : COp G fs r .GtE (.int i) (.int j) H Q E := fun A s va vb a b v1 v2 => by (first | (have hqv := v1.inv; clear v1; obtain ⟨_, rfl⟩ := hqv) | (have hqv := v1.inv; clear v1; obtain rfl := hqv) | cases v1); (first | (have hqv := v2.inv; clear v2; obtain ⟨_, rfl⟩ := hqv) | (have hqv := v2.inv; clear v2; obtain rfl := hqv) | cases v2); exact P.ge_int ⟨_, H, .refl b, .bool _, h⟩
abbrev KNeg (Q : V → AH → Prop) : V → AH → Prop := fun v H => ∃ i, v = .int i ∧ Q (.int (-i)) H
abbrev KNotB (Q : V → AH → Prop) : Bool → AH → Prop := fun b H => Q (.bool (!b)) H
theorem Ev_neg {x : Expr} {pos : Pos} (h : Ev G fs r env m (eval x env) H (KNeg Q) E) : Ev G fs r env m (eval (.UnaryOp .USub x pos) env) H Q E := fun A s a b c => by
  refine wpAny_UnaryOp (wpAny_mono (h A s a b c) ?_ fun u' u' z => z)
  first | (refine qv fun v s₁ x H₁ a₁ v₁ hqq => ?_; obtain ⟨i, rfl, h₁⟩ := hqq) | (refine ql fun v s₁ x H₁ a₁ v₁ hqq => ?_; obtain ⟨i, rfl, h₁⟩ := hqq) | rintro v s₁ ⟨x, H₁, a₁, v₁, i, rfl, h₁⟩
  (first | (have hqv := v₁.inv; clear v₁; obtain ⟨_, rfl⟩ := hqv) | (have hqv := v₁.inv; clear v₁; obtain rfl := hqv) | cases v₁)
  exact P.neg_int ⟨_, H₁, a₁.trans (.toks a₁.1), .int _ _, h₁⟩
theorem Ev_not {x : Expr} {pos : Pos} (h : Ev G fs r env m (eval x env) H (KTr G fs r (KNotB Q) E) E) : Ev G fs r env m (eval (.UnaryOp .Not x pos) env) H Q E := fun A s a b c => by
  refine wpAny_UnaryOp (wpAny_mono (h A s a b c) ?_ fun u' u' z => z)
  first | refine qv fun v s₁ x H₁ a₁ v₁ h₁ => ?_ | refine ql fun v s₁ x H₁ a₁ v₁ h₁ => ?_ | rintro v s₁ ⟨x, H₁, a₁, v₁, h₁⟩
  refine not_value (wpAny_mono (h₁ A s₁ v a a₁.1 v₁) ?_ fun u' u' z => ex_from a₁ z)
  first | refine qb fun b' s₂ H₂ a₂ h₂ => ?_ | refine qu fun b' s₂ H₂ a₂ h₂ => ?_ | rintro b' s₂ ⟨H₂, a₂, h₂⟩
  exact ⟨_, H₂, a₁.trans a₂, .bool _, h₂⟩

/-! truth -/
theorem Tr_bool {v : Bool} {Q : Bool → AH → Prop} (h : Q v H) : Tr G fs r (.bool v) H Q E := fun A s va a b v1 => by (first | (have hqv := v1.inv; clear v1; obtain ⟨_, rfl⟩ := hqv) | (have hqv := v1.inv; clear v1; obtain rfl := hqv) | cases v1); exact wpAny_truthy_bool ⟨H, .refl b, h⟩
theorem Tr_int {Q : Bool → AH → Prop} (h : Q (i != 0) H) : Tr G fs r (.int i) H Q E := fun A s va a b v1 => by (first | (have hqv := v1.inv; clear v1; obtain ⟨_, rfl⟩ := hqv) | (have hqv := v1.inv; clear v1; obtain rfl := hqv) | cases v1); exact P.truthy_int ⟨H, .refl b, h⟩

/-! texts -/
theorem str_len (l : List Nat) : (⟨l.toArray⟩ : Str).length = l.length := by simp [Str.length]
theorem str_app (l k : List Nat) : (⟨l.toArray⟩ : Str) ++ ⟨k.toArray⟩ = ⟨(l ++ k).toArray⟩ := by
  show Str.append _ _ = _
  simp [Str.append]
theorem RV_str {h : Heap} {x : Str} {t : Tok} {H : AH} : RV h H (.str x.cps.toList) (.str x t) := .str x.cps.toList t
theorem RV_str' {h : Heap} {x : Str} {t : Tok} {H : AH} {l : List Nat} (e : x.cps.toList = l) : RV h H (.str l) (.str x t) := e ▸ RV_str

theorem BOp_cat (hl : l.length + k.length ≤ sizeLine) (h : Q (.str (l ++ k)) H) : BOp G fs r .Add (.str l) (.str k) H Q E := fun A s va vb a b v1 v2 => by
  (first | (have hqv := v1.inv; clear v1; obtain ⟨_, rfl⟩ := hqv) | (have hqv := v1.inv; clear v1; obtain rfl := hqv) | cases v1); (first | (have hqv := v2.inv; clear v2; obtain ⟨_, rfl⟩ := hqv) | (have hqv := v2.inv; clear v2; obtain rfl := hqv) | cases v2)
  refine add_str (fun t' tk => ⟨_, H, .toks b, ?_, h⟩) (by rw [str_len, str_len]; exact hl)
  rw [str_app]; exact .str _ _
theorem COp_eq_str (h : Q (.bool (l == k)) H) : COp G fs r .Eq (.str l) (.str k) H Q E := fun A s va vb a b v1 v2 => by (first | (have hqv := v1.inv; clear v1; obtain ⟨_, rfl⟩ := hqv) | (have hqv := v1.inv; clear v1; obtain rfl := hqv) | cases v1); (first | (have hqv := v2.inv; clear v2; obtain ⟨_, rfl⟩ := hqv) | (have hqv := v2.inv; clear v2; obtain rfl := hqv) | cases v2); exact P.eq_str ⟨_, H, .refl b, .bool _, h⟩
theorem COp_ne_str (h : Q (.bool (l != k)) H) : COp G fs r .NotEq (.str l) (.str k) H Q E := fun A s va vb a b v1 v2 => by (first | (have hqv := v1.inv; clear v1; obtain ⟨_, rfl⟩ := hqv) | (have hqv := v1.inv; clear v1; obtain rfl := hqv) | cases v1); (first | (have hqv := v2.inv; clear v2; obtain ⟨_, rfl⟩ := hqv) | (have hqv := v2.inv; clear v2; obtain rfl := hqv) | cases v2); exact P.ne_str ⟨_, H, .refl b, .bool _, h⟩
theorem COp_le_str (h : Q (.bool (!(decide (k < l)))) H) : COp G fs r .LtE (.str l) (.str k) H Q E := fun A s va vb a b v1 v2 => by (first | (have hqv := v1.inv; clear v1; obtain ⟨_, rfl⟩ := hqv) | (have hqv := v1.inv; clear v1; obtain rfl := hqv) | cases v1); (first | (have hqv := v2.inv; clear v2; obtain ⟨_, rfl⟩ := hqv) | (have hqv := v2.inv; clear v2; obtain rfl := hqv) | cases v2); exact P.le_str ⟨_, H, .refl b, .bool _, h⟩
theorem COp_in_one {c : Nat} (h : Q (.bool (l.contains c)) H) : COp G fs r .In (.str [c]) (.str l) H Q E := fun A s va vb a b v1 v2 => by
  (first | (have hqv := v1.inv; clear v1; obtain ⟨_, rfl⟩ := hqv) | (have hqv := v1.inv; clear v1; obtain rfl := hqv) | cases v1); (first | (have hqv := v2.inv; clear v2; obtain ⟨_, rfl⟩ := hqv) | (have hqv := v2.inv; clear v2; obtain rfl := hqv) | cases v2)
  refine in_str ⟨_, H, .refl b, ?_, h⟩
  rw [StrLaws.found_one]
  simp only [List.contains_eq_mem]; exact .bool _
theorem COp_notin_one {c : Nat} (h : Q (.bool (!l.contains c)) H) : COp G fs r .NotIn (.str [c]) (.str l) H Q E := fun A s va vb a b v1 v2 => by
  (first | (have hqv := v1.inv; clear v1; obtain ⟨_, rfl⟩ := hqv) | (have hqv := v1.inv; clear v1; obtain rfl := hqv) | cases v1); (first | (have hqv := v2.inv; clear v2; obtain ⟨_, rfl⟩ := hqv) | (have hqv := v2.inv; clear v2; obtain rfl := hqv) | cases v2)
  refine notIn_str ⟨_, H, .refl b, ?_, h⟩
  rw [StrLaws.found_one]
  simp only [List.contains_eq_mem]; exact .bool _

theorem Cl_len_str (hf : l.length < 2 ^ 62) (h : Q (.int l.length) H) : Cl G fs r (.bi "len") [.str l] H Q E := fun A s vf cs a b v vs => by
  (first | (have hqv := v.inv; clear v; obtain ⟨_, rfl⟩ := hqv) | (have hqv := v.inv; clear v; obtain rfl := hqv) | cases v)
  have hqv := vs.inv; clear vs; obtain ⟨_, _, rfl, v, vs⟩ := hqv
  (first | (have hqv := vs.inv; clear vs; obtain ⟨_, rfl⟩ := hqv) | (have hqv := vs.inv; clear vs; obtain rfl := hqv) | cases vs); (first | (have hqv := v.inv; clear v; obtain ⟨_, rfl⟩ := hqv) | (have hqv := v.inv; clear v; obtain rfl := hqv) | cases v)
  exact P.len_str (by rw [str_len]; lia) ⟨_, H, .toks b, by rw [str_len]; exact .int _ _, h⟩
theorem Cl_ord {c : Nat} (h : Q (.int c) H) : Cl G fs r (.bi "ord") [.str [c]] H Q E := fun A s vf cs a b v vs => by
  (first | (have hqv := v.inv; clear v; obtain ⟨_, rfl⟩ := hqv) | (have hqv := v.inv; clear v; obtain rfl := hqv) | cases v)
  have hqv := vs.inv; clear vs; obtain ⟨_, _, rfl, v, vs⟩ := hqv
  (first | (have hqv := vs.inv; clear vs; obtain ⟨_, rfl⟩ := hqv) | (have hqv := vs.inv; clear vs; obtain rfl := hqv) | cases vs); (first | (have hqv := v.inv; clear v; obtain ⟨_, rfl⟩ := hqv) | (have hqv := v.inv; clear v; obtain rfl := hqv) | cases v)
  exact ord_of_one (by rw [str_len]; rfl) ⟨_, H, .toks b, .int _ _, h⟩
theorem Cl_chr (h0 : 0 ≤ i) (h1 : i ≤ 1114111) (h : Q (.str [i.toNat]) H) : Cl G fs r (.bi "chr") [.int i] H Q E := fun A s vf cs a b v vs => by
  (first | (have hqv := v.inv; clear v; obtain ⟨_, rfl⟩ := hqv) | (have hqv := v.inv; clear v; obtain rfl := hqv) | cases v)
  have hqv := vs.inv; clear vs; obtain ⟨_, _, rfl, v, vs⟩ := hqv
  (first | (have hqv := vs.inv; clear vs; obtain ⟨_, rfl⟩ := hqv) | (have hqv := vs.inv; clear vs; obtain rfl := hqv) | cases vs); (first | (have hqv := v.inv; clear v; obtain ⟨_, rfl⟩ := hqv) | (have hqv := v.inv; clear v; obtain rfl := hqv) | cases v)
  exact chr_of_range h0 h1 ⟨_, H, .toks b, .str [i.toNat] _, h⟩
theorem Cl_abs (h : Q (.int (if i < 0 then -i else i)) H) : Cl G fs r (.bi "abs") [.int i] H Q E := fun A s vf cs a b v vs => by
  (first | (have hqv := v.inv; clear v; obtain ⟨_, rfl⟩ := hqv) | (have hqv := v.inv; clear v; obtain rfl := hqv) | cases v)
  have hqv := vs.inv; clear vs; obtain ⟨_, _, rfl, v, vs⟩ := hqv
  (first | (have hqv := vs.inv; clear vs; obtain ⟨_, rfl⟩ := hqv) | (have hqv := vs.inv; clear vs; obtain rfl := hqv) | cases vs); (first | (have hqv := v.inv; clear v; obtain ⟨_, rfl⟩ := hqv) | (have hqv := v.inv; clear v; obtain rfl := hqv) | cases v)
  exact call_abs_int fun u tk => ⟨_, H, .toks b, .int _ _, h⟩

/-! methods of texts -/
theorem Mt_str {name : Str} {id : String} {Q : V → List V → AH → Prop} (slot : Slot "str" name id) (ty : typeOf (.builtin id) = pure (.type "method_descriptor")) (h : Q (.bi id) [.str l] H) : Mt G fs r (.str l) name H Q E := fun A s co pl a b v => by
  (first | (have hqv := v.inv; clear v; obtain ⟨_, rfl⟩ := hqv) | (have hqv := v.inv; clear v; obtain rfl := hqv) | cases v)
  exact GM.of _ (typeIs_str _ _ _) slot ty (fun u' e => nomatch e) ⟨.bi id, [.str l], H, .refl b, .bi _, .cons (.str l _) .nil, h⟩
theorem Mt_upper {Q : V → List V → AH → Prop} (h : Q (.bi "str.upper") [.str l] H) : Mt G fs r (.str l) "upper" H Q E := Mt_str F.slot_str_upper F.type_str_upper h
theorem Mt_lower {Q : V → List V → AH → Prop} (h : Q (.bi "str.lower") [.str l] H) : Mt G fs r (.str l) "lower" H Q E := Mt_str F.slot_str_lower F.type_str_lower h
theorem Mt_strip {Q : V → List V → AH → Prop} (h : Q (.bi "str.strip") [.str l] H) : Mt G fs r (.str l) "strip" H Q E := Mt_str F.slot_str_strip F.type_str_strip h
theorem Mt_rstrip {Q : V → List V → AH → Prop} (h : Q (.bi "str.rstrip") [.str l] H) : Mt G fs r (.str l) "rstrip" H Q E := Mt_str F.slot_str_rstrip F.type_str_rstrip h
theorem Mt_split {Q : V → List V → AH → Prop} (h : Q (.bi "str.split") [.str l] H) : Mt G fs r (.str l) "split" H Q E := Mt_str F.slot_str_split F.type_str_split h
theorem Mt_join {Q : V → List V → AH → Prop} (h : Q (.bi "str.join") [.str l] H) : Mt G fs r (.str l) "join" H Q E := Mt_str F.slot_str_join F.type_str_join h
theorem Mt_replace {Q : V → List V → AH → Prop} (h : Q (.bi "str.replace") [.str l] H) : Mt G fs r (.str l) "replace" H Q E := Mt_str F.slot_str_replace F.type_str_replace h

/-! items and slices -/
def GetI (G : Ctx) (fs : List Env) (r : Nat) (o i : V) (H : AH) (Q : V → AH → Prop) (E : AH → Prop) : Prop := ∀ A s co ci, AOK fs r A → Rel G fs H s → RV s.heap H o co → RV s.heap H i ci → (X2 fun T id => A3 (typeLookup (.type T) "__getitem__" = pure (some (.builtin id))) (s.TypeIs co T) (WV G fs A (getItem co ci) H Q E s))
abbrev KSub2 (G : Ctx) (fs : List Env) (r : Nat) (o : V) (Q : V → AH → Prop) (E : AH → Prop) : V → AH → Prop := fun i H => GetI G fs r o i H Q E
abbrev KSub1 (G : Ctx) (fs : List Env) (r : Nat) (env : Env) (m : Loc) (slice : Expr) (Q : V → AH → Prop) (E : AH → Prop) : V → AH → Prop := fun o H => Ev G fs r env m (eval slice env) H (KSub2 G fs r o Q E) E
theorem Ev_Sub {value slice : Expr} {pos : Pos} (h : Ev G fs r env m (eval value env) H (KSub1 G fs r env m slice Q E) E)
    (hs : ∀ o i, subscripted slice false o i = operate [o, i] (getItem o i) := by intros; with_unfolding_all rfl) : Ev G fs r env m (eval (.Subscript value slice pos) env) H Q E := fun A s a b c => by
  refine Subscript_ (wpAny_mono (h A s a b c) ?_ fun u' u' z => z)
  first | refine qv fun co s₁ o H₁ a₁ v₁ h₁ => ?_ | refine ql fun co s₁ o H₁ a₁ v₁ h₁ => ?_ | rintro co s₁ ⟨o, H₁, a₁, v₁, h₁⟩
  refine wpAny_mono (h₁ A s₁ a a₁.1 (c.keep a₁.2)) ?_ fun u' u' z => ex_from a₁ z
  first | refine qv fun ci s₂ i H₂ a₂ v₂ h₂ => ?_ | refine ql fun ci s₂ i H₂ a₂ v₂ h₂ => ?_ | rintro ci s₂ ⟨i, H₂, a₂, v₂, h₂⟩
  refine byc fun hnn => ?_
  obtain ⟨T, id, e, ty, w⟩ := h₂ A s₂ co ci a a₂.1 (v₁.mono a₂.2) v₂
  refine hnn ?_; clear hnn
  exact tail_any ty e (WV.from (a₁.trans a₂) w) (hs _ _)

theorem GetI_str {c n : Nat} (hr : -(2 ^ 62) ≤ i ∧ i < 2 ^ 62) (hn : seqIndex? i l.length = some n) (hc : l[n]? = some c) (h : Q (.str [c]) H) : GetI G fs r (.str l) (.int i) H Q E := fun A s co ci a b v1 v2 => by
  (first | (have hqv := v1.inv; clear v1; obtain ⟨_, rfl⟩ := hqv) | (have hqv := v1.inv; clear v1; obtain rfl := hqv) | cases v1); (first | (have hqv := v2.inv; clear v2; obtain ⟨_, rfl⟩ := hqv) | (have hqv := v2.inv; clear v2; obtain rfl := hqv) | cases v2)
  refine ⟨"str", _, F.slot_str_getitem.lookup, typeIs_str _ _ _, P.getItem_str (c := c) ?_ ?_ ⟨_, H, .toks b, .str [c] _, h⟩⟩
  · have a1 : ¬ i < -(2 ^ 63 : Int) := by lia
    have a2 : ¬ i ≥ 2 ^ 63 := by lia
    rw [decide_eq_false a1, decide_eq_false a2]; rfl
  · rw [str_len, hn]; simpa using hc
set_option tactic.hygienic true in
theorem GetI_tup {vs : List V} {v : V} {n : Nat} (hr : -(2 ^ 62) ≤ i ∧ i < 2 ^ 62) (hn : seqIndex? i vs.length = some n) (hc : vs[n]? = some v) (h : Q v H) : GetI G fs r (.tup vs) (.int i) H Q E := fun A s co ci a b v1 v2 => by
  obtain _ | _ | _ | _ | ⟨t, n0, rs⟩ := v1
  (first | (have hqv := v2.inv; clear v2; obtain ⟨_, rfl⟩ := hqv) | (have hqv := v2.inv; clear v2; obtain rfl := hqv) | cases v2)
  rename_i ta items tk
  refine byc fun hnn => ?_
  obtain ⟨y, hy, rv⟩ := rs.get hc
  refine hnn ?_; clear hnn
  refine byc fun hnn => ?_
  obtain ⟨o, ho, hcl, hd⟩ := id t
  refine hnn ?_; clear hnn
  have ty : s.TypeIs (.ref ta) "tuple" := ⟨o, ho, hcl⟩
  refine ⟨"tuple", _, slot_tuple_getitem.lookup, ty, getItem_tuple (j := n) t (by lia) (by lia) ?_ (by simpa using hy) ⟨v, H, .refl b, rv, h⟩⟩
  have : items.size = vs.length := by rw [rs.length]; simp
  rw [this]; exact hn
theorem list_of {s : Shared} {a : Addr} {vs : List V} (b : Rel G fs H s) (hl : H a = some (.list vs)) : ∃ items n, s.heap.get? a = some (listOf items n) ∧ RVs s.heap H vs items.toList ∧ s.heap.IsList a items := by
  refine byc fun hnn => ?_
  obtain ⟨items, n, e, rs⟩ := b.objs a _ hl
  refine hnn ?_; clear hnn
  exact ⟨items, n, e, rs, ⟨_, e, rfl, n, rfl⟩⟩
theorem GetI_list {la : Addr} {vs : List V} {v : V} {n : Nat} (hl : H la = some (.list vs)) (hr : 0 ≤ i ∧ i < 2 ^ 62) (hn : i.toNat = n) (hc : vs[n]? = some v) (h : Q v H) : GetI G fs r (.ref la) (.int i) H Q E := fun A s co ci a b v1 v2 => by
  (first | (have hqv := v1.inv; clear v1; obtain ⟨_, rfl⟩ := hqv) | (have hqv := v1.inv; clear v1; obtain rfl := hqv) | cases v1); (first | (have hqv := v2.inv; clear v2; obtain ⟨_, rfl⟩ := hqv) | (have hqv := v2.inv; clear v2; obtain rfl := hqv) | cases v2)
  refine byc fun hnn => ?_
  obtain ⟨items, nn, e, rs, L⟩ := list_of b hl
  refine hnn ?_; clear hnn
  subst hn
  refine byc fun hnn => ?_
  obtain ⟨y, hy, rv⟩ := rs.get hc
  refine hnn ?_; clear hnn
  exact ⟨"list", _, slot_list_getitem.lookup, L.typeIs, wpAny_getItem_list L hr.1 (by lia) (by simpa using hy) ⟨v, H, .refl b, rv, h⟩⟩
end
end SL6
section SL7
open PySem PySem.W PyProof.Rows
set_option tactic.hygienic false

def eqL (f : V → V → Bool) : List V → List V → Bool
  | [], b => b.isEmpty
  | _ :: _, [] => false
  | a :: r, b :: t => f a b && eqL f r t
theorem eqL_cons {f : V → V → Bool} {a b : V} {r t : List V} : eqL f (a :: r) (b :: t) = (f a b && eqL f r t) := rfl
theorem eqL_nil {f : V → V → Bool} : eqL f [] [] = true := rfl
def feq : V → V → Bool
  | .str a, .str b => a == b
  | .int a, .int b => a == b
  | _, _ => false
theorem feq_str {a b : List Nat} : feq (.str a) (.str b) = (a == b) := rfl
theorem feq_int {a b : Int} : feq (.int a) (.int b) = (a == b) := rfl
theorem eqL_len {f : V → V → Bool} {a b : List V} (h : a.length ≠ b.length) : eqL f a b = false := by
  induction a generalizing b with
  | nil => cases b with
    | nil => exact (h rfl).elim
    | cons x t => rfl
  | cons a r ih => cases b with
    | nil => rfl
    | cons b t =>
      rw [eqL_cons, ih fun z => h (congrArg (· + 1) z), Bool.and_false]
theorem eqL_range {f : V → V → Bool} {e : Nat → Bool} {a b : List V} (h : a.length = b.length) (he : ∀ j v w, a[j]? = some v → b[j]? = some w → e j = f v w) : (List.range a.length).all e = eqL f a b := by
  induction a generalizing b e with
  | nil => cases b with
    | nil => rfl
    | cons x t => cases h
  | cons x r ih => cases b with
    | nil => cases h
    | cons y t =>
      rw [eqL_cons, List.length_cons, List.range_succ_eq_map, List.all_cons, he 0 x y rfl rfl, List.all_map]
      congr 1
      exact ih (e := e ∘ Nat.succ) (Nat.succ.inj h) fun j v w h1 h2 => he (j + 1) v w h1 h2
theorem eqL_strs {a b : List (List Nat)} : eqL feq (a.map .str) (b.map .str) = (a == b) := by
  induction a generalizing b with
  | nil => cases b <;> rfl
  | cons x r ih => cases b with
    | nil => rfl
    | cons y t =>
      rw [List.map_cons, List.map_cons, eqL_cons, feq_str, ih (b := t)]
      rfl
def flatV : V → Bool
  | .str _ => true
  | .int _ => true
  | _ => false

section
variable {G : Ctx} {fs : List Env} {r : Nat} {env : Env} {m : Loc} {H : AH} {Q : V → AH → Prop} {E : AH → Prop} {i j : Int} {l k : List Nat}

set_option tactic.hygienic true in
theorem eqAt_flat {A : Around} {s : Shared} {v w : V} {c d : Value} {h : Heap} {H H' : AH} (a : RV h H v c) (b : RV h H' w d) (fv : flatV v = true) (fw : flatV w = true) : SeqAt.EqAt A s c d (feq v w) := by
  cases v with
  | int i =>
    obtain ⟨t, rfl⟩ := a.inv
    cases w with
    | int j => obtain ⟨u, rfl⟩ := b.inv; exact SeqAt.EqAt.int_int _ _ _ _
    | str y => obtain ⟨u, rfl⟩ := b.inv; exact SeqAt.EqAt.int_str _ _ _ _
    | _ => cases fw
  | str x =>
    obtain ⟨t, rfl⟩ := a.inv
    cases w with
    | int j => obtain ⟨u, rfl⟩ := b.inv; exact SeqAt.EqAt.str_int _ _ _ _
    | str y =>
      obtain ⟨u, rfl⟩ := b.inv
      have := SeqAt.EqAt.str_str (A := A) (s := s) ⟨x.toArray⟩ t ⟨y.toArray⟩ u
      rw [← toList_beq] at this
      exact this
    | _ => cases fw
  | _ => cases fv

theorem AOK.room {A : Around} (a : AOK fs r A) : A.units < cLine := by have := a.units; show A.units < 9900; lia
theorem AOK.in1 {A : Around} (a : AOK fs r A) : A.in1.units < cLine := by have := a.units; show A.units + 1 < 9900; lia

/-- the j-th items alike -/
noncomputable def eAt (vs ws : List V) (j : Nat) : Bool := match vs[j]?, ws[j]? with | some v, some w => feq v w | _, _ => false
theorem eAt_at {A : Around} {s : Shared} {H : AH} {vs ws : List V} {i1 i2 : Array Value} (r1 : RVs s.heap H vs i1.toList) (r2 : RVs s.heap H ws i2.toList) (f1 : vs.all flatV = true ∨ ws = []) (f2 : ws.all flatV = true) (hz : vs.length = ws.length) (j : Nat) (h1 : j < i1.size) (h2 : j < i2.size) :
    SeqAt.EqAt A s i1[j] i2[j] (eAt vs ws j) := by
  have l1 : j < vs.length := by rw [r1.length]; exact h1
  have l2 : j < ws.length := hz ▸ l1
  have g1 : vs[j]? = some vs[j] := List.getElem?_eq_getElem l1
  have g2 : ws[j]? = some ws[j] := List.getElem?_eq_getElem l2
  refine byc fun hnn => ?_
  obtain ⟨y1, q1, p1⟩ := r1.get g1
  refine hnn ?_; clear hnn
  refine byc fun hnn => ?_
  obtain ⟨y2, q2, p2⟩ := r2.get g2
  refine hnn ?_; clear hnn
  have t1 : i1[j] = y1 := Option.some.inj ((List.getElem?_eq_getElem (l := i1.toList) h1).symm.trans q1)
  have t2 : i2[j] = y2 := Option.some.inj ((List.getElem?_eq_getElem (l := i2.toList) h2).symm.trans q2)
  have e : eAt vs ws j = feq vs[j] ws[j] := by unfold eAt; rw [g1, g2]
  rw [t1, t2, e]
  rcases f1 with f1 | f1
  · exact eqAt_flat p1 p2 (List.all_eq_true.mp f1 _ (List.getElem_mem _)) (List.all_eq_true.mp f2 _ (List.getElem_mem _))
  · rw [f1] at l2; cases l2
theorem eAt_all {vs ws : List V} (hz : vs.length = ws.length) : (List.range vs.length).all (eAt vs ws) = eqL feq vs ws :=
  eqL_range hz fun j v w q1 q2 => by unfold eAt; rw [q1, q2]
/-- two lists of texts (or ints) -/
theorem COp_eq_list {la lb : Addr} {vs ws : List V} (h1 : H la = some (.list vs)) (h2 : H lb = some (.list ws)) (f1 : vs.all flatV = true ∨ ws = []) (f2 : ws.all flatV = true) (h : Q (.bool (eqL feq vs ws)) H) : COp G fs r .Eq (.ref la) (.ref lb) H Q E := fun A s va vb a b v1 v2 => by
  obtain rfl : va = .ref la := v1.inv
  obtain rfl : vb = .ref lb := v2.inv
  refine byc fun hnn => ?_
  obtain ⟨i1, n1, e1, r1, L1⟩ := list_of b h1
  refine hnn ?_; clear hnn
  refine byc fun hnn => ?_
  obtain ⟨i2, n2, e2, r2, L2⟩ := list_of b h2
  refine hnn ?_; clear hnn
  have z1 : i1.size = vs.length := r1.length.symm
  have z2 : i2.size = ws.length := r2.length.symm
  by_cases hz : vs.length = ws.length
  · exact SeqAt.eq_listAt (e := eAt vs ws) L1 L2 (by rw [z1, z2, hz]) a.room (eAt_at r1 r2 f1 f2 hz) ⟨_, H, .refl b, .bool _, by rw [z1, eAt_all hz]; exact h⟩
  · rw [eqL_len hz] at h
    exact SeqAt.eq_list_lengthsAt L1 L2 (by rw [z1, z2]; exact bne_iff_ne.mpr hz) a.room ⟨_, H, .refl b, .bool _, h⟩
theorem COp_ne_list {la lb : Addr} {vs ws : List V} (h1 : H la = some (.list vs)) (h2 : H lb = some (.list ws)) (f1 : vs.all flatV = true ∨ ws = []) (f2 : ws.all flatV = true) (h : Q (.bool (!eqL feq vs ws)) H) : COp G fs r .NotEq (.ref la) (.ref lb) H Q E := fun A s va vb a b v1 v2 => by
  obtain rfl : va = .ref la := v1.inv
  obtain rfl : vb = .ref lb := v2.inv
  refine byc fun hnn => ?_
  obtain ⟨i1, n1, e1, r1, L1⟩ := list_of b h1
  refine hnn ?_; clear hnn
  refine byc fun hnn => ?_
  obtain ⟨i2, n2, e2, r2, L2⟩ := list_of b h2
  refine hnn ?_; clear hnn
  have z1 : i1.size = vs.length := r1.length.symm
  have z2 : i2.size = ws.length := r2.length.symm
  by_cases hz : vs.length = ws.length
  · exact SeqAt.RcNeAt.lists (e := eAt vs ws) L1 L2 (by rw [z1, z2, hz]) a.room (eAt_at r1 r2 f1 f2 hz) _ _ _ _ ⟨_, H, .refl b, .bool _, by rw [z1, eAt_all hz]; exact h⟩
  · rw [eqL_len hz] at h
    exact SeqAt.RcNeAt.lists_lengths L1 L2 (by rw [z1, z2]; exact bne_iff_ne.mpr hz) a.room _ _ _ _ ⟨_, H, .refl b, .bool _, h⟩
theorem COp_ne_none (h : Q (.bool false) H) : COp G fs r .NotEq .none .none H Q E := fun A s va vb a b v1 v2 => by
  (first | (have hqv := v1.inv; clear v1; obtain ⟨_, rfl⟩ := hqv) | (have hqv := v1.inv; clear v1; obtain rfl := hqv) | cases v1); (first | (have hqv := v2.inv; clear v2; obtain ⟨_, rfl⟩ := hqv) | (have hqv := v2.inv; clear v2; obtain rfl := hqv) | cases v2); exact SeqAt.RcNeAt.none_none _ _ _ _ ⟨_, H, .refl b, .bool _, h⟩
theorem COp_eq_none (h : Q (.bool true) H) : COp G fs r .Eq .none .none H Q E := fun A s va vb a b v1 v2 => by
  (first | (have hqv := v1.inv; clear v1; obtain ⟨_, rfl⟩ := hqv) | (have hqv := v1.inv; clear v1; obtain rfl := hqv) | cases v1); (first | (have hqv := v2.inv; clear v2; obtain ⟨_, rfl⟩ := hqv) | (have hqv := v2.inv; clear v2; obtain rfl := hqv) | cases v2); exact SeqAt.RcAt.none_none _ _ _ _ ⟨_, H, .refl b, .bool _, h⟩
theorem COp_is_none {v : V} (h : Q (.bool (match v with | .none => true | _ => false)) H) : COp G fs r .Is v .none H Q E := fun A s va vb a b v1 v2 => by
  (first | (have hqv := v2.inv; clear v2; obtain ⟨_, rfl⟩ := hqv) | (have hqv := v2.inv; clear v2; obtain rfl := hqv) | cases v2)
  refine is_none ⟨_, H, .refl b, ?_, h⟩
  cases v1 <;> exact .bool _
theorem COp_isnot_none {v : V} (h : Q (.bool (match v with | .none => false | _ => true)) H) : COp G fs r .IsNot v .none H Q E := fun A s va vb a b v1 v2 => by
  (first | (have hqv := v2.inv; clear v2; obtain ⟨_, rfl⟩ := hqv) | (have hqv := v2.inv; clear v2; obtain rfl := hqv) | cases v2)
  refine isNot_none ⟨_, H, .refl b, ?_, h⟩
  cases v1 <;> exact .bool _

set_option tactic.hygienic true in
/-- two tuples of texts -/
theorem COp_ne_tup {vs ws : List V} (hz : vs.length = ws.length) (f1 : vs.all flatV = true) (f2 : ws.all flatV = true) (h : Q (.bool (!eqL feq vs ws)) H) : COp G fs r .NotEq (.tup vs) (.tup ws) H Q E := fun A s va vb a b v1 v2 => by
  obtain ⟨a1, i1, rfl, t1, o1, r1⟩ := v1.inv
  obtain ⟨a2, i2, rfl, t2, o2, r2⟩ := v2.inv
  have z1 : i1.size = vs.length := r1.length.symm
  have z2 : i2.size = ws.length := r2.length.symm
  refine SeqAt.RcNeAt.tuples (e := eAt vs ws) t1 t2 a.room (eAt_at r1 r2 (.inl f1) f2 hz) _ _ _ _ ⟨_, H, .refl b, .bool _, ?_⟩
  rw [z1, z2, hz, Nat.min_self, ← hz, eAt_all hz, beq_self_eq_true, Bool.and_true]
  exact h

set_option tactic.hygienic true in
/-- a text in a list of texts -/
theorem COp_in_list {la : Addr} {ks : List (List Nat)} (h1 : H la = some (.list (ks.map .str))) (h : Q (.bool (ks.contains l)) H) : COp G fs r .In (.str l) (.ref la) H Q E := fun A s va vb a b v1 v2 => by
  (first | (have hqv := v1.inv; clear v1; obtain ⟨_, rfl⟩ := hqv) | (have hqv := v1.inv; clear v1; obtain rfl := hqv) | cases v1); (first | (have hqv := v2.inv; clear v2; obtain ⟨_, rfl⟩ := hqv) | (have hqv := v2.inv; clear v2; obtain rfl := hqv) | cases v2)
  rename_i t
  refine byc fun hnn => ?_
  obtain ⟨i1, n1, e1, r1, L1⟩ := list_of b h1
  refine hnn ?_; clear hnn
  have str : ∀ y ∈ i1, ∃ (x : List Nat) (u : Tok), y = .str ⟨x.toArray⟩ u := by
    have : ∀ {vs : List (List Nat)} {cs : List Value}, RVs s.heap H (vs.map .str) cs → ∀ y ∈ cs, ∃ (x : List Nat) (u : Tok), y = Value.str ⟨x.toArray⟩ u := by
      intro vs
      induction vs with
      | nil => intro cs q; cases q; intro y hy; cases hy
      | cons x vs ih =>
        intro cs q y hy
        cases q with
        | cons p q =>
          cases p
          cases hy with
          | head => exact ⟨x, _, rfl⟩
          | tail _ hy => exact ih q y hy
    exact fun y hy => this r1 y (Array.mem_toList_iff.mpr hy)
  refine SeqAt.in_listAt (fun c => match c with | .str x _ => x.cps.toList == l | _ => false) L1 (fun y hy => ?_) ⟨_, H, .refl b, .bool _, ?_⟩
  · obtain ⟨x, u, rfl⟩ := str y hy
    have := SeqAt.EqAt.str_str (A := A.in1) (s := s) ⟨x.toArray⟩ u ⟨l.toArray⟩ t
    rw [← toList_beq] at this
    exact this
  · have : (i1.any fun c => match c with | .str x _ => x.cps.toList == l | _ => false) = ks.contains l := by
      rw [← Array.any_toList]
      have : ∀ {vs : List (List Nat)} {cs : List Value}, RVs s.heap H (vs.map .str) cs → (cs.any fun c => match c with | .str x _ => x.cps.toList == l | _ => false) = vs.contains l := by
        intro vs
        induction vs with
        | nil => intro cs q; cases q; rfl
        | cons x vs ih =>
          intro cs q
          cases q with
          | cons p q =>
            cases p
            rw [List.any_cons, ih q, List.contains_cons, BEq.comm (a := l)]
      exact this r1
    rw [this]; exact h

/-! lists -/
theorem Cl_len_list {la : Addr} {vs : List V} (h1 : H la = some (.list vs)) (hf : vs.length < 2 ^ 62) (h : Q (.int vs.length) H) : Cl G fs r (.bi "len") [.ref la] H Q E := fun A s vf cs a b v rs => by
  (first | (have hqv := v.inv; clear v; obtain ⟨_, rfl⟩ := hqv) | (have hqv := v.inv; clear v; obtain rfl := hqv) | cases v)
  obtain _ | ⟨v, rs⟩ := rs
  cases rs; (first | (have hqv := v.inv; clear v; obtain ⟨_, rfl⟩ := hqv) | (have hqv := v.inv; clear v; obtain rfl := hqv) | cases v)
  refine byc fun hnn => ?_
  obtain ⟨i1, n1, e1, r1, L1⟩ := list_of b h1
  refine hnn ?_; clear hnn
  have z1 : i1.size = vs.length := by rw [r1.length]; simp
  exact len_list L1 (by lia) ⟨_, H, .toks b, by rw [z1]; exact .int _ _, h⟩
set_option tactic.hygienic true in
theorem Tr_list {la : Addr} {vs : List V} {Q : Bool → AH → Prop} (h1 : H la = some (.list vs)) (hf : vs.length < 2 ^ 62) (h : Q (!vs.isEmpty) H) : Tr G fs r (.ref la) H Q E := fun A s va a b v1 => by
  (first | (have hqv := v1.inv; clear v1; obtain ⟨_, rfl⟩ := hqv) | (have hqv := v1.inv; clear v1; obtain rfl := hqv) | cases v1)
  refine byc fun hnn => ?_
  obtain ⟨i1, n1, e1, r1, L1⟩ := list_of b h1
  refine hnn ?_; clear hnn
  have z1 : i1.size = vs.length := by rw [r1.length]; simp
  refine wpAny_truthy_list L1 (by lia) ⟨H, .toks b, ?_⟩
  have : i1.isEmpty = vs.isEmpty := by
    unfold Array.isEmpty; rw [z1]; cases vs <;> simp
  rw [this]; exact h
theorem Mt_list {name : Str} {id : String} {la : Addr} {vs : List V} {Q : V → List V → AH → Prop} (h1 : H la = some (.list vs)) (slot : Slot "list" name id) (ty : typeOf (.builtin id) = pure (.type "method_descriptor")) (h : Q (.bi id) [.ref la] H) : Mt G fs r (.ref la) name H Q E := fun A s co pl a b v => by
  (first | (have hqv := v.inv; clear v; obtain ⟨_, rfl⟩ := hqv) | (have hqv := v.inv; clear v; obtain rfl := hqv) | cases v)
  refine byc fun hnn => ?_
  obtain ⟨i1, n1, e1, r1, L1⟩ := list_of b h1
  refine hnn ?_; clear hnn
  exact getMethod_list_of slot ty L1 ⟨_, e1, rfl⟩ ⟨.bi id, [.ref la], H, .refl b, .bi _, .cons (.ref la) .nil, h⟩
theorem Mt_append {la : Addr} {vs : List V} {Q : V → List V → AH → Prop} (h1 : H la = some (.list vs)) (h : Q (.bi "list.append") [.ref la] H) : Mt G fs r (.ref la) "append" H Q E := Mt_list h1 F.slot_list_append F.type_list_append h
theorem Mt_extend {la : Addr} {vs : List V} {Q : V → List V → AH → Prop} (h1 : H la = some (.list vs)) (h : Q (.bi "list.extend") [.ref la] H) : Mt G fs r (.ref la) "extend" H Q E := Mt_list h1 F.slot_list_extend F.type_list_extend h

theorem upd_list_keep {s : Shared} {la : Addr} {vs ws : List V} {h' : Heap} (b : Rel G fs H s) (h1 : H la = some (.list vs)) (hs : Heap.SameBut la s.heap h') {items : Array Value} {n : Nat} (e : h'.get? la = some (listOf items n)) (rs : RVs s.heap H ws items.toList) {t : Nat} :
    After G fs H s (upd H la (.list ws)) { s with heap := h', toks := t } :=
  After.turn b hs h1 (.inl ⟨vs, rfl⟩) ⟨items, n, e, rs.mono (X := fun u' => False) (Keep.of_upd hs (by rw [h1]; simp) e)⟩
theorem Cl_append {la : Addr} {vs : List V} {v : V} (h1 : H la = some (.list vs)) (hf : vs.length ≤ sizeLine) (h : Q .none (upd H la (.list (vs ++ [v])))) : Cl G fs r (.bi "list.append") [.ref la, v] H Q E := fun A s vf cs a b vr rs => by
  (first | (have hqv := vr.inv; clear vr; obtain ⟨_, rfl⟩ := hqv) | (have hqv := vr.inv; clear vr; obtain rfl := hqv) | cases vr)
  obtain _ | ⟨v1, rs⟩ := rs
  obtain _ | ⟨v2, rs⟩ := rs
  cases rs; (first | (have hqv := v1.inv; clear v1; obtain ⟨_, rfl⟩ := hqv) | (have hqv := v1.inv; clear v1; obtain rfl := hqv) | cases v1)
  refine byc fun hnn => ?_
  obtain ⟨i1, n1, e1, r1, L1⟩ := list_of b h1
  refine hnn ?_; clear hnn
  have z1 : i1.size = vs.length := by rw [r1.length]; simp
  refine wpAny_list_append_plain (l := la) ⟨n1, e1⟩ (fun h' ⟨n', e'⟩ hs => ?_) (by lia)
  refine ⟨.none, _, upd_list_keep (t := s.toks) b h1 hs e' ?_, .none, h⟩
  rw [Array.toList_push]
  exact r1.append (.cons v2 .nil)
theorem Cl_extend {la lb : Addr} {vs ws : List V} (h1 : H la = some (.list vs)) (h2 : H lb = some (.list ws)) (hf : vs.length + ws.length ≤ sizeLine) (h : Q .none (upd H la (.list (vs ++ ws)))) : Cl G fs r (.bi "list.extend") [.ref la, .ref lb] H Q E := fun A s vf cs a b vr rs => by
  (first | (have hqv := vr.inv; clear vr; obtain ⟨_, rfl⟩ := hqv) | (have hqv := vr.inv; clear vr; obtain rfl := hqv) | cases vr)
  obtain _ | ⟨v1, rs⟩ := rs
  obtain _ | ⟨v2, rs⟩ := rs
  cases rs; (first | (have hqv := v1.inv; clear v1; obtain ⟨_, rfl⟩ := hqv) | (have hqv := v1.inv; clear v1; obtain rfl := hqv) | cases v1); (first | (have hqv := v2.inv; clear v2; obtain ⟨_, rfl⟩ := hqv) | (have hqv := v2.inv; clear v2; obtain rfl := hqv) | cases v2)
  refine byc fun hnn => ?_
  obtain ⟨i1, n1, e1, r1, L1⟩ := list_of b h1
  refine hnn ?_; clear hnn
  refine byc fun hnn => ?_
  obtain ⟨i2, n2, e2, r2, L2⟩ := list_of b h2
  refine hnn ?_; clear hnn
  have z1 : i1.size = vs.length := by rw [r1.length]; simp
  have z2 : i2.size = ws.length := by rw [r2.length]; simp
  have hsz' : i1.size + i2.size ≤ sizeLine := by lia
  refine call_meets PySem.F.slot_list_extend ⟨_, e1, rfl⟩ PySem.F.entry_list_extend (PySem.F.args_list_extend_2 _ _) (AutoSeq1.list_extend_list_list_0 la i1 n1 lb i2 n2 (extend_door hsz') (by lia) (by lia)) ⟨e1, e2, ?_⟩
  have ho' : (s.heap.update la (Obj.mapSeq fun x => x ++ i2)).get? la = some (listOf (i1 ++ i2) (if (i1 ++ i2).size == i1.size then n1 else n1 + 1)) := by
    rw [Heap.get?_update_self _ e1 (by rw [mapSeq_app]; rfl), mapSeq_app]
  refine ⟨.none, _, upd_list_keep (t := s.toks) b h1 (Heap.SameBut.update ..) ho' ?_, .none, h⟩
  rw [Array.toList_append]
  exact r1.append r2
/-- list + list -/
theorem BOp_lists {la lb : Addr} {vs ws : List V} (h1 : H la = some (.list vs)) (h2 : H lb = some (.list ws)) (hf : vs.length + ws.length ≤ sizeLine) (h : ∀ l, H l = none → Q (.ref l) (upd H l (.list (vs ++ ws)))) : BOp G fs r .Add (.ref la) (.ref lb) H Q E := fun A s va vb a b v1 v2 => by
  (first | (have hqv := v1.inv; clear v1; obtain ⟨_, rfl⟩ := hqv) | (have hqv := v1.inv; clear v1; obtain rfl := hqv) | cases v1); (first | (have hqv := v2.inv; clear v2; obtain ⟨_, rfl⟩ := hqv) | (have hqv := v2.inv; clear v2; obtain rfl := hqv) | cases v2)
  refine byc fun hnn => ?_
  obtain ⟨i1, n1, e1, r1, L1⟩ := list_of b h1
  refine hnn ?_; clear hnn
  refine byc fun hnn => ?_
  obtain ⟨i2, n2, e2, r2, L2⟩ := list_of b h2
  refine hnn ?_; clear hnn
  have z1 : i1.size = vs.length := by rw [r1.length]; simp
  have z2 : i2.size = ws.length := by rw [r2.length]; simp
  refine concat_meets ⟨_, e1, rfl⟩ ⟨_, e2, rfl⟩ noFill_list_add seq_list_add PySem.F.slot_list_add PySem.F.entry_list_add (PySem.F.args_list_add_2 _ _) (list_addW la lb i1 i2 n1 n2 none none #[] #[] (by lia)) ⟨e1, e2, ?_⟩
  refine ⟨.ref s.heap.objs.size, _, After.new (t := s.toks) (o := .list (vs ++ ws)) b push_keep size_none ⟨i1 ++ i2, 0, Heap.get?_push_size _ rfl, ?_⟩, .ref _, h _ b.freeSize⟩
  rw [Array.toList_append]
  exact (r1.append r2).mono (X := fun u' => False) (Keep.of_new push_keep size_none)
end
end SL7
section SL8
open PySem PySem.W PyProof.Rows
set_option tactic.hygienic false

def fput (name : Str) (v : V) : List (Str × V) → List (Str × V)
  | [] => [(name, v)]
  | (k, w) :: r => if k = name then (k, v) :: r else (k, w) :: fput name v r
theorem fput_len (name : Str) (v : V) (l : List (Str × V)) : (fput name v l).length ≤ l.length + 1 := by
  induction l with
  | nil => exact Nat.le_refl _
  | cons p r ih =>
    unfold fput
    split
    · exact Nat.le_succ _
    · exact Nat.succ_le_succ ih
theorem RFs.put {P : Params} {h : Heap} {H : AH} {name : Str} {v : V} {cv : Value} {t : Tok} (rv : RV h H v cv) {fm : List (Str × V)} {es : List DictEntry} (q : RFs P h H fm es) : RFs P h H (fput name v fm) (putL name (PyData.keyHash P name) (.str name t) cv es) := by
  induction q with
  | nil => exact .cons rv .nil
  | @cons k v1 t' c l es a r ih =>
    unfold fput putL
    have hk : (Value.str k t').isStr name = (k == name) := rfl
    by_cases z : k = name
    · have z1 : (k == name) = true := beq_iff_eq.mpr z
      rw [if_pos z, if_pos (hk.trans z1)]
      exact .cons rv r
    · have z1 : (k == name) = false := beq_eq_false_iff_ne.mpr z
      rw [if_neg z, if_neg (by rw [hk, z1]; simp)]
      exact .cons a ih

theorem RFs.noref {P : Params} {h : Heap} {H : AH} {fm : List (Str × V)} {es : List DictEntry} (q : RFs P h H fm es) : es.any (·.refKey) = false := by
  induction q with
  | nil => rfl
  | cons a r ih => rw [List.any_cons, ih]; rfl

/-- an object's field is set: heap and ledger -/
theorem After.field {G : Ctx} {fs : List Env} {H : AH} {s : Shared} {h' : Heap} {t : Nat} {x c dx : Addr} {fm fm' : List (Str × V)} {es' : List DictEntry} {n' : Nat} (r : Rel G fs H s) (hx : H x = some (.inst c dx fm))
    (hq : RFs G.w.params s.heap H fm' es') (hn : h'.get? dx = some (dictOf es' n')) (hs : Heap.SameBut dx s.heap h') : After G fs H s (upd H x (.inst c dx fm')) { s with heap := h', toks := t } := by
  refine byc fun hnn => ?_
  obtain ⟨ex, hd, _⟩ := r.objs x _ hx
  refine hnn ?_; clear hnn
  have hxd : x ≠ dx := fun q => by rw [q, hd] at hx; cases hx
  have k : Keep H s.heap (upd H x (.inst c dx fm')) h' := fun b ob e => ⟨by
      by_cases q : b = dx
      · exact ⟨_, q ▸ hn⟩
      · exact ⟨ob, (hs.2 b q).trans e⟩, fun n => ⟨by rw [upd_ne fun q => by rw [q, hx] at n; cases n]; exact n, fun u' => ⟨ob.slots, (hs.2 b fun q => by rw [q, hd] at n; cases n).trans e⟩⟩⟩
  have kb : ∀ b o, G.s₀.heap.get? b = some o → h'.get? b = some o := fun b o e => (hs.2 b fun q => by rw [q, r.notBase hd] at e; cases e).trans (r.base b o e)
  refine ⟨r.step k (fun b ob e => ?_) kb, k⟩
  by_cases q : b = x
  · subst q
    rw [upd_eq] at e; cases e
    exact ⟨(hs.2 b hxd).trans ex, by rw [upd_ne (Ne.symm hxd)]; exact hd, _, _, hn, hq.mono k⟩
  · rw [upd_ne q] at e
    have z := r.objs _ _ e
    have ne : ∀ o, H b = some o → (∀ y, o ≠ .aux y) → b ≠ dx := fun o e na q => by rw [q, hd] at e; cases e; exact na _ rfl
    cases ob with
    | list l => obtain ⟨items, n, e1, q1⟩ := z; exact ⟨items, n, (hs.2 b (ne _ e fun u' z => by cases z)).trans e1, q1.mono k⟩
    | dict l n => obtain ⟨es, e1, q1, nd⟩ := z; exact ⟨es, (hs.2 b (ne _ e fun u' z => by cases z)).trans e1, q1.mono k, nd⟩
    | inst c' dx' fm'' =>
      refine byc fun hnn => ?_
      obtain ⟨e1, hd', es, n, e2, q1⟩ := z
      refine hnn ?_; clear hnn
      have hdx : dx' ≠ dx := fun z => by rw [z, hd] at hd'; cases hd'; exact q rfl
      have hdx2 : dx' ≠ x := fun z => by rw [z, hx] at hd'; cases hd'
      exact ⟨(hs.2 b (ne _ e fun u' z => by cases z)).trans e1, by rw [upd_ne hdx2]; exact hd', es, n, (hs.2 dx' hdx).trans e2, q1.mono k⟩
    | aux x' =>
      refine byc fun hnn => ?_
      obtain ⟨c', fm'', e1⟩ := z
      refine hnn ?_; clear hnn
      by_cases q2 : x' = x
      · subst q2; rw [hx] at e1; cases e1; exact ⟨c, _, upd_eq⟩
      · exact ⟨c', fm'', by rw [upd_ne q2]; exact e1⟩

section
variable {G : Ctx} {fs : List Env} {r : Nat} {env : Env} {m : Loc} {H : AH} {Q : V → AH → Prop} {E : AH → Prop} {i j : Int} {l k : List Nat}

def Sa (G : Ctx) (fs : List Env) (r : Nat) (o : V) (name : Str) (v : V) (H : AH) (Q : AH → Prop) (E : AH → Prop) : Prop := ∀ A s co cv, AOK fs r A → Rel G fs H s → RV s.heap H o co → RV s.heap H v cv → wpAny (model G.prog G.w) A (setAttr co name cv) (QU G fs H s Q)
    (QE G fs H s E) s
abbrev KSa2 (G : Ctx) (fs : List Env) (r : Nat) (m : Loc) (attr : Str) (v : V) (Q : Fl → Loc → AH → Prop) (E : AH → Prop) : V → AH → Prop := fun ov H => Sa G fs r ov attr v H (Q .next m) E
abbrev KSa1 (G : Ctx) (fs : List Env) (r : Nat) (env : Env) (m : Loc) (o : Expr) (attr : Str) (Q : Fl → Loc → AH → Prop) (E : AH → Prop) : V → AH → Prop := fun v H => Ev G fs r env m (eval o env) H (KSa2 G fs r m attr v Q E) E
theorem Ex_AssignAttr {o : Expr} {attr : Str} {p pos : Pos} {e : Expr} {Q : Fl → Loc → AH → Prop} (h : Ev G fs r env m (eval e env) H (KSa1 G fs r env m o attr Q E) E)
    (hs : swapsWith e (some (.Attribute o attr p)) pos.line env = pure false := by rfl) : Ex G fs r env m (exec (.Assign [.Attribute o attr p] e pos) env) H Q E := fun A s a b c => by
  refine plainObj_wpAny_Assign_Attribute (wpAny_mono (h A s a b c) ?_ fun u' u' z => exX c z) hs
  first | refine qv fun cv s₁ v H₁ a₁ v₁ h₁ => ?_ | refine ql fun cv s₁ v H₁ a₁ v₁ h₁ => ?_ | rintro cv s₁ ⟨v, H₁, a₁, v₁, h₁⟩
  refine wpAny_mono (h₁ A s₁ a a₁.1 (c.keep a₁.2)) ?_ fun u' u' z => exX c (ex_from a₁ z)
  first | refine qv fun co s₂ ov H₂ a₂ v₂ h₂ => ?_ | refine ql fun co s₂ ov H₂ a₂ v₂ h₂ => ?_ | rintro co s₂ ⟨ov, H₂, a₂, v₂, h₂⟩
  refine wpAny_mono (h₂ A s₂ co cv a a₂.1 v₂ (v₁.mono a₂.2)) ?_ fun u' u' z => exX c (ex_from (a₁.trans a₂) z)
  first | refine qb fun u' s₃ H₃ a₃ h₃ => ?_ | refine qu fun u' s₃ H₃ a₃ h₃ => ?_ | rintro _ s₃ ⟨H₃, a₃, h₃⟩
  exact ⟨.next, m, H₃, ((a₁.trans a₂).trans a₃).x, c.keep ((a₁.trans a₂).trans a₃).2, .next, h₃⟩

theorem Sa_inst {x c dx : Addr} {fm : List (Str × V)} {name : Str} {v : V} {Q : AH → Prop} (hx : H x = some (.inst c dx fm)) (hs : findIn G.K (.ref c) "__setattr__" = some (some (.builtin "object.__setattr__"))) (hp : plainOver G.K c = true) (ht : takerIn G.K c name = some none) (hh : hasDictIn G.K c = true)
    (hl : fm.length ≤ 1000) (h : Q (upd H x (.inst c dx (fput name v fm)))) : Sa G fs r (.ref x) name v H Q E := fun A s co cv a b vo vv => by
  cases vo
  refine byc fun hnn => ?_
  obtain ⟨es, n, I, e2, q⟩ := inst_at b hx
  refine hnn ?_; clear hnn
  have X := b.keepK
  refine set_plain X I hs (osa_open (s := { s with toks := s.toks + 1 }) X I hp ht fun bb => ?_)
  refine byc fun hnn => ?_
  obtain ⟨cd, hc, hd'⟩ := any_some hh
  refine hnn ?_; clear hnn
  refine byc fun hnn => ?_
  obtain ⟨hx', hcl, hn, -⟩ := I
  refine hnn ?_; clear hnn
  refine wpAny_bind (wpAny_pure (wpAny_bind (wpAny_bind (wpAny_loadPart hx' (wpAny_bind (Looks.here (s := { s with toks := s.toks + 1 }) (looks_clsIn X hc) ?_))))))
  rw [hd']
  refine wpAny_pure (a := some dx) (wpAny_bind (wpAny_pure (wpAny_bind ?_)))
  unfold nsSet
  refine wpAny_bind (wpAny_bind (wpAny_askSetting (wpAny_pure (wpAny_bind (wpAny_mkText (wpAny_bind (wpAny_loadPart e2 ?_)))))))
  have nr : es.any (·.refKey) = false := q.noref
  have cc : (!es.toArray.any (·.key.isStr name) && es.toArray.any (·.refKey)) = false := by
    rw [← Array.any_toList, ← Array.any_toList, nr, Bool.and_false]
  dsimp only
  rw [aRefKeyMayBeTheName_at, cc]
  have q' := q.put (name := name) (t := s.toks + 1) vv
  have D' : (s.heap.update dx (Obj.putName name (PyData.keyHash G.w.params name) (.str name (s.toks + 1)) cv)).get? dx = some (dictOf (putL name (PyData.keyHash G.w.params name) (.str name (s.toks + 1)) cv es) (putN name es n)) := by
    rw [Heap.get?_update_self _ e2 (by rw [putName_dict]; rfl), putName_dict]
  refine wpAny_updatePart e2 ?_
  refine wpAny_bind (wpAny_lookBehind D' (pastItsLine_dict (by rw [List.size_toArray, ← q'.length, sizeLine_eq]; have := fput_len name v fm; lia)) ?_)
  refine wpAny_pure ?_
  exact ⟨_, After.field (t := s.toks + 1 + 1) b hx q' D' (Heap.SameBut.update ..), h⟩

/-- an object is made -/
theorem After.made {s : Shared} {c : Addr} {t : Nat} (b : Rel G fs H s) : After G fs H s (upd (upd H s.heap.objs.size (.aux (s.heap.objs.size + 1))) (s.heap.objs.size + 1) (.inst c s.heap.objs.size []))
    { s with heap := (s.heap.push emptyDict).push (instObj c s.heap.objs.size), toks := t } ∧ H s.heap.objs.size = none ∧ H (s.heap.objs.size + 1) = none := by
  generalize hd : s.heap.objs.size = d
  have e1 : (s.heap.push emptyDict).get? d = some emptyDict := hd ▸ Heap.get?_push_size _ rfl
  have sz : (s.heap.push emptyDict).objs.size = d + 1 := by rw [Heap.size_push, hd]
  have e2 : ((s.heap.push emptyDict).push (instObj c d)).get? (d + 1) = some (instObj c d) := sz ▸ Heap.get?_push_size _ rfl
  have e3 : ((s.heap.push emptyDict).push (instObj c d)).get? d = some emptyDict := Heap.get?_push_of_some _ e1
  have hk : ∀ b o, s.heap.get? b = some o → ((s.heap.push emptyDict).push (instObj c d)).get? b = some o := fun b o e => Heap.get?_push_of_some _ (Heap.get?_push_of_some _ e)
  have n1 : s.heap.get? d = none := hd ▸ size_none
  have n2 : s.heap.get? (d + 1) = none := by
    cases z : s.heap.get? (d + 1) with
    | none => rfl
    | some o =>
      have : (d + 1 : Nat) < s.heap.objs.size := Heap.lt_size z
      lia
  have h1 : H d = none := off_of (H' := fun b => if s.heap.get? b = none then none else H b) (fun a o e => by
    obtain ⟨ob, z⟩ := b.has e
    simp [z, e]) (by simp [n1])
  have h2 : H (d + 1) = none := off_of (H' := fun b => if s.heap.get? b = none then none else H b) (fun a o e => by
    obtain ⟨ob, z⟩ := b.has e
    simp [z, e]) (by simp [n2])
  have k : Keep H s.heap (upd (upd H d (.aux (d + 1))) (d + 1) (.inst c d [])) ((s.heap.push emptyDict).push (instObj c d)) := fun b ob e => ⟨⟨ob, hk b ob e⟩, fun n =>
    ⟨by rw [upd_ne (fun q => by rw [q, n2] at e; cases e), upd_ne (fun q => by rw [q, n1] at e; cases e)]; exact n, fun u' => ⟨ob.slots, hk b ob e⟩⟩⟩
  have ext : ∀ b o, H b = some o → upd (upd H d (.aux (d + 1))) (d + 1) (.inst c d []) b = some o := fun b o e => by
    rw [upd_ne (fun q => by rw [q, h2] at e; cases e), upd_ne (fun q => by rw [q, h1] at e; cases e)]; exact e
  refine ⟨⟨b.step k (fun a o e => ?_) fun b' o e => hk _ _ (b.base b' o e), k⟩, h1, h2⟩
  by_cases q : a = d + 1
  · subst q; rw [upd_eq] at e; cases e
    exact ⟨e2, by rw [upd_ne (Nat.ne_of_lt (Nat.lt_succ_self d)), upd_eq], [], 0, e3, .nil⟩
  · rw [upd_ne q] at e
    by_cases q' : a = d
    · subst q'; rw [upd_eq] at e; cases e
      exact ⟨c, [], upd_eq⟩
    · rw [upd_ne q'] at e
      exact RO.mono k ext (fun b ob u' e => hk b ob e) e (b.objs a o e)

abbrev KMade (Q : V → AH → Prop) (x : Addr) : V → AH → Prop := fun v H' => v = .none ∧ Q (.ref x) H'
theorem Cl_make {c fI : Addr} {args : List V} (hm : makesIn G.K c = true) (hi : findIn G.K (.ref c) "__init__" = some (some (.ref fI))) (hf : isFn G.K (.ref fI) = true)
    (h : ∀ x dx, H x = none → H dx = none → x ≠ dx → CC G fs r (.ref fI) (.ref x :: args) (upd (upd H dx (.aux x)) x (.inst c dx [])) (KMade Q x) E) : Cl G fs (r + 5) (.ref c) args H Q E := fun A s vf cs a b vr vs => by
  (first | (have hqv := vr.inv; clear vr; obtain ⟨_, rfl⟩ := hqv) | (have hqv := vr.inv; clear vr; obtain rfl := hqv) | cases vr)
  obtain ⟨am, n1, n2⟩ := After.made (c := c) (t := s.toks) b
  obtain ⟨hh, g, d, t, os⟩ := s
  have a' : AOK fs r (A.under (.builtin "type.__call__" ⟨.ref c :: cs, []⟩)) := by
    have w : (Code.builtin "type.__call__" ⟨.ref c :: cs, []⟩).weight = 1 := rfl
    have u : (Code.builtin "type.__call__" ⟨.ref c :: cs, []⟩).cUnits = 1 := rfl
    refine ⟨a.frames, a.handled, ?_, ?_⟩
    · have := a.depth
      unfold Around.under
      rw [w]
      show A.depth + 1 + r ≤ 999
      lia
    · have := a.units
      unfold Around.under
      rw [u]
      show A.units + 1 + 10 * r ≤ 9890
      lia
  refine wpAny_call (make_core (makes_of b.keepK hm) (looks_findIn b.keepK hi) (fun self => bind_fn b.keepK self (beq_iff_eq.mp hf)) (.inl rfl) ?_)
  have body := h (hh.objs.size + 1) hh.objs.size n2 n1 (Nat.ne_of_gt (Nat.lt_succ_self _)) (A.under (.builtin "type.__call__" ⟨.ref c :: cs, []⟩)) _ (.ref fI) (.ref (hh.objs.size + 1) :: cs) a' am.1 (.ref _) (.cons (.ref _) (vs.mono am.2))
  refine codeAny_mono body ?_
  intro res s' z
  rcases res with e | (_ | _ | _ | v)
  · obtain ⟨H', y, z, u⟩ := z
    exact ⟨H', am.trans y, z.older fun u' => am.2.back, u⟩
  · exact z.elim
  · exact z.elim
  · exact z.elim
  · obtain ⟨x, H', y, rv, rfl, q⟩ := z
    cases rv
    exact ⟨rfl, .ref (hh.objs.size + 1), H', am.trans y, .ref _, q⟩
end
end SL8
section SL9
open PySem PySem.W PyProof.Rows
set_option tactic.hygienic false

/-! what is walked by a for -/
inductive Src where
  | list (l : Addr) (vs : List V)
  | range (n : Nat)
  | str (l : List Nat)
  | keys (d : Addr) (kvs : List (List Nat × V)) (ep : Nat)
def Src.ok (H : AH) : Src → Prop
  | .list l vs => H l = some (.list vs)
  | .keys d kvs ep => H d = some (.dict kvs ep)
  | _ => True
def Src.items : Src → List V
  | .list _ vs => vs
  | .range n => (List.range n).map fun (k : Nat) => V.int (k : Int)
  | .str l => l.map fun c => .str [c]
  | .keys _ kvs _ => kvs.map fun p => .str p.1
def Src.at (h : Heap) (it : Addr) (i : Nat) : Src → Prop
  | .list l _ => h.IsListIter it l i
  | .range n => ∃ o, h.get? it = some o ∧ o.cls = .type "range_iterator" ∧ o.data = .fields #[rawInt (i : Int), rawInt ((n : Int) - i), rawInt 1]
  | .str l => ∃ t, h.IsStrIter it "str_ascii_iterator" ⟨l.toArray⟩ t i ∨ h.IsStrIter it "str_iterator" ⟨l.toArray⟩ t i
  | .keys d kvs ep => h.IsKeyIter it d i kvs.length ep
def SrcV (h : Heap) : Src → Value → Prop
  | .list l _, v => v = .ref l
  | .range n, v => n < 2 ^ 60 ∧ ∃ a t u w, v = .ref a ∧ IsRange h a 0 n 1 t u w
  | .str l, v => ∃ t, v = .str ⟨l.toArray⟩ t
  | .keys d _ _, v => v = .ref d ∧ (d == sysModules) = false

theorem Src.at.fields {h : Heap} {it : Addr} {i : Nat} {src : Src} (x : src.at h it i) : ∃ o vs, h.get? it = some o ∧ o.data = .fields vs := by
  cases src with
  | str l => obtain ⟨t, ⟨o, e, c, d⟩ | ⟨o, e, c, d⟩⟩ := x <;> exact ⟨o, _, e, d⟩
  | _ => obtain ⟨o, e, c, d⟩ := x; exact ⟨o, _, e, d⟩
theorem Src.at.keep {X : Addr → Prop} {H H' : AH} {h h' : Heap} {it : Addr} {i : Nat} (k : KeepX X H h H' h') (n : H it = none) (x : ¬ X it) : ∀ {src : Src}, src.at h it i → src.at h' it i := by
  have go : ∀ {o}, h.get? it = some o → ∃ sl, h'.get? it = some { o with slots := sl } := fun {o} e => ((k it o e).2 n).2 fun q => (x q).elim
  intro src a
  cases src with
  | list l vs => obtain ⟨o, e, c, d⟩ := a; obtain ⟨sl, e'⟩ := go e; exact ⟨_, e', c, d⟩
  | range l => obtain ⟨o, e, c, d⟩ := a; obtain ⟨sl, e'⟩ := go e; exact ⟨_, e', c, d⟩
  | str l =>
    obtain ⟨t, ⟨o, e, c, d⟩ | ⟨o, e, c, d⟩⟩ := a
    · obtain ⟨sl, e'⟩ := go e; exact ⟨t, .inl ⟨_, e', c, d⟩⟩
    · obtain ⟨sl, e'⟩ := go e; exact ⟨t, .inr ⟨_, e', c, d⟩⟩
  | keys d kvs ep => obtain ⟨o, e, c, d⟩ := a; obtain ⟨sl, e'⟩ := go e; exact ⟨_, e', c, d⟩
theorem TupS.of {H : AH} {h h' : Heap} {a₀ : Addr} {o₀ : Obj} (e₀ : h.get? a₀ = some o₀) (hd : ∀ it n, o₀.data ≠ .seq it n) (hs : Heap.ExtBut a₀ h h') : TupS H h H h' := fun a items ⟨o, e, hc, m, d⟩ n =>
  ⟨⟨o, hs a o (fun z => by rw [z, e₀] at e; cases e; exact hd _ _ d) e, hc, m, d⟩, n⟩

theorem frames_of {h h' base : Heap} {l : List Env} (ff : h.FunFrames base l) (k : ∀ env ∈ l, ∀ L o, env.frame = some L → h.get? L = some o → h'.get? L = some o) : h'.FunFrames base l := by
  induction l with
  | nil => trivial
  | cons env rest ih =>
    refine byc fun hnn => ?_
    obtain ⟨hk, ⟨L, o, hf, hn, ho, hd⟩, hr⟩ := ff
    refine hnn ?_; clear hnn
    exact ⟨hk, ⟨L, o, hf, hn, k env (.head _) L o hf ho, hd⟩, ih hr fun e he => k e (.tail _ he)⟩

/-- what was not there at s turns -/
theorem turn_beside {G : Ctx} {fs : List Env} {X : Addr → Prop} {s s₁ : Shared} {H H₁ : AH} {a₀ : Addr} {o₀ : Obj} {h' : Heap} {t : Nat}
    (r₀ : Rel G fs H s) (r : Rel G fs H₁ s₁) (k : KeepX X H s.heap H₁ s₁.heap) (fresh : s.heap.get? a₀ = none) (hH : H₁ a₀ = none) (e₀ : s₁.heap.get? a₀ = some o₀) (hd : ∀ it n, o₀.data ≠ .seq it n) (hs : Heap.ExtBut a₀ s₁.heap h') :
    Rel G fs H₁ { s₁ with heap := h', toks := t } ∧ KeepX X H s.heap H₁ h' := by
  have T : TupS H₁ s₁.heap H₁ h' := TupS.of e₀ hd hs
  refine ⟨⟨fun b o e => ?_, r.off, fun a o e => RO.monoT T (fun u' u' e => e) (fun b ob n e => ?_) e (r.objs a o e), frames_of r.frames fun env he L o hf e => ?_, r.foff, r.gens, r.os⟩, fun b o e => ?_⟩
  · exact hs b o (fun z => by have := r₀.base b o e; rw [z, fresh] at this; cases this) (r.base b o e)
  · exact hs b ob (fun z => n (z ▸ hH)) e
  · refine hs L o (fun z => ?_) e
    have hm : L ∈ fs.filterMap (·.frame) := List.mem_filterMap.mpr ⟨env, he, hf⟩
    refine byc fun hnn => ?_
    obtain ⟨_, o', ho, _⟩ := r₀.frames.mem hm
    refine hnn ?_; clear hnn
    rw [z, fresh] at ho; cases ho
  · have ne : b ≠ a₀ := fun z => by rw [z, fresh] at e; cases e
    refine byc fun hnn => ?_
    obtain ⟨⟨o', e'⟩, f⟩ := k b o e
    refine hnn ?_; clear hnn
    refine ⟨⟨o', hs b o' ne e'⟩, fun n => ⟨(f n).1, fun q => ?_⟩⟩
    obtain ⟨sl, e''⟩ := (f n).2 q
    exact ⟨sl, hs b _ ne e''⟩
theorem LocsR.beside {base : Heap} {env : Env} {m : Loc} {h h' : Heap} {H : AH} {a₀ : Addr} {o₀ : Obj} (c : LocsR base env m h H) (e₀ : h.get? a₀ = some o₀) (hd : ∃ vs, o₀.data = .fields vs) (hs : Heap.ExtBut a₀ h h') : LocsR base env m h' H := by
  obtain ⟨vs, hd⟩ := hd
  have T : TupS H h H h' := TupS.of e₀ (fun u' u' z => by rw [hd] at z; cases z) hs
  refine byc fun hnn => ?_
  obtain ⟨⟨mc, hn, hl⟩, hc, ho, hco, f1, f2⟩ := c
  refine hnn ?_; clear hnn
  have cne : ∀ p ∈ env.cells, p.2 ≠ a₀ := fun p hp z => by
    refine byc fun hnn => ?_
    obtain ⟨_, o, v, e, d⟩ := hco p hp
    refine hnn ?_; clear hnn
    rw [z, e₀] at e; cases e; rw [hd] at d; cases d
  refine ⟨⟨mc, ?_, fun x v a b => ?_⟩, fun x v a b => ?_, ho, fun p hp => ?_, f1, f2⟩
  · refine byc fun hnn => ?_
    obtain ⟨oL, es, ep, e1, e2, e3, e4⟩ := hn
    refine hnn ?_; clear hnn
    exact ⟨oL, es, ep, hs _ _ (fun z => by rw [z, e₀] at e1; cases e1; rw [hd] at e2; cases e2) e1, e2, e3, e4⟩
  · obtain ⟨c, q, r⟩ := hl x v a b; exact ⟨c, q, r.monoT T⟩
  · refine byc fun hnn => ?_
    obtain ⟨c, o, cv, q1, q2, q3, q4⟩ := hc x v a b
    refine hnn ?_; clear hnn
    exact ⟨c, o, cv, q1, hs _ _ (cne (x, c) (mem_of_lookup q1)) q2, q3, q4.monoT T⟩
  · refine byc fun hnn => ?_
    obtain ⟨a, o, v, b, d⟩ := hco p hp
    refine hnn ?_; clear hnn
    exact ⟨a, o, v, hs _ _ (cne p hp) b, d⟩

section
variable {G : Ctx} {fs : List Env} {r : Nat} {env : Env} {m : Loc} {H : AH} {E : AH → Prop} {A : Around} {s : Shared} {it : Addr} {i : Nat} {src : Src}

theorem pairs_of {P : Params} {h : Heap} {H : AH} {prog : Program} {w : World} {kvs : List (List Nat × V)} {es : List DictEntry} (x : RDs w.params h H kvs es) : ∃ L : List (Str × Value),
    (∀ e ∈ es, ∃ k, (strKind prog w).is k e.key = true ∧ e.hash = (strKind prog w).hash k) ∧ Pairs (strKind prog w) es L ∧ L.map (·.1) = kvs.map (fun p => (⟨p.1.toArray⟩ : Str)) ∧ RVs h H (kvs.map (·.2)) (L.map (·.2)) := by
  induction x with
  | nil => exact ⟨[], fun u' he => (nomatch he), .nil, rfl, .nil⟩
  | @cons k v t c l es a r ih =>
    refine byc fun hnn => ?_
    obtain ⟨L, h1, h2, h3, h4⟩ := ih
    refine hnn ?_; clear hnn
    have ik : (strKind prog w).is ⟨k.toArray⟩ (.str ⟨k.toArray⟩ t) = true := beq_self_eq_true (⟨k.toArray⟩ : Str)
    refine ⟨(⟨k.toArray⟩, c) :: L, fun e he => ?_, .cons ik rfl h2, congrArg (_ :: ·) h3, .cons a h4⟩
    cases he with
    | head => exact ⟨_, ik, rfl⟩
    | tail _ he => exact h1 e he
theorem dict_at {d : Addr} {kvs : List (List Nat × V)} {ep : Nat} (b : Rel G fs H s) (ok : H d = some (.dict kvs ep)) : ∃ L : List (Str × Value), s.heap.DictAt (strKind G.prog G.w) d L ep ∧ L.map (·.1) = kvs.map (fun p => (⟨p.1.toArray⟩ : Str)) ∧ RVs s.heap H (kvs.map (·.2)) (L.map (·.2)) := by
  refine byc fun hnn => ?_
  obtain ⟨es, e, rd, nd⟩ := b.objs d _ ok
  refine hnn ?_; clear hnn
  refine byc fun hnn => ?_
  obtain ⟨L, h1, h2, h3, h4⟩ := pairs_of (P := G.w.params) (prog := G.prog) rd
  refine hnn ?_; clear hnn
  refine ⟨L, ⟨_, _, e, ⟨rfl, rfl, rfl⟩, rfl, fun en he => h1 en (by simpa using he), h2, ?_⟩, h3, h4⟩
  rw [h3]
  have : kvs.map (fun p => (⟨p.1.toArray⟩ : Str)) = (kvs.map (·.1)).map fun l => (⟨l.toArray⟩ : Str) := by simp
  rw [this]
  refine List.Pairwise.map _ (fun x y hxy hz => hxy ?_) nd
  have := congrArg (fun s : Str => s.cps.toList) hz
  simpa using this

theorem src_next {Q : Option Value → Shared → Prop} {E' : Value → Shared → Prop} (b : Rel G fs H s) (ok : src.ok H) (ha : src.at s.heap it i) (hi : H it = none) (hh : A.handled = none) 
    (hit : ∀ x h' t c, src.items[i]? = some x → RV h' H x c → src.at h' it (i + 1) → Heap.SameBut it s.heap h' → Q (some c) { s with heap := h', toks := t })
    (hend : src.items.length ≤ i → ∀ h' t, Heap.ExtBut it s.heap h' → Q none { s with heap := h', toks := t }) : wpAny (model G.prog G.w) A (pyNext (.ref it)) Q E' s := by
  refine byc fun hnn => ?_
  obtain ⟨o₀, vs₀, e₀, d₀⟩ := ha.fields
  refine hnn ?_; clear hnn
  have TS : ∀ {h'}, Heap.SameBut it s.heap h' → TupS H s.heap H h' := fun hs => TupS.of e₀ (fun u' u' z => by rw [d₀] at z; cases z) hs.extBut
  cases src with
  | list l vs =>
    refine byc fun hnn => ?_
    obtain ⟨items, n, e, rs, L⟩ := list_of b ok
    refine hnn ?_; clear hnn
    rcases Nat.lt_or_ge i vs.length with hlt | hge
    · have g : vs[i]? = some vs[i] := List.getElem?_eq_getElem hlt
      refine byc fun hnn => ?_
      obtain ⟨y, hy, rv⟩ := rs.get g
      refine hnn ?_; clear hnn
      refine wpAny_pyNext_list_item ha L (x := y) (by simpa using hy) fun h' a' hs => ?_
      exact hit vs[i] h' s.toks y g (rv.monoT (TS hs)) a' hs
    · have : items.toList.length ≤ i := by rw [← rs.length]; exact hge
      exact wpAny_pyNext_list_end hh ha L (Array.getElem?_eq_none (by simpa using this)) fun h' hs => hend hge h' s.toks hs
  | range n =>
    refine byc fun hnn => ?_
    obtain ⟨o, e, hc, hd⟩ := ha
    refine hnn ?_; clear hnn
    have hT : s.TypeIs (.ref it) "range_iterator" := ⟨o, e, hc⟩
    unfold pyNext
    refine wpAny_bind (wpAny_attempt (wpAny_callSpecial?_slot (name := Str.ofString "__next__") hT F.slot_range_iterator_next
      (wpAny_call_entry F.slot_range_iterator_next hT F.entry_range_iterator_next ?_ (F.args_range_iterator_next_1 _))))
    show wpAny _ _ (field (.ref it) 0 >>= _) _ _ s
    refine wpAny_bind (wpAny_field e hd (x := rawInt (i : Int)) rfl ?_)
    show wpAny _ _ (field (.ref it) 1 >>= _) _ _ s
    refine wpAny_bind (wpAny_field e hd (x := rawInt ((n : Int) - i)) rfl ?_)
    show wpAny _ _ (field (.ref it) 2 >>= _) _ _ s
    refine wpAny_bind (wpAny_field e hd (x := rawInt 1) rfl ?_)
    show wpAny _ _ (if (n : Int) - i ≤ 0 then _ else _) _ _ s
    rcases Nat.lt_or_ge i n with hlt | hge
    · rw [if_neg (by lia)]
      have d1 : (Obj.mapFields (fun x => x.setIfInBounds 0 (rawInt ((i : Int) + 1))) o).data = .fields #[rawInt ((i : Int) + 1), rawInt ((n : Int) - i), rawInt 1] := by rw [Obj.data_mapFields hd]; rfl
      refine wpAny_bind (wpAny_setField e hd (by simp) ?_)
      refine wpAny_bind (wpAny_setField (Heap.get?_update_self _ e (Obj.isFreed_of_fields d1)) d1 (by simp) ?_)
      have d2 := Obj.data_mapFields d1 (fun x => x.setIfInBounds 1 (rawInt ((n : Int) - i - 1)))
      have g2 := Heap.get?_update_self (Obj.mapFields (fun x => x.setIfInBounds 1 (rawInt ((n : Int) - i - 1)))) (Heap.get?_update_self _ e (Obj.isFreed_of_fields d1)) (Obj.isFreed_of_fields d2)
      refine wpAny_bind (wpAny_mkInt (wpAny_pure ⟨_, rfl, wpAny_pure (hit (.int (i : Int)) _ _ _ (by simp [Src.items, hlt]) (.int _ _) ?_ ((Heap.SameBut.update ..).trans (Heap.SameBut.update ..)))⟩))
      refine ⟨_, g2, by rw [Obj.cls_mapFields, Obj.cls_mapFields]; exact hc, ?_⟩
      rw [d2]
      have e1 : ((i + 1 : Nat) : Int) = (i : Int) + 1 := by lia
      have e2 : (n : Int) - ((i : Int) + 1) = (n : Int) - i - 1 := by lia
      rw [e1, e2]; rfl
    · rw [if_pos (by lia)]
      refine wpAny_bind (wpAny_rule ?_)
      refine wpAny_bind ?_
      show wpAny _ _ (newExc (.type "StopIteration") [] >>= _) _ _ _
      refine wpAny_bind ?_
      simp only [newExc, newTuple]
      refine wpAny_bind (wpAny_newObj_type ?_ (by size_fits))
      refine wpAny_bind (m := firstArgMember _ _) (wpAny_of_eq (a := Value.none) (by first | rfl | (simp only [firstArgMember]; rfl)) ?_)
      refine wpAny_newObj_type ?_ (by size_fits)
      simp only [raiseNew]
      refine wpAny_bind (wpAny_handled ?_)
      first | rw [show A.in1.handled = none from hh] | rw [hh]
      refine wpAny_bind (wpAny_pure (wpAny_throw ?_))
      refine wpAny_bind (wpAny_isInstance (T := "StopIteration") (b := true) ⟨_, Heap.get?_push_size _ rfl, rfl⟩ isSubtype_stop ?_)
      exact wpAny_pure (hend (by show List.length _ ≤ i; simpa [Src.items] using hge) _ s.toks (((Heap.ExtBut.refl it s.heap).push _).push _))
  | str l =>
    obtain ⟨t, ha | ha⟩ := ha
    · rcases Nat.lt_or_ge i l.length with hlt | hge
      · refine wpAny_pyNext_ascii_item ha (c := l[i]) (by simp [hlt]) fun h' a' hs => ?_
        exact hit (.str [l[i]]) h' _ _ (by simp [Src.items, hlt]) (.str [l[i]] _) ⟨t, .inl a'⟩ hs
      · exact wpAny_pyNext_ascii_end hh ha (by simpa using hge) fun h' hs => hend (by simpa [Src.items] using hge) h' s.toks hs
    · rcases Nat.lt_or_ge i l.length with hlt | hge
      · refine wpAny_pyNext_wide_item ha (c := l[i]) (by simp [hlt]) fun h' a' hs => ?_
        exact hit (.str [l[i]]) h' _ _ (by simp [Src.items, hlt]) (.str [l[i]] _) ⟨t, .inr a'⟩ hs
      · exact wpAny_pyNext_wide_end hh ha (by simpa using hge) fun h' hs => hend (by simpa [Src.items] using hge) h' s.toks hs
  | keys d kvs ep =>
    refine byc fun hnn => ?_
    obtain ⟨L, da, k1, k2⟩ := dict_at b ok
    refine hnn ?_; clear hnn
    have len : L.length = kvs.length := by have := congrArg List.length k1; simpa using this
    have ha : s.heap.IsKeyIter it d i kvs.length ep := ha
    rw [← len] at ha
    rcases Nat.lt_or_ge i kvs.length with hlt | hge
    · have g : L[i]? = some L[i] := List.getElem?_eq_getElem (by lia)
      refine wpAny_pyNext_dict_item (k := L[i].1) (v := L[i].2) ha da g fun key h' hk a' hs => ?_
      have ek : L[i].1 = ⟨kvs[i].1.toArray⟩ := by
        have z := congrArg (fun l => l[i]?) k1
        simp only [List.getElem?_map, g, List.getElem?_eq_getElem hlt, Option.map_some] at z
        exact Option.some.inj z
      rw [ek] at hk
      obtain ⟨t, rfl⟩ := Value.isStrOf_shape hk
      rw [len] at a'
      exact hit (.str kvs[i].1) h' s.toks _ (by simp [Src.items, hlt]) (.str kvs[i].1 t) a' hs
    · exact wpAny_pyNext_dict_end hh ha da (List.getElem?_eq_none (by lia)) fun h' hs => hend (by simpa [Src.items] using hge) h' s.toks hs

theorem src_iter {v : Value} {Q : Value → Shared → Prop} {E' : Value → Shared → Prop} (b : Rel G fs H s) (ok : src.ok H) (sv : SrcV s.heap src v)
    (hQ : ∀ o, src.at (s.heap.push o) s.heap.objs.size 0 → Q (.ref s.heap.objs.size) { s with heap := s.heap.push o }) : wpAny (model G.prog G.w) A (pyIter v) Q E' s := by
  cases src with
  | list l vs =>
    obtain rfl := sv
    refine byc fun hnn => ?_
    obtain ⟨items, n, e, rs, L⟩ := list_of b ok
    refine hnn ?_; clear hnn
    exact wpAny_pyIter_list L (hQ _ ⟨_, Heap.get?_push_size _ rfl, rfl, rfl⟩)
  | range n =>
    obtain ⟨hn, a, t, u, w, rfl, hr⟩ := sv
    have sm : Builtin.Range.small 0 n 1 = true := small_one (by lia) (by lia) (by lia) (by lia)
    refine wpAny_pyIter_range hr sm (hQ _ ⟨_, Heap.get?_push_size _ rfl, rfl, ?_⟩)
    have : Builtin.Range.rangeSize 0 (n : Int) 1 = (n : Int) - ((0 : Nat) : Int) := by rw [rangeSize_one]; split <;> lia
    rw [this]; rfl
  | str l =>
    obtain ⟨t, rfl⟩ := sv
    cases ha : l.toArray.all (· < 128)
    · exact wpAny_pyIter_wide ha (hQ _ ⟨t, .inr ⟨_, Heap.get?_push_size _ rfl, rfl, rfl⟩⟩)
    · exact wpAny_pyIter_ascii ha (hQ _ ⟨t, .inl ⟨_, Heap.get?_push_size _ rfl, rfl, rfl⟩⟩)
  | keys d kvs ep =>
    obtain ⟨rfl, hd⟩ := sv
    refine byc fun hnn => ?_
    obtain ⟨L, da, k1, k2⟩ := dict_at b ok
    refine hnn ?_; clear hnn
    have len : L.length = kvs.length := by have := congrArg List.length k1; simpa using this
    exact wpAny_pyIter_dict hd da (hQ _ ⟨_, Heap.get?_push_size _ rfl, rfl, by rw [len]; rfl⟩)

theorem src_self {Q : Value → Shared → Prop} {E' : Value → Shared → Prop} (ha : src.at s.heap it i) (h : Q (.ref it) s) : wpAny (model G.prog G.w) A (pyIter (.ref it)) Q E' s := by
  cases src with
  | list l vs => exact wpAny_pyIter_listiter ha h
  | range n =>
    obtain ⟨o, e, hc, hd⟩ := ha
    have hT : s.TypeIs (.ref it) "range_iterator" := ⟨o, e, hc⟩
    refine wpAny_pyIter_slot hT F.slot_range_iterator_iter (wpAny_call_entry F.slot_range_iterator_iter hT F.entry_range_iterator_iter ?_ (F.args_range_iterator_iter_1 _))
    show wpAny _ _ (ret (.ref it)) _ _ s
    exact wpAny_pure ⟨_, rfl, "range_iterator", _, hT, F.slot_range_iterator_next.lookup, h⟩
  | str l =>
    obtain ⟨t, ha | ha⟩ := ha
    · exact wpAny_pyIter_striter_ascii ha h
    · exact wpAny_pyIter_striter_wide ha h
  | keys d kvs ep => exact wpAny_pyIter_keyiter ha h

/-- an expression that a for walks -/
inductive QI (G : Ctx) (fs : List Env) (H : AH) (s : Shared) (Q : Src → AH → Prop) (v : Value) (s' : Shared) : Prop
  | mk (src : Src) (H' : AH) (x : After G fs H s H' s') (y : src.ok H') (w : SrcV s'.heap src v) (z : Q src H') : QI G fs H s Q v s'
def Itb (G : Ctx) (fs : List Env) (r : Nat) (env : Env) (m : Loc) (t : Sem Value) (H : AH) (Q : Src → AH → Prop) (E : AH → Prop) : Prop := ∀ A s, AOK fs r A → Rel G fs H s → LocsR G.s₀.heap env m s.heap H → wpAny (model G.prog G.w) A t (QI G fs H s Q)
    (QE G fs H s E) s
abbrev KItL (Q : Src → AH → Prop) : V → AH → Prop := fun v H' => ∃ l vs, v = .ref l ∧ H' l = some (.list vs) ∧ Q (.list l vs) H'
abbrev KItS (Q : Src → AH → Prop) : V → AH → Prop := fun v H' => ∃ l, v = .str l ∧ Q (.str l) H'
abbrev KItK (Q : Src → AH → Prop) : V → AH → Prop := fun v H' => ∃ d kvs ep, v = .ref d ∧ H' d = some (.dict kvs ep) ∧ (d == sysModules) = false ∧ Q (.keys d kvs ep) H'
abbrev KItR (Q : Src → AH → Prop) : V → AH → Prop := fun v H' => ∃ n : Nat, v = .int n ∧ n < 2 ^ 60 ∧ Q (.range n) H'
theorem Itb_list {t : Sem Value} {Q : Src → AH → Prop} (h : Ev G fs r env m t H (KItL Q) E) : Itb G fs r env m t H Q E := fun A s a b c => by
  refine wpAny_mono (h A s a b c) ?_ fun u' u' z => z
  first | (refine qv fun v s₁ x H₁ a₁ v₁ hqq => ?_; obtain ⟨l, vs, rfl, hl, q⟩ := hqq) | (refine ql fun v s₁ x H₁ a₁ v₁ hqq => ?_; obtain ⟨l, vs, rfl, hl, q⟩ := hqq) | rintro v s₁ ⟨x, H₁, a₁, v₁, l, vs, rfl, hl, q⟩
  (first | (have hqv := v₁.inv; clear v₁; obtain ⟨_, rfl⟩ := hqv) | (have hqv := v₁.inv; clear v₁; obtain rfl := hqv) | cases v₁)
  exact ⟨.list l vs, H₁, a₁, hl, rfl, q⟩
theorem Itb_str {t : Sem Value} {Q : Src → AH → Prop} (h : Ev G fs r env m t H (KItS Q) E) : Itb G fs r env m t H Q E := fun A s a b c => by
  refine wpAny_mono (h A s a b c) ?_ fun u' u' z => z
  first | (refine qv fun v s₁ x H₁ a₁ v₁ hqq => ?_; obtain ⟨l, rfl, q⟩ := hqq) | (refine ql fun v s₁ x H₁ a₁ v₁ hqq => ?_; obtain ⟨l, rfl, q⟩ := hqq) | rintro v s₁ ⟨x, H₁, a₁, v₁, l, rfl, q⟩
  (first | (have hqv := v₁.inv; clear v₁; obtain ⟨_, rfl⟩ := hqv) | (have hqv := v₁.inv; clear v₁; obtain rfl := hqv) | cases v₁)
  exact ⟨.str l, H₁, a₁, trivial, ⟨_, rfl⟩, q⟩
theorem Itb_keys {t : Sem Value} {Q : Src → AH → Prop} (h : Ev G fs r env m t H (KItK Q) E) : Itb G fs r env m t H Q E := fun A s a b c => by
  refine wpAny_mono (h A s a b c) ?_ fun u' u' z => z
  first | (refine qv fun v s₁ x H₁ a₁ v₁ hqq => ?_; obtain ⟨l, vs, ep, rfl, hl, hs, q⟩ := hqq) | (refine ql fun v s₁ x H₁ a₁ v₁ hqq => ?_; obtain ⟨l, vs, ep, rfl, hl, hs, q⟩ := hqq) | rintro v s₁ ⟨x, H₁, a₁, v₁, l, vs, ep, rfl, hl, hs, q⟩
  (first | (have hqv := v₁.inv; clear v₁; obtain ⟨_, rfl⟩ := hqv) | (have hqv := v₁.inv; clear v₁; obtain rfl := hqv) | cases v₁)
  exact ⟨.keys l vs ep, H₁, a₁, hl, ⟨rfl, hs⟩, q⟩
theorem Itb_range {e : Expr} {p pos : Pos} {Q : Src → AH → Prop} (hn : nsIn G.K mainGlobals "range" = some none) (h : Ev G fs r env m (eval e env) H (KItR Q) E)
    (he : starEach [e] env = (false, eval e env) :: starEach [] env := by rfl) (hk : env.scope.kind = .function := by rfl)
    (hl : env.kindOf "range" = some .globalImplicit := by rfl) (hg : env.globals = mainGlobals := by rfl) (hb : env.builtins = builtinsNs := by rfl) :
    Itb G fs r env m (eval (.Call (.Name "range" p) [e] [] pos) env) H Q E := fun A s a b c => by
  have fn := Ev_builtin (r := r) (m := m) (Q := fun v H' => v = .ty "range" ∧ H' = H) (E := E) (pos := p) hn (v := .ty "range") (c := .type "range") rfl (by decide) (.ty _) ⟨rfl, rfl⟩ hk hl hg hb (by decide) A s a b c
  refine Call_Name rfl (wpAny_mono fn ?_ fun u' u' z => z)
  first | (refine qv fun vf s₁ f H₁ a₁ v₁ hqq => ?_; obtain ⟨rfl, rfl⟩ := hqq) | (refine ql fun vf s₁ f H₁ a₁ v₁ hqq => ?_; obtain ⟨rfl, rfl⟩ := hqq) | rintro vf s₁ ⟨f, H₁, a₁, v₁, rfl, rfl⟩
  (first | (have hqv := v₁.inv; clear v₁; obtain ⟨_, rfl⟩ := hqv) | (have hqv := v₁.inv; clear v₁; obtain rfl := hqv) | cases v₁)
  have pl : (backTo pos (starEach [e] env)).any (·.1) = false := by rw [he]; rfl
  refine callWith_of (P := G.K.In) (by rw [pl]; rfl) (KeepV.keeps (f := .ty "range") trivial (.ty (h := s₁.heap) (H := H₁) _)) ?_
  rw [he]
  refine Calls.evalArgs_plain ?_
  have body := Sp_cons (pos := pos) (rest := []) (Q := fun as H' => ∃ n : Nat, as = [.int n] ∧ n < 2 ^ 60 ∧ Q (.range n) H') (h.mono (fun v H' ⟨n, e1, e2, e3⟩ => Sp_nil (Q := fun as H' => ∃ n : Nat, (v :: as) = [.int n] ∧ n < 2 ^ 60 ∧ Q (.range n) H') ⟨n, by rw [e1], e2, e3⟩) fun u' z => z) he A s₁ a a₁.1 (c.keep a₁.2)
  rw [he] at body
  refine wpAny_mono body ?_ fun u' u' z => ex_from a₁ z
  first | (refine qv fun vs s₂ as H₂ a₂ v₂ hqq => ?_; obtain ⟨n, rfl, hn, q⟩ := hqq) | (refine ql fun vs s₂ as H₂ a₂ v₂ hqq => ?_; obtain ⟨n, rfl, hn, q⟩ := hqq) | rintro vs s₂ ⟨as, H₂, a₂, v₂, n, rfl, hn, q⟩
  obtain _ | ⟨v₂, rs⟩ := v₂
  cases rs; (first | (have hqv := v₂.inv; clear v₂; obtain ⟨_, rfl⟩ := hqv) | (have hqv := v₂.inv; clear v₂; obtain rfl := hqv) | cases v₂)
  refine ⟨a₂.1.keepK, call_range_1 ⟨.range n, H₂, (a₁.trans a₂).trans (After.push a₂.1), trivial, ⟨hn, _, _, _, _, rfl, IsRange.new ..⟩, q⟩⟩
end
end SL9
section SL10
open PySem PySem.W PyProof.Rows
set_option tactic.hygienic false

section
variable {G : Ctx} {fs : List Env} {r : Nat} {env : Env} {m : Loc} {H : AH} {E : AH → Prop} {A : Around} {s : Shared} {L : Addr}

/-- a raise out of a loop's turn is the loop's -/
theorem loop_raise {e : Value} {s₀ s₁ s' : Shared} {H₁ : AH} {A' : Around} (a : AOK (env :: fs) r A) (hf : env.frame = some L) (c₀ : ∀ b o, G.s₀.heap.get? b = some o → s₀.heap.get? b = some o)
    (a₁ : KeepX (mineX env) H s₀.heap H₁ s₁.heap) (z : QX G (env :: fs) env H₁ s₁ E e s') :
    notedBy (model G.prog G.w) A env (fun e s' => cameBackBy (model G.prog G.w) A' env (QX G (env :: fs) env H s₀ E) e s') e s' := by
  refine byc fun hnn => ?_
  obtain ⟨H', a', c', x, hE⟩ := z
  refine hnn ?_; clear hnn
  refine Exc_loop (X := mineX env) (Hs := H) (h := s₀.heap) a a'.1 hf (KeepX.trans a₁ a'.2) c' (x.older fun u' => a₁.back) c₀ fun s'' b'' k'' c'' x'' => ?_
  exact ⟨H', ⟨b'', k''⟩, c'', x'', hE⟩

abbrev LoopP (J : Loc → AH → Prop) (Q : Fl → Loc → AH → Prop) : Fl → Loc → AH → Prop := fun fl m H => match fl with
  | .next | .cont => J m H
  | .brk => Q .next m H
  | .ret v => Q (.ret v) m H
abbrev KWh (G : Ctx) (fs : List Env) (r : Nat) (env : Env) (m : Loc) (body : List Stmt) (B Q : Fl → Loc → AH → Prop) (E : AH → Prop) : Bool → AH → Prop := fun b H => if b then Ex G fs r env m (execs body env) H B E else Q .next m H
inductive QIn (G : Ctx) (fs : List Env) (env : Env) (H : AH) (s : Shared) (I : Nat → Loc → AH → Prop) (n : Nat) (s' : Shared) : Prop
  | mk (m' : Loc) (H' : AH) (x : AfterX G fs env H s H' s') (y : LocsR G.s₀.heap env m' s'.heap H') (z : I n m' H') : QIn G fs env H s I n s'
theorem Ex_While {test : Expr} {body : List Stmt} {pos : Pos} {Q : Fl → Loc → AH → Prop} (hf : env.frame = some L) (I : Nat → Loc → AH → Prop)
    (turn : ∀ n m' H' (B : Fl → Loc → AH → Prop), (∀ m H, (∃ k, k < n ∧ I k m H) → B .next m H) → (∀ m H, (∃ k, k < n ∧ I k m H) → B .cont m H) → (∀ v m H, Q (.ret v) m H → B (.ret v) m H) → (∀ m H, Q .next m H → B .brk m H) → I n m' H' →
      Ts G (env :: fs) r env m' (isTrue test env (eval test env)) H' (KWh G (env :: fs) r env m' body B Q E) E) (n : Nat) (h : I n m H) :
    Ex G (env :: fs) r env m (exec (.While test body [] pos) env) H Q E := fun A s a b c => by
  refine wpAny_While (codeAny_whileLoop (QIn G (env :: fs) env H s I) ?_ n ⟨m, H, (After.refl b).x, c, h⟩)
  first | refine qv fun n s₁ m₁ H₁ a₁ c₁ hI => ?_ | refine ql fun n s₁ m₁ H₁ a₁ c₁ hI => ?_ | rintro n s₁ ⟨m₁, H₁, a₁, c₁, hI⟩
  refine wpAny_mono (turn n m₁ H₁ (LoopP (fun m H => ∃ k, k < n ∧ I k m H) Q) (fun u' u' z => z) (fun u' u' z => z) (fun u' u' u' z => z) (fun u' u' z => z) hI A s₁ a a₁.1 c₁) ?_ fun e s' z => loop_raise a hf b.base a₁.2 (exX c₁ z)
  first | refine qb fun v s₂ H₂ a₂ q => ?_ | refine qu fun v s₂ H₂ a₂ q => ?_ | rintro v s₂ ⟨H₂, a₂, q⟩
  have c₂ := c₁.keep a₂.2
  (first | (have hqv := v.inv; clear v; obtain ⟨_, rfl⟩ := hqv) | (have hqv := v.inv; clear v; obtain rfl := hqv) | cases v)
  · exact wpAny_execs_nil ⟨.next, m₁, H₂, a₁.trans a₂.x, c₂, .next, q⟩
  · refine wpAny_mono (q A s₂ a a₂.1 c₂) ?_ fun e s' z => loop_raise a hf b.base (a₁.trans a₂.x).2 z
    refine qf fun f s₃ fl m₃ H₃ a₃ c₃ rf q₃ => ?_
    have a' := (a₁.trans a₂.x).trans a₃
    cases rf with
    | next => obtain ⟨k, hk, hI⟩ := q₃; exact ⟨k, hk, m₃, H₃, a', c₃, hI⟩
    | cont => obtain ⟨k, hk, hI⟩ := q₃; exact ⟨k, hk, m₃, H₃, a', c₃, hI⟩
    | brk => exact ⟨.next, m₃, H₃, a', c₃, .next, q₃⟩
    | ret v => exact ⟨.ret _, m₃, H₃, a', c₃, .ret v, q₃⟩

inductive QA (G : Ctx) (fs : List Env) (env : Env) (H : AH) (s : Shared) (Q : Loc → AH → Prop) (u : Unit) (s' : Shared) : Prop
  | mk (m' : Loc) (H' : AH) (x : AfterX G fs env H s H' s') (y : LocsR G.s₀.heap env m' s'.heap H') (z : Q m' H') : QA G fs env H s Q u s'
/-- a target takes a value -/
def Asg (G : Ctx) (fs : List Env) (r : Nat) (env : Env) (m : Loc) (target : Expr) (v : V) (H : AH) (Q : Loc → AH → Prop) : Prop := ∀ A s cv (E' : Value → Shared → Prop), AOK fs r A → Rel G fs H s → LocsR G.s₀.heap env m s.heap H → RV s.heap H v cv → wpAny (model G.prog G.w) A (assign target env cv) (QA G fs env H s Q) E' s
theorem Asg_Name {x : Str} {p : Pos} {v : V} {Q : Loc → AH → Prop} (h : Q (put m x v) H) (hl : env.kindOf x = some .local := by rfl)
    (hp : (env.scope.kind == .class || (env.scope.kind == .module && env.locals != env.globals)) = false := by rfl) : Asg G fs r env m (.Name x p) v H Q := fun A s cv E' a b c rv =>
  wpAny_assign_Name (store_local b c rv hl hp fun s' a' c' => ⟨_, H, a', c', h⟩)
theorem in_order (hp : (env.scope.kind == .class || (env.scope.kind == .module && env.locals != env.globals)) = false) (ns : List (Str × Pos)) : ∀ (vs : List V) (cs : List Value) (m : Loc) (s : Shared) (E' : Value → Shared → Prop), AOK fs r A → Rel G fs H s → LocsR G.s₀.heap env m s.heap H →
    RVs s.heap H vs cs → ns.length = vs.length → (∀ p ∈ ns, env.kindOf p.1 = some .local) →
    wpAny (model G.prog G.w) A (assignInOrder ((assignEach (ns.map fun p => Expr.Name p.1 p.2) env).map (·.2)) cs) (fun u' s' => AfterX G fs env H s H s' ∧ LocsR G.s₀.heap env (locs (ns.map (·.1)) vs m) s'.heap H) E' s := by
  induction ns with
  | nil => exact fun vs cs m s E' a b c x y z => PyProof.Rows.assignInOrder_nil ⟨(After.refl b).x, c⟩
  | cons p ns ih =>
    intro vs cs m s E' a b c rv hl hk
    cases rv with
    | nil => cases hl
    | cons rv rs =>
      refine PyProof.Rows.assignInOrder_cons ?_
      refine wpAny_assign_Name (store_local b c rv (hk p (.head _)) hp fun s' a' c' => ?_)
      exact wpAny_mono (ih _ _ _ s' E' a a'.1 c' (rs.mono a'.2) (Nat.succ.inj hl) fun q hq => hk q (.tail _ hq)) (fun u' s'' z => ⟨a'.trans z.1, z.2⟩) fun u' u' z => z
set_option tactic.hygienic true in
theorem Asg_Tuple {ns : List (Str × Pos)} {p : Pos} {k : Nat} {vs : List V} {elts : List Expr} {Q : Loc → AH → Prop} (h : Q (locs (ns.map (·.1)) vs m) H) (he : elts = ns.map fun p => Expr.Name p.1 p.2) (hl : ns.length = vs.length) (hk : ∀ p ∈ ns, env.kindOf p.1 = some .local)
    (hlen : (assignEach elts env).length = vs.length) (hstar : (assignEach elts env).findIdx? (·.1) = none)
    (hp : (env.scope.kind == .class || (env.scope.kind == .module && env.locals != env.globals)) = false := by rfl) : Asg G fs r env m (.Tuple elts k p) (.tup vs) H Q := fun A s cv E' a b c rv => by
  obtain _ | _ | _ | _ | ⟨t, n0, rs⟩ := rv
  rename_i ta items
  have len : items.size = vs.length := by rw [rs.length]; simp
  refine assign_Tuple_tuple a.handled t (hlen.trans len.symm) hstar fun h' hs => ?_
  subst he
  have g : After G fs H s H { s with heap := h' } := After.grow (t := s.toks) b fun b' o e => hs b' o (Nat.ne_of_lt (Heap.lt_size e)) e
  refine wpAny_mono (in_order hp ns vs _ m { s with heap := h' } E' a g.1 (c.keep g.2) (rs.mono g.2) hl hk) ?_ fun u' u' z => z
  rintro _ s'' ⟨a'', c''⟩
  exact ⟨_, H, g.x.trans a'', c'', h⟩
theorem Asg_Pair {x y : Str} {px py p : Pos} {k : Nat} {v w : V} {Q : Loc → AH → Prop} (h : Q (put (put m x v) y w) H) (hx : env.kindOf x = some .local := by rfl) (hy : env.kindOf y = some .local := by rfl)
    (hlen : (assignEach [.Name x px, .Name y py] env).length = 2 := by rfl) (hstar : (assignEach [.Name x px, .Name y py] env).findIdx? (·.1) = none := by rfl)
    (hp : (env.scope.kind == .class || (env.scope.kind == .module && env.locals != env.globals)) = false := by rfl) : Asg G fs r env m (.Tuple [.Name x px, .Name y py] k p) (.tup [v, w]) H Q :=
  Asg_Tuple (ns := [(x, px), (y, py)]) h rfl rfl (fun q hq => by rcases List.mem_cons.mp hq with rfl | hq; exact hx; rcases List.mem_cons.mp hq with rfl | hq; exact hy; cases hq) hlen hstar hp
theorem Asg_Triple {x y z : Str} {px py pz p : Pos} {k : Nat} {v w u : V} {Q : Loc → AH → Prop} (h : Q (put (put (put m x v) y w) z u) H) (hx : env.kindOf x = some .local := by rfl) (hy : env.kindOf y = some .local := by rfl) (hz : env.kindOf z = some .local := by rfl)
    (hlen : (assignEach [.Name x px, .Name y py, .Name z pz] env).length = 3 := by rfl) (hstar : (assignEach [.Name x px, .Name y py, .Name z pz] env).findIdx? (·.1) = none := by rfl)
    (hp : (env.scope.kind == .class || (env.scope.kind == .module && env.locals != env.globals)) = false := by rfl) : Asg G fs r env m (.Tuple [.Name x px, .Name y py, .Name z pz] k p) (.tup [v, w, u]) H Q :=
  Asg_Tuple (ns := [(x, px), (y, py), (z, pz)]) h rfl rfl (fun q hq => by rcases List.mem_cons.mp hq with rfl | hq; exact hx; rcases List.mem_cons.mp hq with rfl | hq; exact hy; rcases List.mem_cons.mp hq with rfl | hq; exact hz; cases hq) hlen hstar hp

abbrev KAt (G : Ctx) (fs : List Env) (r : Nat) (env : Env) (m : Loc) (t : Expr) (Q : Fl → Loc → AH → Prop) : V → AH → Prop := fun v H => Asg G fs r env m t v H (Q .next)
/-- x, y = e -/
theorem Ex_AssignTuple {elts : List Expr} {k : Nat} {p pos : Pos} {e : Expr} {Q : Fl → Loc → AH → Prop} (h : Ev G fs r env m (eval e env) H (KAt G fs r env m (.Tuple elts k p) Q) E)
    (hs : swapsWithSole [.Tuple elts k p] e pos.line env = pure false := by rfl) (hw : swappedStores [.Tuple elts k p] e env = pure none := by rfl) :
    Ex G fs r env m (exec (.Assign [.Tuple elts k p] e pos) env) H Q E := fun A s a b c => by
  refine Assign_Tuple (wpAny_mono (h A s a b c) ?_ fun u' u' z => exX c z) hs hw
  first | refine qv fun cv s₁ v H₁ a₁ v₁ q => ?_ | refine ql fun cv s₁ v H₁ a₁ v₁ q => ?_ | rintro cv s₁ ⟨v, H₁, a₁, v₁, q⟩
  refine wpAny_mono (q A s₁ cv (fun u' u' => False) a a₁.1 (c.keep a₁.2) v₁) ?_ fun u' u' z => z.elim
  rintro _ s₂ ⟨m₂, H₂, a₂, c₂, q₂⟩
  exact ⟨.next, m₂, H₂, a₁.x.trans a₂, c₂, .next, q₂⟩

theorem owned_quiet {target : Expr} {it : Addr} {i : Nat} {src : Src} {cv : Value} {Q : Unit → Shared → Prop} {E' : Value → Shared → Prop} (ha : src.at s.heap it i) (h : Q () s) : wpAny (model G.prog G.w) A (letOwnedTupleGo target (.ref it) cv) Q E' s := by
  have go : wpAny (model G.prog G.w) A (do
    let (.ref r, .ref a) := (Value.ref it, cv) | return
    let o ← load r
    match o.cls, o.data with
    | .type n, .fields vs =>
      if ["enumerate", "zip", "dict_itemiterator", "dict_reverseitemiterator", "odict_iterator", "itertools.zip_longest", "itertools.pairwise"].contains n && vs[0]? == some (rawInt a) then
        rule "for.unpacks-the-owned-tuple"
        updateField r 0 .none
    | _, _ => pure ()) Q E' s := by
    cases cv with
    | ref a =>
      have : ∀ o n vs, s.heap.get? it = some o → o.cls = .type n → o.data = .fields vs → ["enumerate", "zip", "dict_itemiterator", "dict_reverseitemiterator", "odict_iterator", "itertools.zip_longest", "itertools.pairwise"].contains n = false → wpAny (model G.prog G.w) A (do
        let o ← load it
        match o.cls, o.data with
        | .type n, .fields vs =>
          if ["enumerate", "zip", "dict_itemiterator", "dict_reverseitemiterator", "odict_iterator", "itertools.zip_longest", "itertools.pairwise"].contains n && vs[0]? == some (rawInt a) then
            rule "for.unpacks-the-owned-tuple"
            updateField it 0 .none
        | _, _ => pure ()) Q E' s := by
        intro o n vs e hc hd hn
        refine wpAny_bind (wpAny_load e ?_)
        rw [hc, hd]
        dsimp only
        rw [hn]
        exact wpAny_pure h
      cases src with
      | list l vs => obtain ⟨o, e, hc, hd⟩ := ha; exact this o _ _ e hc hd (by decide)
      | range n => obtain ⟨o, e, hc, hd⟩ := ha; exact this o _ _ e hc hd (by decide)
      | str l =>
        obtain ⟨t, ⟨o, e, hc, hd⟩ | ⟨o, e, hc, hd⟩⟩ := ha
        · exact this o _ _ e hc hd (by decide)
        · exact this o _ _ e hc hd (by decide)
      | keys d kvs ep => obtain ⟨o, e, hc, hd⟩ := ha; exact this o _ _ e hc hd (by decide)
    | _ => exact wpAny_pure h
  cases target <;> first | exact wpAny_pure h | exact go

abbrev KFr (G : Ctx) (fs : List Env) (r : Nat) (env : Env) (body : List Stmt) (B : Fl → Loc → AH → Prop) (E : AH → Prop) : Loc → AH → Prop := fun m H => Ex G fs r env m (execs body env) H B E
/-- what a for asks for, when the walked is known -/
structure ForI (G : Ctx) (fs : List Env) (r : Nat) (env : Env) (m : Loc) (target : Expr) (body : List Stmt) (src : Src) (H : AH) (Q : Fl → Loc → AH → Prop) (E : AH → Prop) (I : Nat → Loc → AH → Prop) : Prop where
  start : I 0 m H
  ok : ∀ i m' H', I i m' H' → src.ok H'
  turn : ∀ i x m' H' (B : Fl → Loc → AH → Prop), (∀ m H, I (i + 1) m H → B .next m H) → (∀ m H, I (i + 1) m H → B .cont m H) → (∀ v m H, Q (.ret v) m H → B (.ret v) m H) → (∀ m H, Q .next m H → B .brk m H) → src.items[i]? = some x → I i m' H' →
    Asg G (env :: fs) r env m' target x H' (KFr G (env :: fs) r env body B E)
  done : ∀ m' H', I src.items.length m' H' → Q .next m' H'

abbrev KFor (G : Ctx) (fs : List Env) (r : Nat) (env : Env) (m : Loc) (target : Expr) (body : List Stmt) (Q : Fl → Loc → AH → Prop) (E : AH → Prop) : Src → AH → Prop := fun src H => ∃ I, ForI G fs r env m target body src H Q E I
inductive QFo (G : Ctx) (fs : List Env) (env : Env) (H : AH) (s : Shared) (it : Addr) (src : Src) (I : Nat → Loc → AH → Prop) (n : Nat) (s' : Shared) : Prop
  | mk (i : Nat) (m' : Loc) (H' : AH) (x : AfterX G (env :: fs) env H s H' s') (y : LocsR G.s₀.heap env m' s'.heap H') (w : H' it = none) (v : src.at s'.heap it i) (z : I i m' H') (le : i ≤ src.items.length) (e : n = src.items.length - i) : QFo G fs env H s it src I n s'
theorem Ex_For {target iter : Expr} {body : List Stmt} {pos : Pos} {Q : Fl → Loc → AH → Prop} (hf : env.frame = some L)
    (h : Itb G (env :: fs) r env m (eval iter env) H (KFor G fs r env m target body Q E) E) (hs : ∀ x, foldedSetIterable iter env x = pure x := by intro _; rfl) :
    Ex G (env :: fs) r env m (exec (.For target iter body [] pos) env) H Q E := fun A s a b c => by
  refine wpAny_For (wpAny_mono (h A s a b c) ?_ fun u' u' z => exX c z) hs
  rintro v s₁ hqq
  refine byc fun hnn => ?_
  obtain ⟨src, H₁, a₁, ok₁, sv, I, F⟩ := hqq
  refine hnn ?_; clear hnn
  have c₁ := c.keep a₁.2
  refine src_iter a₁.1 ok₁ sv fun o ha => ?_
  generalize hit : s₁.heap.objs.size = it at ha
  have fresh₁ : s₁.heap.get? it = none := hit ▸ size_none
  have fresh : s.heap.get? it = none := a₁.2.back fresh₁
  have a₂ : After G (env :: fs) H₁ s₁ H₁ { s₁ with heap := s₁.heap.push o } := After.push (t := s₁.toks) a₁.1
  refine codeAny_forLoop_any (QFo G fs env H s it src I) ?_ _
    ⟨0, m, H₁, (a₁.trans a₂).x, c₁.keep a₂.2, hit ▸ a₁.1.freeSize, ha, F.start, Nat.zero_le _, rfl⟩
  rintro n s₃ ⟨i, m₃, H₃, a₃, c₃, hi, ha₃, hI, hle, rfl⟩
  refine byc fun hnn => ?_
  obtain ⟨oi, vi, ei, di⟩ := ha₃.fields
  refine hnn ?_; clear hnn
  have side : ∀ {h' : Heap} {t : Nat}, Heap.ExtBut it s₃.heap h' → AfterX G (env :: fs) env H s H₃ { s₃ with heap := h', toks := t } ∧ LocsR G.s₀.heap env m₃ h' H₃ := fun {h' t} hs => by
    have := turn_beside (t := t) b a₃.1 a₃.2 fresh hi ei (fun u' u' z => by rw [di] at z; cases z) hs
    exact ⟨⟨this.1, this.2⟩, c₃.beside ei ⟨_, di⟩ hs⟩
  refine src_next a₃.1 (F.ok i m₃ H₃ hI) ha₃ hi a.handled (fun x h' t cv hx rv ha' hs => ?_) fun hge h' t hs => ?_
  · obtain ⟨a₄, c₄⟩ := side (t := t) hs.extBut
    refine owned_quiet (s := { s₃ with heap := h', toks := t }) ha' ?_
    refine wpAny_mono (F.turn i x m₃ H₃ (LoopP (I (i + 1)) Q) (fun u' u' z => z) (fun u' u' z => z) (fun u' u' u' z => z) (fun u' u' z => z) hx hI A { s₃ with heap := h', toks := t } cv (fun u' u' => False) a a₄.1 c₄ rv) ?_ fun u' u' z => z.elim
    rintro _ s₅ hqq
    refine byc fun hnn => ?_
    obtain ⟨m₅, H₅, a₅, c₅, q⟩ := hqq
    refine hnn ?_; clear hnn
    refine wpAny_mono (q A s₅ a a₅.1 c₅) ?_ fun e s' z => loop_raise a hf b.base (a₄.trans a₅).2 z
    refine qf fun f s₆ fl m₆ H₆ a₆ c₆ rf q₆ => ?_
    have a' := (a₄.trans a₅).trans a₆
    have nx : ∀ {h : Heap} {H : AH} {m : Loc} {i : Nat}, LocsR G.s₀.heap env m h H → src.at h it i → ¬ mineX env it := fun {h H m i} c ha z => by
      refine byc fun hnn => ?_
      obtain ⟨oi, vi, ei, di⟩ := ha.fields
      refine hnn ?_; clear hnn
      rcases z with z | ⟨p, hp, z⟩
      · refine byc fun hnn => ?_
        obtain ⟨mc, ⟨oL, es, ep, e1, e2, _⟩, _⟩ := c.ns
        refine hnn ?_; clear hnn
        rw [← z, ei] at e1; cases e1; rw [di] at e2; cases e2
      · refine byc fun hnn => ?_
        obtain ⟨_, o, v, e1, e2⟩ := c.coff p hp
        refine hnn ?_; clear hnn
        rw [← z, ei] at e1; cases e1; rw [di] at e2; cases e2
    have k₅₆ := (a₅.trans a₆).2
    have ha₆ : src.at s₆.heap it (i + 1) := ha'.keep k₅₆ hi (nx c₄ ha')
    have hi₆ : H₆ it = none := by
      refine byc fun hnn => ?_
      obtain ⟨oi', vi', ei', di'⟩ := ha'.fields
      refine hnn ?_; clear hnn
      exact k₅₆.off ei' hi
    have hlt : i < src.items.length := (List.getElem?_eq_some_iff.mp hx).1
    cases rf with
    | next => exact ⟨_, Nat.sub_succ_lt_self _ _ hlt, i + 1, m₆, H₆, a', c₆, hi₆, ha₆, q₆, hlt, rfl⟩
    | cont => exact ⟨_, Nat.sub_succ_lt_self _ _ hlt, i + 1, m₆, H₆, a', c₆, hi₆, ha₆, q₆, hlt, rfl⟩
    | brk => exact ⟨.next, m₆, H₆, a', c₆, .next, q₆⟩
    | ret v => exact ⟨.ret _, m₆, H₆, a', c₆, .ret v, q₆⟩
  · obtain ⟨a₄, c₄⟩ := side (t := t) hs
    have : i = src.items.length := Nat.le_antisymm hle hge
    subst this
    exact wpAny_execs_nil ⟨.next, m₃, H₃, a₄, c₄, .next, F.done m₃ H₃ hI⟩
end
end SL10
section SL11
open PySem PySem.W PyProof.Rows
set_option tactic.hygienic false

section
variable {G : Ctx} {fs : List Env} {r : Nat} {env : Env} {m : Loc} {H : AH} {E : AH → Prop} {A : Around} {s : Shared} {L : Addr}

theorem LocsR.beside' {base : Heap} {env : Env} {m : Loc} {h h' : Heap} {H : AH} {a₀ : Addr} {o₀ : Obj} (c : LocsR base env m h H) (e₀ : h.get? a₀ = some o₀) (hd : ∀ it n, o₀.data ≠ .seq it n) (nl : a₀ ≠ env.locals) (cne : ∀ p ∈ env.cells, p.2 ≠ a₀) (hs : Heap.ExtBut a₀ h h') : LocsR base env m h' H := by
  have T : TupS H h H h' := TupS.of e₀ hd hs
  refine byc fun hnn => ?_
  obtain ⟨⟨mc, hn, hl⟩, hc, ho, hco, f1, f2⟩ := c
  refine hnn ?_; clear hnn
  refine ⟨⟨mc, ?_, fun x v a b => ?_⟩, fun x v a b => ?_, ho, fun p hp => ?_, f1, f2⟩
  · refine byc fun hnn => ?_
    obtain ⟨oL, es, ep, e1, e2, e3, e4⟩ := hn
    refine hnn ?_; clear hnn
    exact ⟨oL, es, ep, hs _ _ (fun z => nl z.symm) e1, e2, e3, e4⟩
  · obtain ⟨c, q, r⟩ := hl x v a b; exact ⟨c, q, r.monoT T⟩
  · refine byc fun hnn => ?_
    obtain ⟨c, o, cv, q1, q2, q3, q4⟩ := hc x v a b
    refine hnn ?_; clear hnn
    exact ⟨c, o, cv, q1, hs _ _ (cne (x, c) (mem_of_lookup q1)) q2, q3, q4.monoT T⟩
  · refine byc fun hnn => ?_
    obtain ⟨a, o, v, b, d⟩ := hco p hp
    refine hnn ?_; clear hnn
    exact ⟨a, o, v, hs _ _ (cne p hp) b, d⟩

/-- the tests of a comprehension: none or one -/
def Tst (G : Ctx) (fs : List Env) (r : Nat) (env : Env) (m : Loc) (ifs : List Expr) (H : AH) (Q : Bool → AH → Prop) : Prop := match ifs with
  | [] => Q true H
  | c :: _ => Ts G fs r env m (isTrue c env (eval c env)) H Q fun u' => False

theorem Tst.run {G : Ctx} {fs : List Env} {r : Nat} {env : Env} {m : Loc} {ifs : List Expr} {H : AH} {Q : Bool → AH → Prop} {A : Around} {s : Shared} {N : Value → Shared → Prop} (hlen : ifs.length ≤ 1) (T : Tst G fs r env m ifs H Q) (a : AOK fs r A) (b : Rel G fs H s) (c : LocsR G.s₀.heap env m s.heap H) :
    wpAny (model G.prog G.w) A (forIn ifs true fun c r => if r = true then do let ok ← isTrue c env (eval c env); pure (ForInStep.yield ok) else pure (ForInStep.yield r)) (QB G fs H s Q) N s := by
  cases ifs with
  | nil => exact wpAny_tests_nil ⟨H, .refl b, T⟩
  | cons t rest => cases rest with
    | nil =>
      refine wpAny_tests_one (wpAny_mono (T A s a b c) ?_ ?_)
      · exact fun ok s₉ q => q
      · rintro e s₉ ⟨_, _, _, z⟩; exact z.elim
    | cons t' rest => exact absurd hlen (by rw [List.length_cons, List.length_cons]; lia)

structure CompI (G : Ctx) (fs : List Env) (r : Nat) (env : Env) (cenv : Addr → Env) (mC : Loc) (x : Str) (elt : Expr) (ifs : List Expr) (src : Src) (H : AH) (D : Addr) (J : Nat → List V → AH → Prop) : Prop where
  start : J 0 [] (upd H D (.list []))
  ok : ∀ i acc H', J i acc H' → src.ok H' ∧ acc.length ≤ sizeLine
  turn : ∀ C i v acc H', src.items[i]? = some v → J i acc H' → H' D = some (.list acc) → Tst G fs r (cenv C) (put mC x v) ifs H' fun b H₂ => if b then
      Ev G fs r (cenv C) (put mC x v) (eval elt (cenv C)) H₂ (fun y H₃ => H₃ D = some (.list acc) ∧ J (i + 1) (acc ++ [y]) (upd H₃ D (.list (acc ++ [y])))) fun u' => False
    else H₂ D = some (.list acc) ∧ J (i + 1) acc H₂

theorem comp_core {elt iter : Expr} {x : Str} {px pos : Pos} {ifs : List Expr} {scope : Scope} {cl : List (Str × Addr)} {mC : Loc} {src : Src} {s₁ : Shared} {H₁ : AH} {it : Addr} {J : Addr → Nat → List V → AH → Prop} {RR : Value → Addr → Result → Shared → Prop}
    (a : AOK fs r A) (b : Rel G fs H s) (c : LocsR G.s₀.heap env m s.heap H) (a₁ : After G fs H s H₁ s₁) (fresh : s.heap.get? it = none) (hi₁ : H₁ it = none) (ha₁ : src.at s₁.heap it 0)
    (hlen : ifs.length ≤ 1) (hcell : ∀ y ∈ scope.names, y.2 ≠ .cell) (hkind : scope.kind = .function) (hx : scope.names.lookup x = some .local)
    (hcl : ∀ p ∈ cl, p ∈ env.cells) (hm : ∀ y v, mC y = some v → m y = some v ∧ env.kindOf y ≠ some .local ∧ (relabel scope env).names.lookup y ≠ some .local ∧ cl.lookup y = env.cells.lookup y) (hmx : mC x = none)
    (hI : ∀ D, H₁ D = none → CompI G fs r env (compEnvC scope cl · env) mC x elt ifs src H₁ D (J D))
    (hRR : ∀ D C s' H' acc, H₁ D = none → Rel G fs H' s' → Keep H s.heap H' s'.heap → H' D = some (.list acc) → J D src.items.length acc H' → s.heap.get? C = none → H' C = none → (∃ mc, s'.heap.Ns C mc) → RR (.ref D) C (.ok .next) s') :
    wpAny (model G.prog G.w) A (newList []) (fun acc s₃ => wpAny (model G.prog G.w) A (newFunctionEnv scope env.globals cl [] env.qual none .none (some env)) (fun cenv s₄ =>
      codeAny (model G.prog G.w) A (.compStart (.ListComp elt [⟨.Name x px, iter, ifs, 0⟩] scope pos) 0 (.ref it) acc { cenv with scope := relabel scope env }) (RR acc cenv.locals) s₄) E' s₃) E' s₁ := by
  refine wpAny_newObj_type (wpAny_newFunctionEnv hcell (by intro y hy; simp at hy) (fun h₄ hns₄ hsb₄ => ?_) hkind)
  dsimp only at hns₄ hsb₄ ⊢
  generalize hD : s₁.heap.objs.size = D
  have nD : s₁.heap.get? D = none := hD ▸ size_none
  have hDn : H₁ D = none := hD ▸ a₁.1.freeSize
  have A₂ : After G fs H₁ s₁ (upd H₁ D (.list [])) { s₁ with heap := s₁.heap.push { cls := .type "list", dict := none, data := .seq ([] : List Value).toArray } } :=
    After.new (t := s₁.toks) a₁.1 push_keep nD ⟨#[], 0, hD ▸ Heap.get?_push_size _ rfl, .nil⟩
  generalize hs₂ : s₁.heap.push { cls := .type "list", dict := none, data := .seq ([] : List Value).toArray } = h₂ at hns₄ hsb₄ A₂ ⊢
  generalize hC : h₂.objs.size = C at hns₄ hsb₄ ⊢
  have nC : h₂.get? C = none := hC ▸ size_none
  have hCn : upd H₁ D (.list []) C = none := hC ▸ A₂.1.freeSize
  have k₄ : ∀ b o, h₂.get? b = some o → h₄.get? b = some o := fun b' o e => (hsb₄.2 b' fun z => by rw [z, nC] at e; cases e).trans (Heap.get?_push_of_some _ e)
  have A₄ : After G fs H₁ s₁ (upd H₁ D (.list [])) { s₁ with heap := h₄, toks := s₁.toks + ([] : List (Str × Value)).length } := A₂.trans (After.grow (s := { s₁ with heap := h₂ }) (t := s₁.toks + 0) A₂.1 k₄)
  have nCs : s.heap.get? C = none := (a₁.trans A₂).2.back nC
  have base : ∀ b, s.heap.get? b = none → G.s₀.heap.get? b = none := fun b' n => by
    cases z : G.s₀.heap.get? b' with
    | none => rfl
    | some o => rw [b.base b' o z] at n; cases n
  have c₄ := c.keep (a₁.trans A₄).2
  have cC : LocsR G.s₀.heap (compEnvC scope cl C env) mC h₄ (upd H₁ D (.list [])) := by
    refine ⟨⟨_, hns₄, fun y v e k => ?_⟩, fun y v e k => ?_, hCn, fun p hp => c₄.coff p (hcl p hp), base C nCs, fun p hp => c₄.cfresh p (hcl p hp)⟩
    · exact ((hm y v e).2.2.1 k).elim
    · refine byc fun hnn => ?_
      obtain ⟨e1, e2, e3, e4⟩ := hm y v e
      refine hnn ?_; clear hnn
      refine byc fun hnn => ?_
      obtain ⟨ca, o, cv, q1, q2⟩ := c₄.cl y v e1 e2
      refine hnn ?_; clear hnn
      exact ⟨ca, o, cv, e4.trans q1, q2⟩
  have ha₄ : src.at h₄ it 0 := ha₁.keep A₄.2 hi₁ (fun z => z)
  have hi₄ : upd H₁ D (.list []) it = none := by
    refine byc fun hnn => ?_
    obtain ⟨oi, vi, ei, di⟩ := ha₁.fields
    refine hnn ?_; clear hnn
    exact A₄.2.off ei hi₁
  have F := hI D hDn
  have hloc : Env.kindOf (compEnvC scope cl C env) x = some .local := lookup_relabel_local hx
  have loop : ∀ s₅ : Shared, s₅ = { s₁ with heap := h₄, toks := s₁.toks + ([] : List (Str × Value)).length } →
      codeAny (model G.prog G.w) A (.compLoop (.ListComp elt [⟨.Name x px, iter, ifs, 0⟩] scope pos) 0 (.ref it) (.ref D) (compEnvC scope cl C env)) (RR (.ref D) C) s₅ := by
    rintro s₅ rfl
    refine codeAny_compLoop_tests (fun n s' => (X3 fun i acc H' => A9 (Rel G fs H' s') (Keep H s.heap H' s'.heap) (LocsR G.s₀.heap (compEnvC scope cl C env) mC s'.heap H') (H' it = none) (src.at s'.heap it i) (H' D = some (.list acc)) (J D i acc H') (i ≤ src.items.length) (n = src.items.length - i))) ?_ _
      ⟨0, [], _, A₄.1, (a₁.trans A₄).2, cC, hi₄, ha₄, upd_eq, F.start, Nat.zero_le _, rfl⟩
    rintro n s₆ ⟨i, acc, H₆, b₆, k₆, c₆, hi₆, ha₆, hD₆, hJ, hle, rfl⟩
    refine byc fun hnn => ?_
    obtain ⟨oi, vi, ei, di⟩ := ha₆.fields
    refine hnn ?_; clear hnn
    have side : ∀ {h' : Heap} {t : Nat}, Heap.ExtBut it s₆.heap h' → Rel G fs H₆ { s₆ with heap := h', toks := t } ∧ Keep H s.heap H₆ h' ∧ LocsR G.s₀.heap (compEnvC scope cl C env) mC h' H₆ := fun {h' t} hs => by
      have := turn_beside (t := t) b b₆ k₆ fresh hi₆ ei (fun u' u' z => by rw [di] at z; cases z) hs
      exact ⟨this.1, this.2, c₆.beside ei ⟨_, di⟩ hs⟩
    refine src_next b₆ (F.ok i acc H₆ hJ).1 ha₆ hi₆ a.handled (fun v h' t cv hv rv ha' hs => ?_) fun hge h' t hs => ?_
    · refine byc fun hnn => ?_
      obtain ⟨b₇, k₇, c₇⟩ := side (t := t) hs.extBut
      refine hnn ?_; clear hnn
      refine wpAny_assign_Name (store_localX (s := { s₆ with heap := h', toks := t }) b₇ (fun u' u' e => e) c₇ rv hloc (by simp [compEnvC, relabel, hkind]) fun s₈ b₈ k₇₈ sb₈ c₈ => ?_)
      have C₈ : ∃ oC, h'.get? C = some oC ∧ ∀ it n, oC.data ≠ .seq it n := by
        refine byc fun hnn => ?_
        obtain ⟨mc, ⟨oL, es, ep, e1, e2, _⟩, _⟩ := c₇.ns
        refine hnn ?_; clear hnn
        exact ⟨oL, e1, fun u' u' z => by rw [e2] at z; cases z⟩
      refine byc fun hnn => ?_
      obtain ⟨oC, eC, dC⟩ := C₈
      refine hnn ?_; clear hnn
      have z₈ := turn_beside (s₁ := { s₆ with heap := h', toks := t }) (t := t) b b₇ k₇ nCs c₇.off eC dC sb₈.extBut
      have k₈ : Keep H s.heap H₆ s₈.heap := z₈.2
      have itC : it ≠ C := fun z => by
        refine byc fun hnn => ?_
        obtain ⟨mc, ⟨oL, es, ep, e1, e2, _⟩, _⟩ := c₇.ns
        refine hnn ?_; clear hnn
        refine byc fun hnn => ?_
        obtain ⟨oi', vi', ei', di'⟩ := ha'.fields
        refine hnn ?_; clear hnn
        change h'.get? C = some oL at e1
        rw [← z, ei'] at e1; cases e1; rw [di'] at e2; cases e2
      have ha₈ : src.at s₈.heap it (i + 1) := Src.at.keep k₇₈ hi₆ itC ha'
      have hlt : i < src.items.length := (List.getElem?_eq_some_iff.mp hv).1
      have T := F.turn C i v acc H₆ hv hJ hD₆
      have back : ∀ {s₉ : Shared} {H₉ : AH}, After G fs H₆ s₈ H₉ s₉ → LocsR G.s₀.heap (compEnvC scope cl C env) mC s₉.heap H₉ ∧ H₉ it = none ∧ src.at s₉.heap it (i + 1) ∧ Keep H s.heap H₉ s₉.heap := fun {s₉ H₉} z => by
        refine ⟨(c₈.keep z.2).sub fun y w e => put_ne (fun q => by rw [q, hmx] at e; cases e) e, ?_, ha₈.keep z.2 hi₆ fun q => q, KeepX.trans k₈ z.2⟩
        refine byc fun hnn => ?_
        obtain ⟨oi', vi', ei', di'⟩ := ha₈.fields
        refine hnn ?_; clear hnn
        exact z.2.off ei' hi₆
      refine wpAny_mono (Tst.run hlen T a b₈ c₈) ?_ fun u' u' z => z
      first | refine qb fun ok s₉ H₉ a₉ q => ?_ | refine qu fun ok s₉ H₉ a₉ q => ?_ | rintro ok s₉ ⟨H₉, a₉, q⟩
      refine byc fun hnn => ?_
      obtain ⟨c₉, hi₉, ha₉, k₉⟩ := back a₉
      refine hnn ?_; clear hnn
      cases ok
      · simp only [Bool.false_eq_true, if_false] at q ⊢
        exact ⟨_, Nat.sub_succ_lt_self _ _ hlt, i + 1, acc, H₉, a₉.1, k₉, c₉, hi₉, ha₉, q.1, q.2, hlt, rfl⟩
      · simp only [if_true] at q ⊢
        refine wpAny_mono (q A s₉ a a₉.1 (c₈.keep a₉.2)) ?_ ?_
        · first | (refine qv fun y s₁₀ yv H₁₀ a₁₀ ry hqq => ?_; obtain ⟨q1, q2⟩ := hqq) | (refine ql fun y s₁₀ yv H₁₀ a₁₀ ry hqq => ?_; obtain ⟨q1, q2⟩ := hqq) | rintro y s₁₀ ⟨yv, H₁₀, a₁₀, ry, q1, q2⟩
          have ap := Cl_append (G := G) (fs := fs) (r := r) (Q := fun u' H' => H' = upd H₁₀ D (.list (acc ++ [yv]))) (E := fun u' => False) (v := yv) q1 (F.ok i acc H₆ hJ).2 rfl
          refine wpAny_mono (ap A s₁₀ _ [.ref D, y] a a₁₀.1 (.bi _) (.cons (.ref D) (.cons ry .nil))) ?_ ?_
          · first | (refine qv fun u' s₁₁ u' H₁₁ a₁₁ u' hqq => ?_; obtain rfl := hqq) | (refine ql fun u' s₁₁ u' H₁₁ a₁₁ u' hqq => ?_; obtain rfl := hqq) | rintro _ s₁₁ ⟨_, H₁₁, a₁₁, _, rfl⟩
            refine byc fun hnn => ?_
            obtain ⟨c', hi', ha', k'⟩ := back ((a₉.trans a₁₀).trans a₁₁)
            refine hnn ?_; clear hnn
            exact ⟨_, Nat.sub_succ_lt_self _ _ hlt, i + 1, acc ++ [yv], _, a₁₁.1, k', c', hi', ha', upd_eq, q2, hlt, rfl⟩
          · rintro e s₁₁ ⟨_, _, _, z⟩; exact z.elim
        · rintro e s₁₀ ⟨_, _, _, z⟩; exact z.elim
    · refine byc fun hnn => ?_
      obtain ⟨b₇, k₇, c₇⟩ := side (t := t) hs
      refine hnn ?_; clear hnn
      have : i = src.items.length := Nat.le_antisymm hle hge
      subst this
      refine byc fun hnn => ?_
      obtain ⟨mc, hn, _⟩ := c₇.ns
      refine hnn ?_; clear hnn
      exact hRR D C { s₆ with heap := h', toks := t } H₆ acc hDn b₇ k₇ hD₆ hJ nCs c₇.off ⟨mc, hn⟩
  subst hD hC
  exact codeAny_compStart_list (loop _ rfl) (src_self ha₄ (loop _ rfl))

theorem Ev_ListComp {elt iter : Expr} {x : Str} {px pos : Pos} {ifs : List Expr} {scope : Scope} {cl : List (Str × Addr)} {Q : V → AH → Prop} (mC : Loc)
    (h : Itb G fs r env m (eval iter env) H (fun src H₁ => ∃ J : Addr → Nat → List V → AH → Prop, (∀ D, H₁ D = none → CompI G fs r env (compEnvC scope cl · env) mC x elt ifs src H₁ D (J D)) ∧
      ∀ D acc H', H₁ D = none → H' D = some (.list acc) → J D src.items.length acc H' → Q (.ref D) H') E)
    (hclos : closureFor scope env = pure cl) (hcl : ∀ p ∈ cl, p ∈ env.cells) (hm : ∀ y v, mC y = some v → m y = some v ∧ env.kindOf y ≠ some .local ∧ (relabel scope env).names.lookup y ≠ some .local ∧ cl.lookup y = env.cells.lookup y) (hmx : mC x = none)
    (hlen : ifs.length ≤ 1 := by decide) (hcell : ∀ y ∈ scope.names, y.2 ≠ .cell := by decide) (hkind : scope.kind = .function := by rfl) (hx : scope.names.lookup x = some .local := by rfl)
    (hnames : ∀ y ∈ scope.names, y.2 = .local → scope.names.lookup y.1 = some .local := by decide) (hs : ∀ x, foldedSetIterable iter env x = pure x := by intro _; rfl) :
    Ev G fs r env m (eval (.ListComp elt [⟨.Name x px, iter, ifs, 0⟩] scope pos) env) H Q E := fun A s a b c => by
  rw [WV, eval_ListComp]
  refine wpAny_comprehension_free (use := none) rfl hs hclos hkind hnames (wpAny_mono (h A s a b c) ?_ fun u' u' z => z)
  rintro v s₁ hqq
  refine byc fun hnn => ?_
  obtain ⟨src, H₁, a₁, ok, sv, J, hI, hQ⟩ := hqq
  refine hnn ?_; clear hnn
  refine src_iter a₁.1 ok sv fun o ha => ?_
  have fr := a₁.2.back (b := s₁.heap.objs.size) size_none
  have A₂ : After G fs H s H₁ { s₁ with heap := s₁.heap.push o } := a₁.trans (After.push (t := s₁.toks) a₁.1)
  refine comp_core (J := J) (RR := fun acc C => compPost (model G.prog G.w) A _ none _ acc C) a b c A₂ fr a₁.1.freeSize ha hlen hcell hkind hx hcl hm hmx hI ?_
  intro D C s' H' acc hD b' k' e' hJ nC hC ⟨mc, hn⟩
  refine ⟨mc, hn, fun h' hs' => ?_⟩
  refine byc fun hnn => ?_
  obtain ⟨oL, es, ep, e1, e2, _⟩ := hn
  refine hnn ?_; clear hnn
  obtain ⟨z1, z2⟩ := turn_beside (t := s'.toks) b b' k' nC hC e1 (fun u' u' z => by rw [e2] at z; cases z) hs'.extBut
  exact ⟨.ref D, H', ⟨z1, z2⟩, .ref D, hQ D acc H' hD e' hJ⟩

theorem Ex_AssignComp {elt iter : Expr} {x y : Str} {px py pos spos : Pos} {ifs : List Expr} {scope : Scope} {cl : List (Str × Addr)} {Q : Fl → Loc → AH → Prop} (mC : Loc)
    (h : Itb G fs r env m (eval iter env) H (fun src H₁ => ∃ J : Addr → Nat → List V → AH → Prop, (∀ D, H₁ D = none → CompI G fs r env (compEnvC scope cl · env) mC x elt ifs src H₁ D (J D)) ∧
      ∀ D acc H', H₁ D = none → H' D = some (.list acc) → J D src.items.length acc H' → Q .next (put m y (.ref D)) H') E)
    (hclos : closureFor scope env = pure cl) (hcl : ∀ p ∈ cl, p ∈ env.cells) (hm : ∀ y v, mC y = some v → m y = some v ∧ env.kindOf y ≠ some .local ∧ (relabel scope env).names.lookup y ≠ some .local ∧ cl.lookup y = env.cells.lookup y) (hmx : mC x = none)
    (hsw : swapsWith (.ListComp elt [⟨.Name x px, iter, ifs, 0⟩] scope pos) (some (.Name y py)) spos.line env = pure true) (hl : env.kindOf y = some .local := by rfl)
    (hlen : ifs.length ≤ 1 := by decide) (hcell : ∀ y ∈ scope.names, y.2 ≠ .cell := by decide) (hkind : scope.kind = .function := by rfl) (hx : scope.names.lookup x = some .local := by rfl)
    (hnames : ∀ y ∈ scope.names, y.2 = .local → scope.names.lookup y.1 = some .local := by decide) (hs : ∀ x, foldedSetIterable iter env x = pure x := by intro _; rfl)
    (hp : (env.scope.kind == .class || (env.scope.kind == .module && env.locals != env.globals)) = false := by rfl) :
    Ex G fs r env m (exec (.Assign [.Name y py] (.ListComp elt [⟨.Name x px, iter, ifs, 0⟩] scope pos) spos) env) H Q E := fun A s a b c => by
  rw [WS, exec_Assign_Name_used _ _ _ _ hsw]
  refine wpAny_bind (wpAny_standAt (wpAny_bind ?_))
  show wpAny _ A (do let _ ← comprehension (.ListComp elt [⟨.Name x px, iter, ifs, 0⟩] scope pos) scope env _ (newList []) false (eval iter env) (some (assign (.Name y py) env))) _ _ s
  refine wpAny_bind (wpAny_mono (wpAny_comprehension_free (use := some (assign (.Name y py) env)) (Q := fun u' s' => QA G fs env H s (Q .next) () s') rfl hs hclos hkind hnames
    (wpAny_mono (h A s a b c) ?_ fun u' u' z => exX c z)) (fun _ s' ⟨m', H', q1, q2, q3⟩ => wpAny_pure (wpAny_pure ⟨.next, m', H', q1, q2, .next, q3⟩)) fun u' u' z => z)
  rintro v s₁ hqq
  refine byc fun hnn => ?_
  obtain ⟨src, H₁, a₁, ok, sv, J, hI, hQ⟩ := hqq
  refine hnn ?_; clear hnn
  refine src_iter a₁.1 ok sv fun o ha => ?_
  have fr := a₁.2.back (b := s₁.heap.objs.size) size_none
  have A₂ : After G fs H s H₁ { s₁ with heap := s₁.heap.push o } := a₁.trans (After.push (t := s₁.toks) a₁.1)
  refine comp_core (J := J) (RR := fun acc C => compPost (model G.prog G.w) A _ (some (assign (.Name y py) env)) _ acc C) a b c A₂ fr a₁.1.freeSize ha hlen hcell hkind hx hcl hm hmx hI ?_
  intro D C s' H' acc hD b' k' e' hJ nC hC ⟨mc, hn⟩
  have c' := c.keep k'
  have nCL : C ≠ env.locals := fun z => by
    refine byc fun hnn => ?_
    obtain ⟨mc', ⟨oL, _, _, e1, _⟩, _⟩ := c.ns
    refine hnn ?_; clear hnn
    rw [← z, nC] at e1; cases e1
  show wpAny _ A (assign (.Name y py) env (.ref D)) _ _ _
  refine wpAny_assign_Name (store_localX b' (fun u' u' e => e) c' (.ref D) hl hp fun s₃ b₃ k₃ sb₃ c₃ => ?_)
  have hn₃ := hn.sameBut sb₃ nCL
  refine ⟨mc, hn₃, fun h' hs' => ?_⟩
  refine byc fun hnn => ?_
  obtain ⟨oL, es, ep, e1, e2, _⟩ := hn₃
  refine hnn ?_; clear hnn
  have kx : KeepX (mineX env) H s.heap H' s₃.heap := KeepX.trans (KeepX.of k') (k₃.weak fun u' z => .inl z)
  obtain ⟨z1, z2⟩ := turn_beside (t := s₃.toks) b b₃ kx nC hC e1 (fun u' u' z => by rw [e2] at z; cases z) hs'.extBut
  refine ⟨_, H', ⟨z1, z2⟩, ?_, hQ D acc H' hD e' hJ⟩
  refine c₃.beside' (a₀ := C) e1 (fun u' u' z => by rw [e2] at z; cases z) nCL (fun p hp z => ?_) hs'.extBut
  refine byc fun hnn => ?_
  obtain ⟨_, o, v, e3, _⟩ := c.coff p hp
  refine hnn ?_; clear hnn
  rw [z, nC] at e3; cases e3
end
end SL11
section SL12
open PySem PySem.W PyProof.Rows
set_option tactic.hygienic false

section
variable {G : Ctx} {fs : List Env} {r : Nat} {env : Env} {m : Loc} {H : AH} {Q : V → AH → Prop} {E : AH → Prop}

/-! cells -/
theorem Ev_cell {x : Str} {pos : Pos} {v : V} (hv : m x = some v) (h : Q v H) (hk : env.scope.kind = .function := by rfl) (hl : env.kindOf x = some .cell := by rfl) (hd : (x == ("__debug__" : Str)) = false := by decide) :
    Ev G fs r env m (eval (.Name x pos) env) H Q E := fun A s u' b c => by
  obtain ⟨ca, o, cv, e1, e2, e3, rv⟩ := c.cl x v hv (by rw [hl]; decide)
  exact wpAny_Name (wpAny_loadName_cell hk hl e1 ⟨o, e2, e3⟩ ⟨v, H, .refl b, rv, h⟩) hd

theorem cells_apart (names : List (Str × NameKind)) : ∀ (n : Nat) (acc : List (Str × Addr)), (∀ p ∈ acc, p.2 < n) → (acc.Pairwise fun x y => x.2 ≠ y.2) → (cellsFrom n names acc).Pairwise fun x y => x.2 ≠ y.2 := by
  induction names with
  | nil => exact fun n acc hl h => h
  | cons p r ih =>
    intro n acc hl h
    unfold cellsFrom
    split
    · refine ih _ _ (fun q hp => ?_) (List.pairwise_cons.mpr ⟨fun p hp => Nat.ne_of_gt (hl p hp), h⟩)
      cases hp with
      | head => exact Nat.lt_succ_self _
      | tail _ hp => exact Nat.lt_succ_of_lt (hl q hp)
    · exact ih n acc hl h

theorem store_cell {A : Around} {x : Str} {v : V} {cv : Value} {s : Shared} {R : Unit → Shared → Prop} {E' : Value → Shared → Prop} (b : Rel G fs H s) (c : LocsR G.s₀.heap env m s.heap H) (rv : RV s.heap H v cv) (hk : env.scope.kind = .function) (hl : env.kindOf x = some .cell)
    (hx : (env.cells.lookup x).isSome = true) (hap : env.cells.Pairwise fun x y => x.2 ≠ y.2)
    (h : ∀ s', AfterX G fs env H s H s' → LocsR G.s₀.heap env (put m x v) s'.heap H → R () s') : wpAny (model G.prog G.w) A (storeName env x cv) R E' s := by
  obtain ⟨ca, hc⟩ := Option.isSome_iff_exists.mp hx
  have hmem := mem_of_lookup hc
  refine byc fun hnn => ?_
  obtain ⟨hH, o, v₀, e0, d0⟩ := c.coff (x, ca) hmem
  refine hnn ?_; clear hnn
  refine wpAny_storeName_cell hk hl hc ⟨o, e0, d0⟩ fun h' hc' hs => ?_
  refine byc fun hnn => ?_
  obtain ⟨o', e', d'⟩ := hc'
  refine hnn ?_; clear hnn
  have fr : G.s₀.heap.get? ca = none := c.cfresh (x, ca) hmem
  have k : KeepX (mineX env) H s.heap H h' := fun b' o e => ⟨by
    by_cases z : b' = ca
    · exact ⟨o', z ▸ e'⟩
    · exact ⟨o, (hs.2 b' z).trans e⟩, fun n => ⟨n, fun hx => by
    by_cases z : b' = ca
    · refine byc fun hnn => ?_
      obtain ⟨it, nn, hd⟩ := hx (.inr ⟨_, hmem, z⟩)
      refine hnn ?_; clear hnn
      rw [z, e0] at e; cases e; rw [d0] at hd; cases hd
    · exact ⟨o.slots, (hs.2 b' z).trans e⟩⟩⟩
  have T : TupS H s.heap H h' := TupS.of e0 (fun u' u' z => by rw [d0] at z; cases z) hs.extBut
  have b' : Rel G fs H { s with heap := h' } := by
    refine b.stepX (t := s.toks) k (fun a o e => RO.monoT T (fun u' u' e => e) (fun b' ob n e => ?_) e (b.objs a o e)) (fun b' o e => (hs.2 b' fun z => ?_).trans (b.base b' o e)) fun env' he L hf hx => ?_
    · exact (hs.2 b' fun z => n (z ▸ hH)).trans e
    · rw [z, fr] at e; cases e
    · have hm : L ∈ fs.filterMap (·.frame) := List.mem_filterMap.mpr ⟨env', he, hf⟩
      refine byc fun hnn => ?_
      obtain ⟨_, oL, ho, hd⟩ := b.frames.mem hm
      refine hnn ?_; clear hnn
      by_cases z : L = ca
      · exact ⟨o', z ▸ e', fun vs q => by rw [d'] at q; cases q⟩
      · exact ⟨oL, (hs.2 L z).trans ho, hd⟩
  refine h { s with heap := h' } ⟨b', k⟩ ?_
  refine byc fun hnn => ?_
  obtain ⟨⟨mc, hn, hlo⟩, hcl, ho, hco, f1, f2⟩ := c
  refine hnn ?_; clear hnn
  have nL : env.locals ≠ ca := fun z => by
    refine byc fun hnn => ?_
    obtain ⟨oL, es, ep, e1, e2, _⟩ := hn
    refine hnn ?_; clear hnn
    rw [z, e0] at e1; cases e1; rw [d0] at e2; cases e2
  refine ⟨⟨mc, hn.sameBut hs nL, fun y w e k' => ?_⟩, fun y w e k' => ?_, ho, fun p hp => ?_, f1, f2⟩
  · unfold put at e
    by_cases z : y = x
    · rw [z, hl] at k'; cases k'
    · rw [if_neg z] at e
      refine byc fun hnn => ?_
      obtain ⟨c', e1, r1⟩ := hlo y w e k'
      refine hnn ?_; clear hnn
      exact ⟨c', e1, r1.monoT T⟩
  · unfold put at e
    by_cases z : y = x
    · rw [if_pos z] at e; cases e
      exact ⟨ca, o', cv, z ▸ hc, e', d', rv.monoT T⟩
    · rw [if_neg z] at e
      refine byc fun hnn => ?_
      obtain ⟨cb, ob, cw, q1, q2, q3, q4⟩ := hcl y w e k'
      refine hnn ?_; clear hnn
      refine ⟨cb, ob, cw, q1, (hs.2 cb fun z' => z ?_).trans q2, q3, q4.monoT T⟩
      exact name_of_addr hap (Mine.mem_of_lookup q1) (z' ▸ hmem)
  · refine byc fun hnn => ?_
    obtain ⟨a, ob, w, e1, e2⟩ := hco p hp
    refine hnn ?_; clear hnn
    by_cases z : p.2 = ca
    · exact ⟨a, o', _, z ▸ e', d'⟩
    · exact ⟨a, ob, w, (hs.2 _ z).trans e1, e2⟩

theorem Ex_AssignCell {x : Str} {px pos : Pos} {e : Expr} {Q : Fl → Loc → AH → Prop} (h : Ev G fs r env m (eval e env) H (KAsg Q m x) E) (hap : env.cells.Pairwise fun x y => x.2 ≠ y.2) (hx : (env.cells.lookup x).isSome = true)
    (hl : env.kindOf x = some .cell := by rfl) (hs : swapsWith e (some (.Name x px)) pos.line env = pure false := by rfl) (hk : env.scope.kind = .function := by rfl) :
    Ex G fs r env m (exec (.Assign [.Name x px] e pos) env) H Q E := fun A s a b c => by
  refine wpAny_Assign_Name (wpAny_mono (h A s a b c) ?_ fun u' u' z => exX c z) hs
  first | refine qv fun v s₁ x H₁ a₁ v₁ q => ?_ | refine ql fun v s₁ x H₁ a₁ v₁ q => ?_ | rintro v s₁ ⟨x, H₁, a₁, v₁, q⟩
  exact store_cell a₁.1 (c.keep a₁.2) v₁ hk hl hx hap fun s' a' c' => ⟨.next, _, H₁, a₁.x.trans a', c', .next, q⟩

theorem bindC_rel {h : Heap} {H : AH} {kd : Str → Option NameKind} {ps : List Str} {vs : List V} {cs : List Value} {m : Loc} {mc cm : Str → Option Value}
    (rv : RVs h H vs cs) (hm : ∀ x v, m x = some v → ∃ c, (if kd x = some .local then mc x else cm x) = some c ∧ RV h H v c) (x : Str) (v : V) (e : locs ps vs m x = some v) :
    ∃ c, (if kd x = some .local then bindL kd (ps.zip cs) mc x else bindC kd (ps.zip cs) cm x) = some c ∧ RV h H v c := by
  induction ps generalizing vs cs m mc cm with
  | nil => exact hm x v e
  | cons p ps ih =>
    cases rv with
    | nil => exact hm x v e
    | @cons w d vs cs a r =>
      rw [List.zip_cons_cons]
      unfold bindL bindC
      refine ih (m := put m p w) r (fun y u q => ?_) e
      unfold put at q
      by_cases z : y = p
      · subst z
        rw [if_pos rfl] at q; cases q
        refine ⟨d, ?_, a⟩
        by_cases k : kd y = some .local
        · simp [k]
        · simp [k]
      · rw [if_neg z] at q
        obtain ⟨c, e1, e2⟩ := hm y u q
        refine ⟨c, ?_, e2⟩
        by_cases k : kd y = some .local
        · rw [if_pos k] at e1 ⊢
          split
          · simp [z, e1]
          · exact e1
        · rw [if_neg k] at e1 ⊢
          split
          · exact e1
          · simp [z, e1]

theorem CC_cells {f : Addr} {fo : Obj} {fd : FuncData} {body : List Stmt} {ps : List Str} {args : List V} {H : AH}
    (ho : G.K.lookup f = some fo) (hd : fo.data = .func fd) (hbody : fd.body = .stmts body) (hcode : codeIn G.K fd.code fd.qualname = true) (hclo : fd.closure = [])
    (hb : ∀ cs : List Value, cs.length = args.length → bindArgs fd ⟨cs, []⟩ = pure (ps.zip cs)) (hlen : ps.length = args.length)
    (hkd : ∀ p ∈ ps, fd.scope.names.lookup p = some .local ∨ (fd.scope.names.lookup p = some .cell ∧ ∀ n, ((cellsFrom n fd.scope.names []).lookup p).isSome = true))
    (hnd : ∀ n p, p ∈ cellsFrom n fd.scope.names [] → (cellsFrom n fd.scope.names []).lookup p.1 = some p.2)
    (h : Closed H → ∀ L, H L = none → Ex G (callEnvC fd L f :: fs) r (callEnvC fd L f) (locs ps args noLoc) (execs body (callEnvC fd L f)) H (RQ Q) E)
    (hco : fd.scope.isCoroutine = false := by rfl) (hgen : fd.scope.isGenerator = false := by rfl) (hk : fd.scope.kind = .function := by rfl) :
    CC G fs (r + 1) (.ref f) args H Q E := fun A s vf cs a b vr vs => by
  (first | (have hqv := vr.inv; clear vr; obtain ⟨_, rfl⟩ := hqv) | (have hqv := vr.inv; clear vr; obtain rfl := hqv) | cases vr)
  have hX := b.keepK
  have nones : ∀ c : Addr, s.heap.objs.size ≤ c → s.heap.get? c = none := fun c hc => by
    cases z : s.heap.get? c with
    | none => rfl
    | some o => exact absurd (Heap.lt_size z) (Nat.not_lt.mpr hc)
  have hnone : ∀ c : Addr, s.heap.get? c = none → H c = none := fun c hc => by
    cases z : H c with
    | none => rfl
    | some o => obtain ⟨ob, e⟩ := b.has z; rw [hc] at e; cases e
  have base : ∀ c : Addr, s.heap.get? c = none → G.s₀.heap.get? c = none := fun c hc => by
    cases z : G.s₀.heap.get? c with
    | none => rfl
    | some o => rw [b.base c o z] at hc; cases hc
  have hL : H s.heap.objs.size = none := hnone _ (nones _ (Nat.le_refl _))
  have fresh : G.s₀.heap.get? s.heap.objs.size = none := base _ (nones _ (Nat.le_refl _))
  refine codeAny_call_cells (fd := fd) (body := body) (binds := ps.zip cs) (by have := a.depth; show A.depth < 1000; lia) (hX _ _ ho) hd b.topK.nolimit (codeRec_of hX hcode) hbody (hb cs vs.length.symm) hclo
    (fun x hx => (hkd x.1 (List.of_mem_zip hx).1).imp id fun z => ⟨z.1, z.2 _⟩) (fun s₁ x => ?_) hco hgen hk
  obtain ⟨h₁, t₁, rfl, hk₁⟩ := x.done
  have k₁ : Keep H s.heap H h₁ := Keep.of_grow hk₁
  have cellLo : ∀ p ∈ (callEnvC fd s.heap.objs.size f).cells, s.heap.get? p.2 = none := fun p hp => nones _ (Nat.le_of_lt (x.above p.1 p.2 hp))
  have b₁ : Rel G (callEnvC fd s.heap.objs.size f :: fs) H { s with heap := h₁, toks := t₁ } := by
    have g := b.grow (t := t₁) hk₁
    exact ⟨g.base, g.off, g.objs, .cons (by show fd.scope.kind ≠ .module; rw [hk]; decide) rfl x.toInCall.ns fresh g.frames, fun env he L hf => by
      cases he with
      | head => cases hf; exact hL
      | tail _ he => exact g.foff env he L hf, g.gens, g.os⟩
  have vs₁ := vs.mono k₁
  have c₁ : LocsR G.s₀.heap (callEnvC fd s.heap.objs.size f) (locs ps args noLoc) h₁ H := by
    have R := bindC_rel (kd := (callEnvC fd s.heap.objs.size f).kindOf) (ps := ps) (m := noLoc) (mc := fun u' => none) (cm := fun u' => none) vs₁ (fun u' u' e => (nomatch e))
    have inps : ∀ x v, locs ps args noLoc x = some v → x ∈ ps := fun x v e => by
      rcases locs_rel vs₁ e with ⟨hm, _⟩ | ⟨e1, _⟩
      · exact hm
      · cases e1
    refine ⟨⟨_, x.toInCall.ns, fun y v e k => ?_⟩, fun y v e kn => ?_, hL, fun p hp => ⟨hnone _ (cellLo p hp), ?_⟩, fresh, fun p hp => base _ (cellLo p hp)⟩
    · obtain ⟨c, e1, e2⟩ := R y v e
      rw [if_pos k] at e1
      exact ⟨c, e1, e2⟩
    · obtain ⟨c, e1, e2⟩ := R y v e
      rw [if_neg kn] at e1
      rcases hkd y (inps y v e) with z | ⟨z, z2⟩
      · exact (kn z).elim
      · obtain ⟨ca, hc⟩ := Option.isSome_iff_exists.mp (z2 (s.heap.objs.size + 1))
        obtain ⟨o, q1, q2⟩ := x.cell y ca hc
        rw [e1] at q2
        exact ⟨ca, o, c, hc, q1, q2, e2⟩
    · obtain ⟨o, q1, q2⟩ := x.cell p.1 p.2 (hnd _ p hp)
      exact ⟨o, _, q1, q2⟩
  have mine : ∀ b' o, s.heap.get? b' = some o → ¬ mineX (callEnvC fd s.heap.objs.size f) b' := fun b' o e x => by
    rcases x with z | ⟨p, hp, z⟩
    · exact absurd (z ▸ Heap.lt_size e) (Nat.lt_irrefl _)
    · rw [z, cellLo p hp] at e; cases e
  have out : ∀ {H' : AH} {h' : Heap}, KeepX (mineX (callEnvC fd s.heap.objs.size f)) H h₁ H' h' → Keep H s.heap H' h' := fun {H' h'} k b' o e => by
    obtain ⟨x, y⟩ := k b' o (hk₁ b' o e)
    exact ⟨x, fun n => ⟨(y n).1, fun u' => (y n).2 fun z => (mine b' o e z).elim⟩⟩
  refine wpAny_mono (h b.closed _ hL (A.deeper (callEnvC fd s.heap.objs.size f)) _ a.deeper b₁ c₁) ?_ ?_
  · rintro fl s' ⟨fl', m', H', a', c', rf, H'', d, q⟩
    have fin : ∀ cv, RV s'.heap H' fl'.val cv → QV G fs H s Q cv s' := fun cv rv =>
      ⟨fl'.val, H'', ⟨a'.1.pop.drop d, d.keep (out a'.2)⟩, d.rv rv, q⟩
    cases rf with
    | next => exact fin _ .none
    | brk => exact fin _ .none
    | cont => exact fin _ .none
    | ret v => exact fin _ v
  · rintro e s' ⟨H', a', c', x', hE⟩
    refine Exc_leave (L := s.heap.objs.size) a.deeper a'.1 rfl (X := mineX (callEnvC fd s.heap.objs.size f)) (Hs := H) (h := h₁) a'.2 x' (fun c o e => b₁.base c o e) fun s'' b'' k'' x'' => ?_
    exact ⟨H', ⟨b''.pop, out k''⟩, x''.older fun c hc => none_of hk₁ hc, hE⟩
end
end SL12
section SL13
open PySem PySem.W PyProof.Rows
set_option tactic.hygienic false

section
variable {G : Ctx} {fs : List Env} {r : Nat} {env : Env} {m : Loc} {H : AH} {Q : V → AH → Prop} {E : AH → Prop} {i j : Int} {l k : List Nat}

/-! compare chains of two -/
abbrev KC2e (G : Ctx) (fs : List Env) (r : Nat) (env : Env) (m : Loc) (z : Expr) (o₂ : CmpOp) (b c : V) (Q : V → AH → Prop) (E : AH → Prop) : Bool → AH → Prop := fun t H => if t then Ev G fs r env m (eval z env) H (KCmp2 G fs r o₂ b Q E) E else Q c H
abbrev KC2d (G : Ctx) (fs : List Env) (r : Nat) (env : Env) (m : Loc) (z : Expr) (o₂ : CmpOp) (b : V) (Q : V → AH → Prop) (E : AH → Prop) : V → AH → Prop := fun c H => Tr G fs r c H (KC2e G fs r env m z o₂ b c Q E) E
abbrev KC2c (G : Ctx) (fs : List Env) (r : Nat) (env : Env) (m : Loc) (z : Expr) (o₁ o₂ : CmpOp) (a : V) (Q : V → AH → Prop) (E : AH → Prop) : V → AH → Prop := fun b H => COp G fs r o₁ a b H (KC2d G fs r env m z o₂ b Q E) E
abbrev KC2b (G : Ctx) (fs : List Env) (r : Nat) (env : Env) (m : Loc) (y z : Expr) (o₁ o₂ : CmpOp) (Q : V → AH → Prop) (E : AH → Prop) : V → AH → Prop := fun a H => Ev G fs r env m (eval y env) H (KC2c G fs r env m z o₁ o₂ a Q E) E
abbrev KT2e (G : Ctx) (fs : List Env) (r : Nat) (env : Env) (m : Loc) (z : Expr) (o₂ : CmpOp) (b : V) (Q : Bool → AH → Prop) (E : AH → Prop) : Bool → AH → Prop := fun t H => if t then Ev G fs r env m (eval z env) H (KCmp2 G fs r o₂ b (KTr G fs r Q E) E) E else Q false H
abbrev KT2c (G : Ctx) (fs : List Env) (r : Nat) (env : Env) (m : Loc) (z : Expr) (o₁ o₂ : CmpOp) (a : V) (Q : Bool → AH → Prop) (E : AH → Prop) : V → AH → Prop := fun b H => COp G fs r o₁ a b H (KTr G fs r (KT2e G fs r env m z o₂ b Q E) E) E
abbrev KT2b (G : Ctx) (fs : List Env) (r : Nat) (env : Env) (m : Loc) (y z : Expr) (o₁ o₂ : CmpOp) (Q : Bool → AH → Prop) (E : AH → Prop) : V → AH → Prop := fun a H => Ev G fs r env m (eval y env) H (KT2c G fs r env m z o₁ o₂ a Q E) E
theorem Ev_Compare2 {x y z : Expr} {o₁ o₂ : CmpOp} {pos : Pos} (h : Ev G fs r env m (eval x env) H (KC2b G fs r env m y z o₁ o₂ Q E) E)
    (hm : lastMarks [o₁, o₂] [y, z] = false := by with_unfolding_all rfl) : Ev G fs r env m (eval (.Compare x [o₁, o₂] [y, z] pos) env) H Q E := fun A s a b c => by
  refine Compare_chain (wpAny_mono (h A s a b c) ?_ fun u' u' z => z) hm
  first | refine qv fun va s₁ x H₁ a₁ v₁ h₁ => ?_ | refine ql fun va s₁ x H₁ a₁ v₁ h₁ => ?_ | rintro va s₁ ⟨x, H₁, a₁, v₁, h₁⟩
  refine chain_link (wpAny_mono (h₁ A s₁ a a₁.1 (c.keep a₁.2)) ?_ fun u' u' z => ex_from a₁ z)
  first | refine qv fun vb s₂ y H₂ a₂ v₂ h₂ => ?_ | refine ql fun vb s₂ y H₂ a₂ v₂ h₂ => ?_ | rintro vb s₂ ⟨y, H₂, a₂, v₂, h₂⟩
  refine wpAny_mono (h₂ A s₂ va vb a a₂.1 (v₁.mono a₂.2) v₂) ?_ fun u' u' z => ex_from (a₁.trans a₂) z
  first | refine qv fun vc s₃ z H₃ a₃ v₃ h₃ => ?_ | refine ql fun vc s₃ z H₃ a₃ v₃ h₃ => ?_ | rintro vc s₃ ⟨z, H₃, a₃, v₃, h₃⟩
  refine wpAny_mono (h₃ A s₃ vc a a₃.1 v₃) ?_ fun u' u' z => ex_from ((a₁.trans a₂).trans a₃) z
  first | refine qb fun t s₄ H₄ a₄ h₄ => ?_ | refine qu fun t s₄ H₄ a₄ h₄ => ?_ | rintro t s₄ ⟨H₄, a₄, h₄⟩
  have a' := ((a₁.trans a₂).trans a₃).trans a₄
  cases t
  · exact ⟨z, H₄, a', v₃.mono a₄.2, h₄⟩
  · refine chain_last (wpAny_mono (h₄ A s₄ a a₄.1 (c.keep a'.2)) ?_ fun u' u' z => ex_from a' z)
    first | refine qv fun vd s₅ u H₅ a₅ v₅ h₅ => ?_ | refine ql fun vd s₅ u H₅ a₅ v₅ h₅ => ?_ | rintro vd s₅ ⟨u, H₅, a₅, v₅, h₅⟩
    exact WV.from (a'.trans a₅) (h₅ A s₅ vb vd a a₅.1 (v₂.mono ((a₃.trans a₄).trans a₅).2) v₅)
theorem Ts_Compare2 {x y z : Expr} {o₁ o₂ : CmpOp} {pos : Pos} {w : Sem Value} {Q : Bool → AH → Prop} (h : Ev G fs r env m (eval x env) H (KT2b G fs r env m y z o₁ o₂ Q E) E)
    (hm : lastMarks [o₁, o₂] [y, z] = false := by with_unfolding_all rfl) : Ts G fs r env m (isTrue (.Compare x [o₁, o₂] [y, z] pos) env w) H Q E := fun A s a b c => by
  refine isTrue_chain (wpAny_mono (h A s a b c) ?_ fun u' u' z => z) hm
  first | refine qv fun va s₁ x H₁ a₁ v₁ h₁ => ?_ | refine ql fun va s₁ x H₁ a₁ v₁ h₁ => ?_ | rintro va s₁ ⟨x, H₁, a₁, v₁, h₁⟩
  refine test_link (wpAny_mono (h₁ A s₁ a a₁.1 (c.keep a₁.2)) ?_ fun u' u' z => ex_from a₁ z)
  first | refine qv fun vb s₂ y H₂ a₂ v₂ h₂ => ?_ | refine ql fun vb s₂ y H₂ a₂ v₂ h₂ => ?_ | rintro vb s₂ ⟨y, H₂, a₂, v₂, h₂⟩
  refine wpAny_mono (h₂ A s₂ va vb a a₂.1 (v₁.mono a₂.2) v₂) ?_ fun u' u' z => ex_from (a₁.trans a₂) z
  first | refine qv fun vc s₃ z H₃ a₃ v₃ h₃ => ?_ | refine ql fun vc s₃ z H₃ a₃ v₃ h₃ => ?_ | rintro vc s₃ ⟨z, H₃, a₃, v₃, h₃⟩
  refine wpAny_mono (h₃ A s₃ vc a a₃.1 v₃) ?_ fun u' u' z => ex_from ((a₁.trans a₂).trans a₃) z
  first | refine qb fun t s₄ H₄ a₄ h₄ => ?_ | refine qu fun t s₄ H₄ a₄ h₄ => ?_ | rintro t s₄ ⟨H₄, a₄, h₄⟩
  have a' := ((a₁.trans a₂).trans a₃).trans a₄
  cases t
  · exact ⟨H₄, a', h₄⟩
  · refine test_last (wpAny_mono (h₄ A s₄ a a₄.1 (c.keep a'.2)) ?_ fun u' u' z => ex_from a' z)
    first | refine qv fun vd s₅ u H₅ a₅ v₅ h₅ => ?_ | refine ql fun vd s₅ u H₅ a₅ v₅ h₅ => ?_ | rintro vd s₅ ⟨u, H₅, a₅, v₅, h₅⟩
    refine wpAny_mono (h₅ A s₅ vb vd a a₅.1 (v₂.mono ((a₃.trans a₄).trans a₅).2) v₅) ?_ fun u' u' z => ex_from (a'.trans a₅) z
    first | refine qv fun vc' s₆ u' H₆ a₆ v₆ h₆ => ?_ | refine ql fun vc' s₆ u' H₆ a₆ v₆ h₆ => ?_ | rintro vc' s₆ ⟨u', H₆, a₆, v₆, h₆⟩
    exact bool_from ((a'.trans a₅).trans a₆) (h₆ A s₆ vc' a a₆.1 v₆)

/-! slices -/
def cut {α : Type} (l : List α) (lo hi : Option Nat) : List α := match hi with
  | none => l.drop (lo.getD 0)
  | some b => (l.take b).drop (lo.getD 0)
theorem cut_eq {α : Type} (l : List α) (a b : Nat) : (l.drop (min a l.length)).take (min b l.length - min a l.length) = (l.take b).drop a := by
  rw [List.drop_take]
  rcases Nat.le_total a l.length with h | h
  · rw [Nat.min_eq_left h]
    rcases Nat.le_total b l.length with h' | h'
    · rw [Nat.min_eq_left h']
    · rw [Nat.min_eq_right h', List.take_of_length_le (by simp), List.take_of_length_le (by simp; lia)]
  · rw [Nat.min_eq_right h, List.drop_of_length_le (Nat.le_refl _), List.drop_of_length_le h]; simp
theorem cut_len {α : Type} (l : List α) (lo hi : Option Nat) : (cut l lo hi).length ≤ l.length := by
  unfold cut; split <;> simp <;> lia
theorem clip_nat (x : Nat) (n : Nat) : max (0 : Int) (min (if (x : Int) < 0 then (x : Int) + n else x) n) = ((min x n : Nat) : Int) := by
  rw [if_neg (by lia)]; lia
open Builtin Builtin.Str in
set_option tactic.hygienic true in
theorem idx_eq (l : List Nat) (lo hi : Option Nat) : (strSliceIndices (lo.map Int.ofNat) (hi.map Int.ofNat) 1 l.length).filterMap (l[·]?) = cut l lo hi ∧ (strSliceIndices (lo.map Int.ofNat) (hi.map Int.ofNat) 1 l.length).length = (cut l lo hi).length := by
  have go : ∀ a b : Nat, a ≤ l.length → b ≤ l.length → (sliceRange (a : Int) (b : Int) 1).filterMap (l[·]?) = (l.drop a).take (b - a) ∧ (sliceRange (a : Int) (b : Int) 1).length = ((l.drop a).take (b - a)).length := fun a b ha hb => by
    rw [sliceRange_one]
    refine ⟨?_, by simp; lia⟩
    by_cases h : a ≤ b
    · exact StrLaws.picks l (b - a) a (by lia)
    · have : b - a = 0 := by lia
      rw [this]; simp
  have fin : ∀ a b : Nat, a ≤ l.length → b ≤ l.length → ∀ c, (l.drop a).take (b - a) = c → (sliceRange (a : Int) (b : Int) 1).filterMap (l[·]?) = c ∧ (sliceRange (a : Int) (b : Int) 1).length = c.length := fun a b ha hb c e => e ▸ go a b ha hb
  have e1 : ∀ x : Nat, max (0 : Int) (min (if (Int.ofNat x) < 0 then Int.ofNat x + (l.length : Int) else Int.ofNat x) l.length) = ((min x l.length : Nat) : Int) := fun x => clip_nat x l.length
  unfold strSliceIndices cut
  cases lo <;> cases hi <;> simp only [Option.map_some, Option.map_none, show ((1 : Int) > 0) = True from by simp, if_true, Option.getD_none, Option.getD_some, e1]
  · exact fin 0 l.length (Nat.zero_le _) (Nat.le_refl _) _ (by simp)
  · rename_i b
    refine fin 0 (min b l.length) (Nat.zero_le _) (Nat.min_le_right _ _) _ ?_
    have := cut_eq l 0 b
    simpa using this
  · rename_i a
    refine fin (min a l.length) l.length (Nat.min_le_right _ _) (Nat.le_refl _) _ ?_
    have := cut_eq l a l.length
    rw [Nat.min_self, List.take_of_length_le (Nat.le_refl _)] at this
    exact this
  · rename_i a b
    exact fin (min a l.length) (min b l.length) (Nat.min_le_right _ _) (Nat.min_le_right _ _) _ (cut_eq l a b)
theorem slice_eq (l : List Nat) (lo hi : Option Nat) : Txt.slice ⟨l.toArray⟩ (lo.map Int.ofNat) (hi.map Int.ofNat) = ⟨(cut l lo hi).toArray⟩ := by
  have key := (idx_eq l lo hi).1
  unfold Txt.slice
  rw [str_len]
  have e2 : ((Builtin.Str.strSliceIndices (lo.map Int.ofNat) (hi.map Int.ofNat) 1 l.length).filterMap fun x => l.toArray[x]?) = cut l lo hi := by
    rw [← key]; congr 1; funext x; simp
  split
  · rename_i h
    have hl : (Builtin.Str.strSliceIndices (lo.map Int.ofNat) (hi.map Int.ofNat) 1 l.length).length = l.length := by simpa using h
    have : cut l lo hi = l := by
      have hlen : (cut l lo hi).length = l.length := by
        rw [← (idx_eq l lo hi).2]; exact hl
      unfold cut at hlen ⊢
      cases hi with
      | none =>
        simp only [List.length_drop] at hlen ⊢
        have : l.length = 0 ∨ lo.getD 0 = 0 := by lia
        rcases this with z | z
        · rw [List.length_eq_zero_iff.mp z]; simp
        · rw [z]; rfl
      | some b =>
        simp only [List.length_drop, List.length_take] at hlen ⊢
        have : l.length = 0 ∨ (lo.getD 0 = 0 ∧ l.length ≤ b) := by lia
        rcases this with z | ⟨z, z'⟩
        · rw [List.length_eq_zero_iff.mp z]; simp
        · rw [z, List.take_of_length_le z']; rfl
    rw [this]
  · rw [e2]

abbrev KPt (Q : Option Nat → AH → Prop) : V → AH → Prop := fun v H' => ∃ n : Nat, v = .int (n : Int) ∧ Q (some n) H'
/-- a bound of a slice -/
def Pt (G : Ctx) (fs : List Env) (r : Nat) (env : Env) (m : Loc) (x : Option Expr) (H : AH) (Q : Option Nat → AH → Prop) (E : AH → Prop) : Prop := match x with
  | none => Q none H
  | some e => Ev G fs r env m (eval e env) H (KPt Q) E
theorem Pt.run {A : Around} {s : Shared} {x : Option Expr} {Q : Option Nat → AH → Prop} (h : Pt G fs r env m x H Q E) (a : AOK fs r A) (b : Rel G fs H s) (c : LocsR G.s₀.heap env m s.heap H) :
    wpAny (model G.prog G.w) A (evalPart x env) (fun v s' => (X3 fun n H' t => A3 (After G fs H s H' s') (v = partValue (n.map fun n => (Int.ofNat n, t))) (Q n H'))) (QE G fs H s E) s := by
  cases x with
  | none => exact evalPart_none_step ⟨none, H, 0, .refl b, rfl, h⟩
  | some e =>
    refine evalPart_some_step (wpAny_mono (h A s a b c) ?_ fun u' u' z => z)
    first | (refine qv fun v s₁ x H₁ a₁ v₁ hqq => ?_; obtain ⟨n, rfl, q⟩ := hqq) | (refine ql fun v s₁ x H₁ a₁ v₁ hqq => ?_; obtain ⟨n, rfl, q⟩ := hqq) | rintro v s₁ ⟨x, H₁, a₁, v₁, n, rfl, q⟩
    (first | (have hqv := v₁.inv; clear v₁; obtain ⟨_, rfl⟩ := hqv) | (have hqv := v₁.inv; clear v₁; obtain rfl := hqv) | cases v₁)
    exact ⟨some n, H₁, _, a₁, rfl, q⟩

/-- what a slice of a value is -/
def Sl (G : Ctx) (fs : List Env) (r : Nat) (o : V) (lo hi : Option Nat) (H : AH) (Q : V → AH → Prop) (E : AH → Prop) : Prop := match o with
  | .str l => l.length ≤ sizeLine ∧ Q (.str (cut l lo hi)) H
  | .ref a => ∃ vs, H a = some (.list vs) ∧ vs.length ≤ sizeLine ∧ ∀ D, H D = none → Q (.ref D) (upd H D (.list (cut vs lo hi)))
  | _ => False

set_option tactic.hygienic true in
theorem pick_eq (items : Array Value) (lo hi : Option Nat) : (slicePick items (lo.map Int.ofNat) (hi.map Int.ofNat) none).toList = cut items.toList lo hi := by
  rw [slicePick_plain]
  have e1 : ∀ x : Nat, clipAt items.size (Int.ofNat x) = min x items.size := fun x => clipAt_nat items.size x
  unfold cut
  have L : items.toList.length = items.size := by simp
  cases lo <;> cases hi <;> simp only [Option.map_some, Option.map_none, Option.elim, Option.getD_none, Option.getD_some, e1]
  · rw [List.drop_zero, List.take_of_length_le (by simp)]
  · rename_i b
    have := cut_eq items.toList 0 b
    rw [L] at this
    simpa using this
  · rename_i a
    have := cut_eq items.toList a items.size
    rw [L, Nat.min_self, List.take_of_length_le (Nat.le_of_eq L)] at this
    exact this
  · rename_i a b
    have := cut_eq items.toList a b
    rw [L] at this
    simpa using this
theorem RVs.cut {h : Heap} {vs : List V} {cs : List Value} (x : RVs h H vs cs) (lo hi : Option Nat) : RVs h H (Mine.cut vs lo hi) (Mine.cut cs lo hi) := by
  unfold Mine.cut
  cases hi with
  | none => exact x.drop _
  | some b => exact (x.take b).drop _

abbrev KSl3 (G : Ctx) (fs : List Env) (r : Nat) (o : V) (lo : Option Nat) (Q : V → AH → Prop) (E : AH → Prop) : Option Nat → AH → Prop := fun hi H => Sl G fs r o lo hi H Q E
abbrev KSl2 (G : Ctx) (fs : List Env) (r : Nat) (env : Env) (m : Loc) (upper : Option Expr) (o : V) (Q : V → AH → Prop) (E : AH → Prop) : Option Nat → AH → Prop := fun lo H => Pt G fs r env m upper H (KSl3 G fs r o lo Q E) E
abbrev KSl1 (G : Ctx) (fs : List Env) (r : Nat) (env : Env) (m : Loc) (lower upper : Option Expr) (Q : V → AH → Prop) (E : AH → Prop) : V → AH → Prop := fun o H => Pt G fs r env m lower H (KSl2 G fs r env m upper o Q E) E
theorem Ev_Slice {value : Expr} {lower upper : Option Expr} {p pos : Pos} (h : Ev G fs r env m (eval value env) H (KSl1 G fs r env m lower upper Q E) E)
    (hs : ∀ o i, subscripted (.Slice lower upper none p) false o i = operate [i, o] (getItem o i) := by intros; with_unfolding_all rfl) : Ev G fs r env m (eval (.Subscript value (.Slice lower upper none p) pos) env) H Q E := fun A s a b c => by
  refine Subscript_ (wpAny_mono (h A s a b c) ?_ fun u' u' z => z)
  first | refine qv fun co s₁ o H₁ a₁ v₁ h₁ => ?_ | refine ql fun co s₁ o H₁ a₁ v₁ h₁ => ?_ | rintro co s₁ ⟨o, H₁, a₁, v₁, h₁⟩
  refine wpAny_Slice (wpAny_mono (Pt.run h₁ a a₁.1 (c.keep a₁.2)) ?_ fun u' u' z => ex_from a₁ z)
  first | (refine qv fun u' s₂ lo H₂ t₂ a₂ hqq => ?_; obtain ⟨rfl, h₂⟩ := hqq) | (refine ql fun u' s₂ lo H₂ t₂ a₂ hqq => ?_; obtain ⟨rfl, h₂⟩ := hqq) | rintro _ s₂ ⟨lo, H₂, t₂, a₂, rfl, h₂⟩
  have a' := a₁.trans a₂
  refine wpAny_mono (Pt.run h₂ a a₂.1 (c.keep a'.2)) ?_ fun u' u' z => ex_from a' z
  first | (refine qv fun u' s₃ hi H₃ t₃ a₃ hqq => ?_; obtain ⟨rfl, h₃⟩ := hqq) | (refine ql fun u' s₃ hi H₃ t₃ a₃ hqq => ?_; obtain ⟨rfl, h₃⟩ := hqq) | rintro _ s₃ ⟨hi, H₃, t₃, a₃, rfl, h₃⟩
  have a'' := a'.trans a₃
  refine evalPart_none_step ?_
  have v₃ := v₁.mono (a₂.trans a₃).2
  have P₃ : After G fs H₃ s₃ H₃ { s₃ with heap := s₃.heap.push { cls := .type "slice", data := .fields #[partValue (lo.map fun n => (Int.ofNat n, t₂)), partValue (hi.map fun n => (Int.ofNat n, t₃)), .none] } } := After.push (t := s₃.toks) a₃.1
  have em : ∀ (x : Option Nat) (t : Tok), (x.map fun n => (Int.ofNat n, t)).map (·.1) = x.map Int.ofNat := fun x t => by cases x <;> rfl
  cases v₃ with
  | str l t =>
    refine tail_any (T := "str") (typeIs_str _ _ _) F.slot_str_getitem.lookup (wpAny_getItem_str_slice (l := lo.map fun n => (Int.ofNat n, t₂)) (u := hi.map fun n => (Int.ofNat n, t₃)) (st := none) ⟨_, Heap.get?_push_size _ rfl, rfl, rfl⟩ rfl
      (post_val_or_str ⟨?_, fun t' k => ?_⟩)) (hs _ _)
    · show (if _ then _ else _ : Str).length ≤ _
      unfold slicePicked
      rw [em, em]
      have := Txt.slice_le ⟨l.toArray⟩ (lo.map Int.ofNat) (hi.map Int.ofNat)
      refine Nat.le_trans this ?_
      rw [str_len]; exact h₃.1
    · unfold slicePicked
      rw [em, em]
      have e : (if ((1 : Int) == 1 && (Builtin.Str.strSliceIndices (lo.map Int.ofNat) (hi.map Int.ofNat) 1 (⟨l.toArray⟩ : Str).length).length == (⟨l.toArray⟩ : Str).length) = true then (⟨l.toArray⟩ : Str) else ⟨((Builtin.Str.strSliceIndices (lo.map Int.ofNat) (hi.map Int.ofNat) 1 (⟨l.toArray⟩ : Str).length).filterMap ((⟨l.toArray⟩ : Str).cps[·]?)).toArray⟩) = ⟨(cut l lo hi).toArray⟩ := slice_eq l lo hi
      refine ⟨.str (cut l lo hi), H₃, (a''.trans P₃).trans (After.toks P₃.1), ?_, h₃.2⟩
      show RV _ _ _ (.str (if ((1 : Int) == 1 && (Builtin.Str.strSliceIndices (lo.map Int.ofNat) (hi.map Int.ofNat) 1 (⟨l.toArray⟩ : Str).length).length == (⟨l.toArray⟩ : Str).length) = true then (⟨l.toArray⟩ : Str) else ⟨((Builtin.Str.strSliceIndices (lo.map Int.ofNat) (hi.map Int.ofNat) 1 (⟨l.toArray⟩ : Str).length).filterMap ((⟨l.toArray⟩ : Str).cps[·]?)).toArray⟩) t')
      rw [e]; exact .str _ _
  | ref la =>
    refine byc fun hnn => ?_
    obtain ⟨vs, hl, hz, q⟩ := h₃
    refine hnn ?_; clear hnn
    refine byc fun hnn => ?_
    obtain ⟨items, n, e, rs, L⟩ := list_of P₃.1 hl
    refine hnn ?_; clear hnn
    have z1 : items.size = vs.length := by rw [rs.length]; simp
    have pv : ∀ (x : Option Nat) (t : Tok), IsPart (partValue (x.map fun n => (Int.ofNat n, t))) (x.map Int.ofNat) := fun x t => by
      cases x
      · exact .none
      · exact .int _ _
    refine tail_any (T := "list") L.typeIs slot_list_getitem.lookup (wpAny_getItem_list_slice L (Heap.IsSliceOf.new ..) (pv lo t₂) (pv hi t₃) .none (by simp) ?_ (by lia)) (hs _ _)
    have n₃ := P₃.1.freeSize
    refine ⟨.ref _, _, (a''.trans P₃).trans (After.new (t := s₃.toks) (o := .list (Mine.cut vs lo hi)) P₃.1 push_keep size_none ⟨_, 0, Heap.get?_push_size _ rfl, ?_⟩), .ref _, q _ n₃⟩
    rw [pick_eq]
    exact (rs.cut lo hi).mono (X := fun u' => False) (Keep.of_new push_keep size_none)
  | _ => exact h₃.elim

/-! items -/
theorem GetI_last {la : Addr} {vs : List V} {v : V} (hl : H la = some (.list vs)) (hc : vs.getLast? = some v) (hz : vs.length < 2 ^ 60) (h : Q v H) : GetI G fs r (.ref la) (.int (-1)) H Q E := fun A s co ci a b v1 v2 => by
  (first | (have hqv := v1.inv; clear v1; obtain ⟨_, rfl⟩ := hqv) | (have hqv := v1.inv; clear v1; obtain rfl := hqv) | cases v1); (first | (have hqv := v2.inv; clear v2; obtain ⟨_, rfl⟩ := hqv) | (have hqv := v2.inv; clear v2; obtain rfl := hqv) | cases v2)
  refine byc fun hnn => ?_
  obtain ⟨items, nn, e, rs, L⟩ := list_of b hl
  refine hnn ?_; clear hnn
  have z1 : items.size = vs.length := by rw [rs.length]; simp
  have hc' : vs[vs.length - 1]? = some v := by rw [← List.getLast?_eq_getElem?]; exact hc
  refine byc fun hnn => ?_
  obtain ⟨y, hy, rv⟩ := rs.get hc'
  refine hnn ?_; clear hnn
  have pos : 0 < vs.length := by cases vs with | nil => cases hc | cons _ _ => simp
  refine ⟨"list", _, slot_list_getitem.lookup, L.typeIs, wpAny_getItem_list_neg L (by lia) (by lia) (by lia) ?_ ⟨v, H, .refl b, rv, h⟩⟩
  have : (-1 + (items.size : Int)).toNat = vs.length - 1 := by lia
  rw [this]; simpa using hy

theorem GetI_base {la : Addr} {vs : List Value} {cv : Value} {v : V} {n : Nat} (hl : G.s₀.heap.IsList la vs.toArray) (hr : 0 ≤ i ∧ i < 2 ^ 62) (hn : i.toNat = n) (hc : vs[n]? = some cv) (rv : ∀ h H, RV h H v cv) (h : Q v H) : GetI G fs r (.ref la) (.int i) H Q E := fun A s co ci a b v1 v2 => by
  (first | (have hqv := v1.inv; clear v1; obtain ⟨_, rfl⟩ := hqv) | (have hqv := v1.inv; clear v1; obtain rfl := hqv) | cases v1); (first | (have hqv := v2.inv; clear v2; obtain ⟨_, rfl⟩ := hqv) | (have hqv := v2.inv; clear v2; obtain rfl := hqv) | cases v2)
  subst hn
  have L : s.heap.IsList la vs.toArray := hl.at fun o e => b.base la o e
  exact ⟨"list", _, slot_list_getitem.lookup, L.typeIs, wpAny_getItem_list L hr.1 (by lia) (by simpa using hc) ⟨v, H, .refl b, rv _ _, h⟩⟩

set_option tactic.hygienic true in
theorem COp_in_tup {ks : List (List Nat)} (h : Q (.bool (ks.contains l)) H) : COp G fs r .In (.str l) (.tup (ks.map .str)) H Q E := fun A s va vb a b v1 v2 => by
  (first | (have hqv := v1.inv; clear v1; obtain ⟨_, rfl⟩ := hqv) | (have hqv := v1.inv; clear v1; obtain rfl := hqv) | cases v1)
  rename_i t
  obtain _ | _ | _ | _ | ⟨t1, o1, r1⟩ := v2
  rename_i a1 i1
  have str : ∀ {vs : List (List Nat)} {cs : List Value}, RVs s.heap H (vs.map .str) cs → (∀ y ∈ cs, ∃ (x : List Nat) (u : Tok), y = Value.str ⟨x.toArray⟩ u) ∧ (cs.any fun c => match c with | .str x _ => x.cps.toList == l | _ => false) = vs.contains l := by
    intro vs
    induction vs with
    | nil => intro cs q; cases q; exact ⟨(fun y hy => by cases hy), rfl⟩
    | cons x vs ih =>
      intro cs q
      cases q with
      | cons p q =>
        cases p
        refine ⟨fun y hy => ?_, by rw [List.any_cons, (ih q).2, List.contains_cons, BEq.comm (a := l)]⟩
        cases hy with
        | head => exact ⟨x, _, rfl⟩
        | tail _ hy => exact (ih q).1 y hy
  refine SeqAt.in_tupleAt (fun c => match c with | .str x _ => x.cps.toList == l | _ => false) t1 (fun y hy => ?_) ⟨_, H, .refl b, .bool _, ?_⟩
  · obtain ⟨x, u, rfl⟩ := (str r1).1 y (Array.mem_toList_iff.mpr hy)
    have := SeqAt.EqAt.str_str (A := A.in1) (s := s) ⟨x.toArray⟩ u ⟨l.toArray⟩ t
    rw [← toList_beq] at this
    exact this
  · rw [← Array.any_toList, (str r1).2]; exact h
set_option tactic.hygienic true in
theorem COp_notin_tup {ks : List (List Nat)} (h : Q (.bool (!ks.contains l)) H) : COp G fs r .NotIn (.str l) (.tup (ks.map .str)) H Q E := fun A s va vb a b v1 v2 => by
  (first | (have hqv := v1.inv; clear v1; obtain ⟨_, rfl⟩ := hqv) | (have hqv := v1.inv; clear v1; obtain rfl := hqv) | cases v1)
  rename_i t
  obtain _ | _ | _ | _ | ⟨t1, o1, r1⟩ := v2
  rename_i a1 i1
  have str : ∀ {vs : List (List Nat)} {cs : List Value}, RVs s.heap H (vs.map .str) cs → (∀ y ∈ cs, ∃ (x : List Nat) (u : Tok), y = Value.str ⟨x.toArray⟩ u) ∧ (cs.any fun c => match c with | .str x _ => x.cps.toList == l | _ => false) = vs.contains l := by
    intro vs
    induction vs with
    | nil => intro cs q; cases q; exact ⟨(fun y hy => by cases hy), rfl⟩
    | cons x vs ih =>
      intro cs q
      cases q with
      | cons p q =>
        cases p
        refine ⟨fun y hy => ?_, by rw [List.any_cons, (ih q).2, List.contains_cons, BEq.comm (a := l)]⟩
        cases hy with
        | head => exact ⟨x, _, rfl⟩
        | tail _ hy => exact (ih q).1 y hy
  refine SeqAt.notIn_tupleAt (fun c => match c with | .str x _ => x.cps.toList == l | _ => false) t1 (fun y hy => ?_) ⟨_, H, .refl b, .bool _, ?_⟩
  · obtain ⟨x, u, rfl⟩ := (str r1).1 y (Array.mem_toList_iff.mpr hy)
    have := SeqAt.EqAt.str_str (A := A.in1) (s := s) ⟨x.toArray⟩ u ⟨l.toArray⟩ t
    rw [← toList_beq] at this
    exact this
  · rw [← Array.any_toList, (str r1).2]; exact h
end
end SL13
section SL14
open PySem PySem.W PyProof.Rows
set_option tactic.hygienic false

theorem sz24 : sizeLine = 16777216 := by rw [sizeLine_eq]
/-- texts, parted -/
def joinL (c : List Nat) : List (List Nat) → List Nat
  | [] => []
  | [x] => x
  | x :: r => x ++ c ++ joinL c r
theorem joinL_eq (c : List Nat) (ps : List (List Nat)) : Str.join ⟨c.toArray⟩ (ps.map fun p => (⟨p.toArray⟩ : Str)) = ⟨(joinL c ps).toArray⟩ := by
  induction ps with
  | nil => rfl
  | cons x r ih => cases r with
    | nil => rfl
    | cons y r =>
      show (⟨x.toArray⟩ : Str) ++ ⟨c.toArray⟩ ++ Str.join ⟨c.toArray⟩ ((y :: r).map fun p => (⟨p.toArray⟩ : Str)) = _
      rw [ih, str_app, str_app]; rfl
theorem unStr (l : List Str) : l = (l.map fun p => p.cps.toList).map fun p => (⟨p.toArray⟩ : Str) := by
  induction l with
  | nil => rfl
  | cons x r ih => rw [List.map_cons, List.map_cons, ← ih]

theorem first_part {c : Nat} {x y : List Nat} {r t : List Nat} (hx : c ∉ x) (hy : c ∉ y) (e : x ++ c :: r = y ++ c :: t) : x = y ∧ r = t := by
  induction x generalizing y with
  | nil => cases y with
    | nil => exact ⟨rfl, (List.cons.inj e).2⟩
    | cons b y => exact (hy ((List.cons.inj e).1 ▸ .head _)).elim
  | cons a x ih => cases y with
    | nil => exact (hx ((List.cons.inj e).1.symm ▸ .head _)).elim
    | cons b y =>
      obtain ⟨e1, e2⟩ := List.cons.inj e
      obtain ⟨h1, h2⟩ := ih (fun h => hx (.tail _ h)) (fun h => hy (.tail _ h)) e2
      exact ⟨by rw [e1, h1], h2⟩
theorem joinL_uniq {c : Nat} {ps qs : List (List Nat)} (h1 : ps ≠ []) (h2 : qs ≠ []) (hp : ∀ p ∈ ps, c ∉ p) (hq : ∀ p ∈ qs, c ∉ p) (e : joinL [c] ps = joinL [c] qs) : ps = qs := by
  induction ps generalizing qs with
  | nil => exact (h1 rfl).elim
  | cons x r ih => cases qs with
    | nil => exact (h2 rfl).elim
    | cons y s => cases r with
      | nil => cases s with
        | nil => rw [show x = y from e]
        | cons z s =>
          have e' : x = y ++ [c] ++ joinL [c] (z :: s) := e
          exact (hp x (.head _) (by rw [e']; simp)).elim
      | cons z r => cases s with
        | nil =>
          have e' : x ++ [c] ++ joinL [c] (z :: r) = y := e
          exact (hq y (.head _) (by rw [← e']; simp)).elim
        | cons z' s =>
          have e' : x ++ c :: joinL [c] (z :: r) = y ++ c :: joinL [c] (z' :: s) := by simpa [joinL] using e
          obtain ⟨e1, e2⟩ := first_part (hp x (.head _)) (hq y (.head _)) e'
          rw [e1, ih (qs := z' :: s) (List.cons_ne_nil _ _) (List.cons_ne_nil _ _) (fun p h => hp p (.tail _ h)) (fun p h => hq p (.tail _ h)) e2]

/-- without the blanks (or other signs) behind -/
def rstripL (c : Nat) (l : List Nat) : List Nat := (l.reverse.dropWhile (· == c)).reverse
def stripL (c : Nat) (l : List Nat) : List Nat := rstripL c (l.dropWhile (· == c))

section
variable {G : Ctx} {fs : List Env} {r : Nat} {env : Env} {m : Loc} {H : AH} {Q : V → AH → Prop} {E : AH → Prop} {i j : Int} {l k : List Nat}

theorem drop_takeWhile {α : Type} (p : α → Bool) (l : List α) : l.drop (l.takeWhile p).length = l.dropWhile p := by
  induction l with
  | nil => rfl
  | cons a r ih =>
    by_cases h : p a = true
    · rw [List.takeWhile_cons_of_pos h, List.dropWhile_cons_of_pos h]; exact ih
    · rw [List.takeWhile_cons_of_neg h, List.dropWhile_cons_of_neg h]; rfl
theorem take_back {α : Type} (p : α → Bool) (l : List α) : l.take (l.length - (l.reverse.takeWhile p).length) = (l.reverse.dropWhile p).reverse := by
  have := drop_takeWhile p l.reverse
  rw [← this, List.drop_reverse, List.reverse_reverse]
theorem rstrip_eq (c : Nat) (l : List Nat) : Txt.rstripChars ⟨l.toArray⟩ ⟨#[c]⟩ = ⟨(rstripL c l).toArray⟩ := by
  unfold Txt.rstripChars
  rw [PyProof.Rows.stripBy_eq]
  apply Str.ext'
  apply Array.toList_inj.mp
  rw [StrLaws.strSub_toList]
  unfold stripLo stripHi
  simp only [Bool.false_eq_true, if_false, if_true, List.drop_zero, Nat.sub_zero]
  have e : (#[c] : Array Nat).contains = (· == c) := by funext x; by_cases z : x = c <;> simp [z]
  unfold rstripL
  rw [str_len, e]
  have := take_back (· == c) l
  simpa using this
theorem strip_eq (c : Nat) (l : List Nat) : Txt.stripChars ⟨l.toArray⟩ ⟨#[c]⟩ = ⟨(stripL c l).toArray⟩ := by
  unfold Txt.stripChars
  rw [PyProof.Rows.stripBy_eq]
  apply Str.ext'
  apply Array.toList_inj.mp
  rw [StrLaws.strSub_toList]
  unfold stripLo stripHi
  simp only [if_true]
  have e : (#[c] : Array Nat).contains = (· == c) := by funext x; by_cases z : x = c <;> simp [z]
  unfold stripL rstripL
  rw [str_len, e]
  have t := take_back (· == c) (l.dropWhile (· == c))
  rw [← drop_takeWhile (· == c) l] at t ⊢
  rw [← t, List.length_drop]
  congr 1
  exact Nat.sub_right_comm _ _ _

theorem Cl_upper (hA : ∀ c ∈ l, c < 128) (hl : l.length ≤ sizeLine) (h : Q (.str (l.map up1)) H) : Cl G fs r (.bi "str.upper") [.str l] H Q E := fun A s vf cs a b v vs => by
  (first | (have hqv := v.inv; clear v; obtain ⟨_, rfl⟩ := hqv) | (have hqv := v.inv; clear v; obtain rfl := hqv) | cases v)
  have hqv := vs.inv; clear vs; obtain ⟨_, _, rfl, v, vs⟩ := hqv
  (first | (have hqv := vs.inv; clear vs; obtain ⟨_, rfl⟩ := hqv) | (have hqv := vs.inv; clear vs; obtain rfl := hqv) | cases vs); (first | (have hqv := v.inv; clear v; obtain ⟨_, rfl⟩ := hqv) | (have hqv := v.inv; clear v; obtain rfl := hqv) | cases v)
  have e : Txt.upper ⟨l.toArray⟩ = ⟨(l.map up1).toArray⟩ := by rw [upper_ascii (by simpa using hA)]; simp
  refine SC.upper ?_ ⟨_, H, .toks b, by rw [e]; exact .str _ _, h⟩
  rw [e, str_len, List.length_map]
  unfold Builtin.Str.tooLong; exact decide_eq_false (by lia)
theorem Cl_lower (hA : ∀ c ∈ l, c < 128) (hl : l.length ≤ sizeLine) (h : Q (.str (l.map lo1)) H) : Cl G fs r (.bi "str.lower") [.str l] H Q E := fun A s vf cs a b v vs => by
  (first | (have hqv := v.inv; clear v; obtain ⟨_, rfl⟩ := hqv) | (have hqv := v.inv; clear v; obtain rfl := hqv) | cases v)
  have hqv := vs.inv; clear vs; obtain ⟨_, _, rfl, v, vs⟩ := hqv
  (first | (have hqv := vs.inv; clear vs; obtain ⟨_, rfl⟩ := hqv) | (have hqv := vs.inv; clear vs; obtain rfl := hqv) | cases vs); (first | (have hqv := v.inv; clear v; obtain ⟨_, rfl⟩ := hqv) | (have hqv := v.inv; clear v; obtain rfl := hqv) | cases v)
  have e : Txt.lower ⟨l.toArray⟩ = ⟨(l.map lo1).toArray⟩ := by rw [lower_ascii (by simpa using hA)]; simp
  refine SC.lower ?_ ⟨_, H, .toks b, by rw [e]; exact .str _ _, h⟩
  rw [e, str_len, List.length_map]
  unfold Builtin.Str.tooLong; exact decide_eq_false (by lia)
theorem Cl_strip {c : Nat} (hl : l.length ≤ sizeLine) (h : Q (.str (stripL c l)) H) : Cl G fs r (.bi "str.strip") [.str l, .str [c]] H Q E := fun A s vf cs a b v vs => by
  (first | (have hqv := v.inv; clear v; obtain ⟨_, rfl⟩ := hqv) | (have hqv := v.inv; clear v; obtain rfl := hqv) | cases v)
  have hqv := vs.inv; clear vs; obtain ⟨_, _, rfl, v, vs⟩ := hqv
  have hqv := vs.inv; clear vs; obtain ⟨_, _, rfl, v', vs⟩ := hqv
  (first | (have hqv := vs.inv; clear vs; obtain ⟨_, rfl⟩ := hqv) | (have hqv := vs.inv; clear vs; obtain rfl := hqv) | cases vs); (first | (have hqv := v.inv; clear v; obtain ⟨_, rfl⟩ := hqv) | (have hqv := v.inv; clear v; obtain rfl := hqv) | cases v); cases v'
  exact SC.stripChars (fun t' k => ⟨_, H, .toks b, by rw [show (⟨([c] : List Nat).toArray⟩ : Str) = ⟨#[c]⟩ from rfl, strip_eq]; exact .str _ _, h⟩) (by rw [str_len]; exact hl)
theorem Cl_rstrip {c : Nat} (hl : l.length ≤ sizeLine) (h : Q (.str (rstripL c l)) H) : Cl G fs r (.bi "str.rstrip") [.str l, .str [c]] H Q E := fun A s vf cs a b v vs => by
  (first | (have hqv := v.inv; clear v; obtain ⟨_, rfl⟩ := hqv) | (have hqv := v.inv; clear v; obtain rfl := hqv) | cases v)
  have hqv := vs.inv; clear vs; obtain ⟨_, _, rfl, v, vs⟩ := hqv
  have hqv := vs.inv; clear vs; obtain ⟨_, _, rfl, v', vs⟩ := hqv
  (first | (have hqv := vs.inv; clear vs; obtain ⟨_, rfl⟩ := hqv) | (have hqv := vs.inv; clear vs; obtain rfl := hqv) | cases vs); (first | (have hqv := v.inv; clear v; obtain ⟨_, rfl⟩ := hqv) | (have hqv := v.inv; clear v; obtain rfl := hqv) | cases v); cases v'
  exact SC.rstripChars (fun t' k => ⟨_, H, .toks b, by rw [show (⟨([c] : List Nat).toArray⟩ : Str) = ⟨#[c]⟩ from rfl, rstrip_eq]; exact .str _ _, h⟩) (by rw [str_len]; exact hl)

theorem RVs_strValues {h : Heap} {ps : List (List Nat)} {ts : List (Str × Tok)} (e : ts.map (·.1) = ps.map (fun p => (⟨p.toArray⟩ : Str))) : RVs h H (ps.map .str) (strValues ts) := by
  induction ps generalizing ts with
  | nil => cases ts with
    | nil => exact .nil
    | cons x t => cases e
  | cons p ps ih => cases ts with
    | nil => cases e
    | cons t ts =>
      obtain ⟨e1, e2⟩ := List.cons.inj e
      refine .cons ?_ (ih e2)
      obtain ⟨x, u⟩ := t
      obtain rfl : x = ⟨p.toArray⟩ := e1
      exact .str p u
open Builtin Builtin.Str in
set_option tactic.hygienic true in
theorem Cl_split {c : Nat} (hl : l.length + 2 ≤ sizeLine) (h : ∀ D ps, H D = none → ps ≠ [] → (∀ p ∈ ps, c ∉ p) → joinL [c] ps = l → Q (.ref D) (upd H D (.list (ps.map .str)))) : Cl G fs r (.bi "str.split") [.str l, .str [c]] H Q E := fun A s vf cs a b v vs => by
  (first | (have hqv := v.inv; clear v; obtain ⟨_, rfl⟩ := hqv) | (have hqv := v.inv; clear v; obtain rfl := hqv) | cases v)
  have hqv := vs.inv; clear vs; obtain ⟨_, _, rfl, v, vs⟩ := hqv
  have hqv := vs.inv; clear vs; obtain ⟨_, _, rfl, v', vs⟩ := hqv
  (first | (have hqv := vs.inv; clear vs; obtain ⟨_, rfl⟩ := hqv) | (have hqv := vs.inv; clear vs; obtain rfl := hqv) | cases vs); (first | (have hqv := v.inv; clear v; obtain ⟨_, rfl⟩ := hqv) | (have hqv := v.inv; clear v; obtain rfl := hqv) | cases v); cases v'
  rename_i t u
  have fin : ∀ (ts : List (Str × Tok)) (k : Nat), ts.map (·.1) = Txt.split ⟨l.toArray⟩ ⟨#[c]⟩ → QV G fs H s Q (.ref s.heap.objs.size) { s with toks := k, heap := s.heap.push { cls := .type "list", data := .seq (strValues ts).toArray } } := fun ts k e => by
    have fr := StrLaws.split_free ⟨l.toArray⟩ c
    have jn := StrLaws.join_split ⟨l.toArray⟩ ⟨#[c]⟩
    rw [← e] at fr jn
    have e' := e.trans (unStr (Txt.split ⟨l.toArray⟩ ⟨#[c]⟩))
    generalize hps : (Txt.split ⟨l.toArray⟩ ⟨#[c]⟩).map (fun p => p.cps.toList) = ps at e'
    rw [e'] at jn
    have jn' := joinL_eq [c] ps
    rw [show (⟨([c] : List Nat).toArray⟩ : Str) = ⟨#[c]⟩ from rfl, jn] at jn'
    have jl : joinL [c] ps = l := by
      have := congrArg (fun s : Str => s.cps.toList) jn'
      simpa using this.symm
    refine ⟨.ref s.heap.objs.size, _, After.new (t := k) (o := .list (ps.map .str)) b push_keep size_none ⟨_, 0, Heap.get?_push_size _ rfl, ?_⟩, .ref _, h _ ps b.freeSize ?_ (fun p hp => ?_) jl⟩
    · exact RVs_strValues e'
    · intro z
      subst z
      unfold Txt.split at hps
      split at hps
      · cases hps
      · split at hps
        · cases hps
        · rw [StrLaws.partsBetween_eq] at hps
          obtain ⟨p, q, e⟩ := StrLaws.partsFrom_ne ⟨l.toArray⟩ (⟨#[c]⟩ : Str).length 0 (occurrences ⟨l.toArray⟩ ⟨#[c]⟩ 0 (⟨l.toArray⟩ : Str).length ((⟨l.toArray⟩ : Str).length + 1))
          rw [e] at hps; cases hps
    · rw [e'] at fr
      have := fr ⟨p.toArray⟩ (List.mem_map.mpr ⟨p, hp, rfl⟩)
      simpa using this
  have hx : (⟨l.toArray⟩ : Str).length ≤ sizeLine := by rw [str_len]; lia
  cases h1 : (decide ((⟨l.toArray⟩ : Str).length < (⟨#[c]⟩ : Str).length) || decide (strKind ⟨l.toArray⟩ < strKind ⟨#[c]⟩))
  · cases hf : (occurrences ⟨l.toArray⟩ ⟨#[c]⟩ 0 (⟨l.toArray⟩ : Str).length ((⟨l.toArray⟩ : Str).length + 1)).isEmpty
    · have hn : (partsBetween ⟨l.toArray⟩ (occurrences ⟨l.toArray⟩ ⟨#[c]⟩ 0 (⟨l.toArray⟩ : Str).length ((⟨l.toArray⟩ : Str).length + 1)) (⟨#[c]⟩ : Str).length).length ≤ sizeLine := by
        have := StrLaws.occ_length_le ⟨l.toArray⟩ ⟨#[c]⟩ 0 (⟨l.toArray⟩ : Str).length ((⟨l.toArray⟩ : Str).length + 1)
        have e : (⟨l.toArray⟩ : Str).length = l.length := str_len l
        unfold partsBetween
        simp only [List.length_map, List.length_zip, List.length_cons, List.length_append, List.length_nil]
        lia
      refine call_meets F.slot_str_split (typeIs_str _ _ _) F.entry_str_split (F.args_str_split_2 _ _) (meets_str_split_sep ⟨l.toArray⟩ ⟨#[c]⟩ t u h1 rfl hf hx hn) ?_
      show wants _ _ _ { s with toks := _, heap := s.heap.push { cls := .type "list", data := .seq (strsFrom s.toks (partsBetween ⟨l.toArray⟩ (occurrences ⟨l.toArray⟩ ⟨#[c]⟩ 0 (⟨l.toArray⟩ : Str).length ((⟨l.toArray⟩ : Str).length + 1)) (⟨#[c]⟩ : Str).length)).toArray } }
      rw [strsFrom_eq]
      exact fin (numbered s.toks _) _ ((numbered_texts _ _).trans ((if_neg (ne_true_of_eq_false h1)).trans (if_neg (ne_true_of_eq_false hf))).symm)
    · exact call_meets F.slot_str_split (typeIs_str _ _ _) F.entry_str_split (F.args_str_split_2 _ _) (meets_str_split_not_found ⟨l.toArray⟩ ⟨#[c]⟩ t u h1 rfl hf)
        (fin [(⟨l.toArray⟩, t)] s.toks ((if_neg (ne_true_of_eq_false h1)).trans (if_pos hf)).symm)
  · exact call_meets F.slot_str_split (typeIs_str _ _ _) F.entry_str_split (F.args_str_split_2 _ _) (meets_str_split_cannot_occur ⟨l.toArray⟩ ⟨#[c]⟩ t u h1)
      (fin [(⟨l.toArray⟩, t)] s.toks (if_pos h1).symm)

set_option tactic.hygienic true in
theorem Cl_join {la : Addr} {ps : List (List Nat)} (h1 : H la = some (.list (ps.map .str))) (hz : (ps.map (·.length)).sum + ps.length * l.length ≤ sizeLine) (h : Q (.str (joinL l ps)) H) : Cl G fs r (.bi "str.join") [.str l, .ref la] H Q E := fun A s vf cs a b v vs => by
  (first | (have hqv := v.inv; clear v; obtain ⟨_, rfl⟩ := hqv) | (have hqv := v.inv; clear v; obtain rfl := hqv) | cases v)
  have hqv := vs.inv; clear vs; obtain ⟨_, _, rfl, v, vs⟩ := hqv
  have hqv := vs.inv; clear vs; obtain ⟨_, _, rfl, v', vs⟩ := hqv
  (first | (have hqv := vs.inv; clear vs; obtain ⟨_, rfl⟩ := hqv) | (have hqv := vs.inv; clear vs; obtain rfl := hqv) | cases vs); (first | (have hqv := v.inv; clear v; obtain ⟨_, rfl⟩ := hqv) | (have hqv := v.inv; clear v; obtain rfl := hqv) | cases v); cases v'
  refine byc fun hnn => ?_
  obtain ⟨items, n, e, rs, L⟩ := list_of b h1
  refine hnn ?_; clear hnn
  have : ∀ {ps : List (List Nat)} {cs : List Value}, RVs s.heap H (ps.map .str) cs → ∃ ts : List (Str × Tok), strValues ts = cs ∧ ts.map (·.1) = ps.map fun p => (⟨p.toArray⟩ : Str) := by
    intro ps
    induction ps with
    | nil => intro cs q; cases q; exact ⟨[], rfl, rfl⟩
    | cons p ps ih =>
      intro cs q
      cases q with
      | cons x q =>
        cases x
        rename_i tk
        refine byc fun hnn => ?_
        obtain ⟨ts, e1, e2⟩ := ih q
        refine hnn ?_; clear hnn
        exact ⟨(⟨p.toArray⟩, tk) :: ts, by rw [← e1]; rfl, by rw [List.map_cons, e2]; rfl⟩
  refine byc fun hnn => ?_
  obtain ⟨ts, e1, e2⟩ := this rs
  refine hnn ?_; clear hnn
  have L' : s.heap.IsList la (strValues ts).toArray := by rw [e1]; simpa using L
  have ok : JoinOk ⟨l.toArray⟩ (ps.map fun p => (⟨p.toArray⟩ : Str)) = true := by
    unfold JoinOk
    rw [StrLaws.joinTotal]
    have : ((ps.map fun p => (⟨p.toArray⟩ : Str)).map (·.length)) = ps.map (·.length) := by simp [Str.length]
    rw [this, List.length_map, str_len]
    unfold Builtin.Str.tooLong
    rw [decide_eq_false (by lia)]; rfl
  refine SC.join L' e2 ok fun t' k => ⟨_, H, .toks b, ?_, h⟩
  have : Txt.join ⟨l.toArray⟩ (ps.map fun p => (⟨p.toArray⟩ : Str)) = ⟨(joinL l ps).toArray⟩ := by
    unfold Txt.join
    rw [StrLaws.glued_eq_join, joinL_eq]
  rw [this]; exact .str _ _

open Builtin Builtin.Str in
set_option tactic.hygienic true in
/-- a replace where there is nothing to replace -/
theorem Cl_replace_none {c : Nat} {r' : List Nat} {k : List Nat} (hc : c ∉ l) (h : Q (.str l) H) : Cl G fs r (.bi "str.replace") [.str l, .str (c :: r'), .str k] H Q E := fun A s vf cs a b v vs => by
  (first | (have hqv := v.inv; clear v; obtain ⟨_, rfl⟩ := hqv) | (have hqv := v.inv; clear v; obtain rfl := hqv) | cases v)
  have hqv := vs.inv; clear vs; obtain ⟨_, _, rfl, v, vs⟩ := hqv
  have hqv := vs.inv; clear vs; obtain ⟨_, _, rfl, v', vs⟩ := hqv
  have hqv := vs.inv; clear vs; obtain ⟨_, _, rfl, v'', vs⟩ := hqv
  (first | (have hqv := vs.inv; clear vs; obtain ⟨_, rfl⟩ := hqv) | (have hqv := vs.inv; clear vs; obtain rfl := hqv) | cases vs); (first | (have hqv := v.inv; clear v; obtain ⟨_, rfl⟩ := hqv) | (have hqv := v.inv; clear v; obtain rfl := hqv) | cases v); cases v'; cases v''
  rename_i t u w
  have emp : (occurrences ⟨l.toArray⟩ ⟨(c :: r').toArray⟩ 0 (⟨l.toArray⟩ : Str).length ((⟨l.toArray⟩ : Str).length + 1)) = [] := by
    obtain ⟨f, hG, hn⟩ := StrLaws.occ_tight ⟨l.toArray⟩ ⟨(c :: r').toArray⟩ (by rw [str_len]; simp)
    cases q : (occurrences ⟨l.toArray⟩ ⟨(c :: r').toArray⟩ 0 (⟨l.toArray⟩ : Str).length ((⟨l.toArray⟩ : Str).length + 1)) with
    | nil => rfl
    | cons d rest =>
      rw [q] at hG
      have hA := hG.2.1.2
      rw [StrLaws.subAt_eq] at hA
      have hA := eq_of_beq hA
      rw [str_len] at hA
      have hA : (l.drop d).take (r'.length + 1) = c :: r' := by simpa using hA
      have : c ∈ l := List.mem_of_mem_drop (List.mem_of_mem_take (by rw [hA]; exact .head _))
      exact (hc this).elim
  refine call_gives F.slot_str_replace (typeIs_str _ _ _) F.entry_str_replace (F.args_str_replace_3 _ _ _) (gives_str_replace ⟨l.toArray⟩ ⟨(c :: r').toArray⟩ ⟨k.toArray⟩ t u w (by rw [emp]; intro z; cases z)) ?_
  rw [emp]
  exact ⟨_, H, .refl b, .str _ _, h⟩

/-! other builtins -/
theorem Cl_min (h : Q (.int (if j < i then j else i)) H) : Cl G fs r (.bi "min") [.int i, .int j] H Q E := fun A s vf cs a b v vs => by
  (first | (have hqv := v.inv; clear v; obtain ⟨_, rfl⟩ := hqv) | (have hqv := v.inv; clear v; obtain rfl := hqv) | cases v)
  have hqv := vs.inv; clear vs; obtain ⟨_, _, rfl, v, vs⟩ := hqv
  have hqv := vs.inv; clear vs; obtain ⟨_, _, rfl, v', vs⟩ := hqv
  (first | (have hqv := vs.inv; clear vs; obtain ⟨_, rfl⟩ := hqv) | (have hqv := vs.inv; clear vs; obtain rfl := hqv) | cases vs); (first | (have hqv := v.inv; clear v; obtain ⟨_, rfl⟩ := hqv) | (have hqv := v.inv; clear v; obtain rfl := hqv) | cases v); cases v'
  refine min_two_ints a.handled fun h' tk hk => ⟨_, H, After.grow b hk, ?_, h⟩
  split <;> exact .int _ _
theorem Cl_str_int {n : Nat} (hn : n < 2 ^ 60) (h : Q (.str ((toString (n : Int)).toList.map Char.toNat)) H) : Cl G fs r (.ty "str") [.int n] H Q E := fun A s vf cs a b v vs => by
  (first | (have hqv := v.inv; clear v; obtain ⟨_, rfl⟩ := hqv) | (have hqv := v.inv; clear v; obtain rfl := hqv) | cases v)
  have hqv := vs.inv; clear vs; obtain ⟨_, _, rfl, v, vs⟩ := hqv
  (first | (have hqv := vs.inv; clear vs; obtain ⟨_, rfl⟩ := hqv) | (have hqv := vs.inv; clear vs; obtain rfl := hqv) | cases vs); (first | (have hqv := v.inv; clear v; obtain ⟨_, rfl⟩ := hqv) | (have hqv := v.inv; clear v; obtain rfl := hqv) | cases v)
  refine P.str_of_int ?_ ⟨_, H, .toks b, ?_, h⟩
  · have : ((n : Int)).natAbs = n := rfl
    rw [this]
    have : n.log2 < 60 := by
      by_cases z : n = 0
      · subst z; decide
      · exact (Nat.log2_lt z).mpr hn
    lia
  · show RV _ _ _ (.str (Str.ofString (toString (n : Int))) _)
    rw [Str.ofString_eq_toList]; exact .str _ _
theorem Cl_int (h : Q (.int i) H) : Cl G fs r (.ty "int") [.int i] H Q E := fun A s vf cs a b v vs => by
  (first | (have hqv := v.inv; clear v; obtain ⟨_, rfl⟩ := hqv) | (have hqv := v.inv; clear v; obtain rfl := hqv) | cases v)
  have hqv := vs.inv; clear vs; obtain ⟨_, _, rfl, v, vs⟩ := hqv
  (first | (have hqv := vs.inv; clear vs; obtain ⟨_, rfl⟩ := hqv) | (have hqv := vs.inv; clear vs; obtain rfl := hqv) | cases vs); (first | (have hqv := v.inv; clear v; obtain ⟨_, rfl⟩ := hqv) | (have hqv := v.inv; clear v; obtain rfl := hqv) | cases v)
  exact call_int_int ⟨_, H, .refl b, .int _ _, h⟩
theorem Cl_isinstance_str {v : V} (hv : (∃ l, v = .str l ∧ Q (.bool true) H) ∨ ∃ vs, v = .tup vs ∧ Q (.bool false) H) : Cl G fs r (.bi "isinstance") [v, .ty "str"] H Q E := fun A s vf cs a b v vs => by
  (first | (have hqv := v.inv; clear v; obtain ⟨_, rfl⟩ := hqv) | (have hqv := v.inv; clear v; obtain rfl := hqv) | cases v)
  have hqv := vs.inv; clear vs; obtain ⟨_, _, rfl, v, vs⟩ := hqv
  have hqv := vs.inv; clear vs; obtain ⟨_, _, rfl, v', vs⟩ := hqv
  (first | (have hqv := vs.inv; clear vs; obtain ⟨_, rfl⟩ := hqv) | (have hqv := vs.inv; clear vs; obtain rfl := hqv) | cases vs); cases v'
  rcases hv with ⟨l, rfl, h⟩ | ⟨ws, rfl, h⟩
  · (first | (have hqv := v.inv; clear v; obtain ⟨_, rfl⟩ := hqv) | (have hqv := v.inv; clear v; obtain rfl := hqv) | cases v)
    exact IsiPair.str_str ⟨_, H, .refl b, .bool _, h⟩
  · obtain _ | _ | _ | _ | ⟨t1, o1, r1⟩ := v
    refine byc fun hnn => ?_
    obtain ⟨o, e, hc, _⟩ := t1
    refine hnn ?_; clear hnn
    exact IsiPair.tuple_str e hc ⟨_, H, .toks b, .bool _, h⟩

abbrev KDr (Q : Fl → Loc → AH → Prop) (m : Loc) : V → AH → Prop := fun u' H => Q .next m H
theorem Ex_ExprAny {e : Expr} {pos : Pos} {Q : Fl → Loc → AH → Prop} (h : Ev G fs r env m (eval e env) H (KDr Q m) E) (hi : interactive env = false := by rfl) (hs : swapsWith e none pos.line env = pure false := by rfl) :
    Ex G fs r env m (exec (.Expr e pos) env) H Q E := fun A s a b c => by
  refine wpAny_Expr_any (wpAny_mono (h A s a b c) ?_ fun u' u' z => exX c z) hi hs
  first | refine qv fun v s₁ x H₁ a₁ v₁ q => ?_ | refine ql fun v s₁ x H₁ a₁ v₁ q => ?_ | rintro v s₁ ⟨x, H₁, a₁, v₁, q⟩
  exact ⟨.next, m, H₁, a₁.x, c.keep a₁.2, .next, q⟩
end
end SL14
section SL15
open PySem PySem.W PyProof.Rows
set_option tactic.hygienic false

section
variable {G : Ctx} {fs : List Env} {r : Nat} {env : Env} {m : Loc} {H : AH} {Q : V → AH → Prop} {E : AH → Prop} {i j : Int} {l k : List Nat}

/-! stores -/
def SetI (G : Ctx) (fs : List Env) (r : Nat) (o i v : V) (H : AH) (Q : AH → Prop) (E : AH → Prop) : Prop := ∀ A s co ci cv, AOK fs r A → Rel G fs H s → RV s.heap H o co → RV s.heap H i ci → RV s.heap H v cv → wpAny (model G.prog G.w) A (setItem co ci cv) (QU G fs H s Q)
    (QE G fs H s E) s
abbrev KSs3 (G : Ctx) (fs : List Env) (r : Nat) (m : Loc) (v ov : V) (Q : Fl → Loc → AH → Prop) (E : AH → Prop) : V → AH → Prop := fun iv H => SetI G fs r ov iv v H (Q .next m) E
abbrev KSs2 (G : Ctx) (fs : List Env) (r : Nat) (env : Env) (m : Loc) (i : Expr) (v : V) (Q : Fl → Loc → AH → Prop) (E : AH → Prop) : V → AH → Prop := fun ov H => Ev G fs r env m (eval i env) H (KSs3 G fs r m v ov Q E) E
abbrev KSs1 (G : Ctx) (fs : List Env) (r : Nat) (env : Env) (m : Loc) (o i : Expr) (Q : Fl → Loc → AH → Prop) (E : AH → Prop) : V → AH → Prop := fun v H => Ev G fs r env m (eval o env) H (KSs2 G fs r env m i v Q E) E
theorem Ex_AssignSub {o i e : Expr} {p pos : Pos} {Q : Fl → Loc → AH → Prop} (h : Ev G fs r env m (eval e env) H (KSs1 G fs r env m o i Q E) E)
    (hs : swapsWith e (some (.Subscript o i p)) pos.line env = pure false := by rfl) : Ex G fs r env m (exec (.Assign [.Subscript o i p] e pos) env) H Q E := fun A s a b c => by
  refine wpAny_Assign_Subscript (wpAny_mono (h A s a b c) ?_ fun u' u' z => exX c z) hs
  first | refine qv fun cv s₁ v H₁ a₁ v₁ h₁ => ?_ | refine ql fun cv s₁ v H₁ a₁ v₁ h₁ => ?_ | rintro cv s₁ ⟨v, H₁, a₁, v₁, h₁⟩
  refine wpAny_mono (h₁ A s₁ a a₁.1 (c.keep a₁.2)) ?_ fun u' u' z => exX c (ex_from a₁ z)
  first | refine qv fun co s₂ ov H₂ a₂ v₂ h₂ => ?_ | refine ql fun co s₂ ov H₂ a₂ v₂ h₂ => ?_ | rintro co s₂ ⟨ov, H₂, a₂, v₂, h₂⟩
  refine wpAny_mono (h₂ A s₂ a a₂.1 (c.keep (a₁.trans a₂).2)) ?_ fun u' u' z => exX c (ex_from (a₁.trans a₂) z)
  first | refine qv fun ci s₃ iv H₃ a₃ v₃ h₃ => ?_ | refine ql fun ci s₃ iv H₃ a₃ v₃ h₃ => ?_ | rintro ci s₃ ⟨iv, H₃, a₃, v₃, h₃⟩
  have a' := (a₁.trans a₂).trans a₃
  refine wpAny_mono (h₃ A s₃ co ci cv a a₃.1 (v₂.mono a₃.2) v₃ (v₁.mono (a₂.trans a₃).2)) ?_ fun u' u' z => exX c (ex_from a' z)
  first | refine qb fun u' s₄ H₄ a₄ h₄ => ?_ | refine qu fun u' s₄ H₄ a₄ h₄ => ?_ | rintro _ s₄ ⟨H₄, a₄, h₄⟩
  exact ⟨.next, m, H₄, (a'.trans a₄).x, c.keep (a'.trans a₄).2, .next, h₄⟩

theorem mapSeq_setAt (its : Array Value) (n j : Nat) (x : Value) : ∃ n', Obj.mapSeq (·.setIfInBounds j x) (listOf its n) = listOf (its.setIfInBounds j x) n' := ⟨_, rfl⟩

theorem setItem_at {A : Around} {la : Addr} {items : Array Value} {nn : Nat} {k : Int} {t : Tok} {v : Value} {s : Shared} {Q : Unit → Shared → Prop} {E' : Value → Shared → Prop} (e : s.heap.get? la = some (listOf items nn)) (h0 : 0 ≤ k) (hfit : k < 2 ^ 63) (hn : k < items.size)
    (hQ : ∀ n', (s.heap.update la (Obj.mapSeq (·.setIfInBounds k.toNat v))).get? la = some (listOf (items.setIfInBounds k.toNat v) n') → Q () { s with heap := s.heap.update la (Obj.mapSeq (·.setIfInBounds k.toNat v)) }) :
    wpAny (model G.prog G.w) A (setItem (.ref la) (.int k t) v) Q E' s := by
  have L : s.heap.IsList la items := ⟨_, e, rfl, nn, rfl⟩
  unfold setItem
  try with_reducible refine wpAny_holding ?_
  first | refine wpAny_bind (wpAny_pure ?_) | skip
  refine wpAny_bind (wpAny_sequenceKey L.typeIs (by decide) ?_)
  refine wpAny_bind (wpAny_callSpecial?_slot (name := Str.ofString "__setitem__") L.typeIs slot_list_setitem (wpAny_call_entry slot_list_setitem L.typeIs entry_list_setitem ?_ (args_list_setitem _ _ _)))
  show wpAny _ _ (Builtin.List.listSubscript? (.int k t) >>= _) _ _ s
  refine wpAny_bind (wpAny_listSubscript_int (fitsIndex_of h0 hfit) ?_)
  clear hfit
  obtain ⟨j, rfl⟩ := Int.eq_ofNat_of_zero_le h0
  have hj : j < items.size := by lia
  show wpAny _ _ ((seqItemAt la j >>= fun r => pure (r.map (j, ·))) >>= _) _ _ s
  refine wpAny_bind (wpAny_bind (wpAny_seqItemAt e rfl (wpAny_pure ?_)))
  rw [show items[j]? = some items[j] from Array.getElem?_eq_getElem hj]
  show wpAny _ _ (setSeqItemAt la j v >>= _) _ _ s
  refine wpAny_bind (wpAny_setSeqItemAt e rfl ?_)
  obtain ⟨n', em⟩ := mapSeq_setAt items nn j v
  have fin := hQ n' (by rw [Int.toNat_natCast, Heap.get?_update_self _ e (by rw [em]; rfl), em])
  rw [Int.toNat_natCast] at fin
  first
    | exact wpAny_bind (wpAny_pure (wpAny_pure ⟨.none, rfl, wpAny_pure fin⟩))
    | exact wpAny_pure ⟨.none, rfl, wpAny_pure fin⟩
theorem SetI_list {la : Addr} {vs : List V} {v : V} {Q : AH → Prop} (hl : H la = some (.list vs)) (h0 : 0 ≤ i ∧ i < 2 ^ 62) (hn : i.toNat < vs.length) (h : Q (upd H la (.list (vs.set i.toNat v)))) : SetI G fs r (.ref la) (.int i) v H Q E := fun A s co ci cv a b v1 v2 v3 => by
  (first | (have hqv := v1.inv; clear v1; obtain ⟨_, rfl⟩ := hqv) | (have hqv := v1.inv; clear v1; obtain rfl := hqv) | cases v1); (first | (have hqv := v2.inv; clear v2; obtain ⟨_, rfl⟩ := hqv) | (have hqv := v2.inv; clear v2; obtain rfl := hqv) | cases v2)
  refine byc fun hnn => ?_
  obtain ⟨items, nn, e, rs, L⟩ := list_of b hl
  refine hnn ?_; clear hnn
  have z1 : items.size = vs.length := by rw [rs.length]; simp
  refine setItem_at e h0.1 (by lia) (by lia) fun n' eU => ?_
  refine ⟨_, upd_list_keep (t := s.toks) b hl (Heap.SameBut.update ..) eU ?_, h⟩
  rw [Array.toList_setIfInBounds]
  exact rs.set v3 _

/-! dicts -/
theorem ro_dict {h : Heap} {d : Addr} {kvs : List (List Nat × V)} {L : List (Str × Value)} (x : h.DictOf (strKind G.prog G.w) d L) (e : L.map (·.1) = kvs.map fun p => (⟨p.1.toArray⟩ : Str)) (rs : RVs h H (kvs.map (·.2)) (L.map (·.2))) : ∃ ep, RO G h H d (.dict kvs ep) := by
  refine byc fun hnn => ?_
  obtain ⟨o, es, ep, ho, ⟨c1, c2, c3⟩, hd, hk, hp, hn⟩ := x
  refine hnn ?_; clear hnn
  refine byc fun hnn => ?_
  obtain ⟨oc, od, oda, osl⟩ := o
  refine hnn ?_; clear hnn
  simp only at c1 c2 c3 hd
  subst c1 c2 c3 hd
  refine ⟨ep, es.toList, by simpa using ho, ?_, ?_⟩
  · have hk' : ∀ en ∈ es.toList, ∃ k, (strKind G.prog G.w).is k en.key = true ∧ en.hash = (strKind G.prog G.w).hash k := fun en he => hk en (by simpa using he)
    clear hk ho hn
    generalize es.toList = l at hp hk'
    induction hp generalizing kvs with
    | nil =>
      cases kvs with
      | nil => exact .nil
      | cons _ _ => cases e
    | @cons en kv es' L' h1 h2 _ ih =>
      cases kvs with
      | nil => cases e
      | cons p kvs =>
        obtain ⟨e1, e2⟩ := List.cons.inj e
        cases rs with
        | cons a rs =>
          refine byc fun hnn => ?_
          obtain ⟨k, q1, q2⟩ := hk' en (.head _)
          refine hnn ?_; clear hnn
          refine byc fun hnn => ?_
          obtain ⟨hsh, key, val⟩ := en
          refine hnn ?_; clear hnn
          obtain ⟨p1, p2⟩ := p
          have e1 : kv.1 = ⟨p1.toArray⟩ := e1
          rw [e1] at h1
          have ek : k = ⟨p1.toArray⟩ := (strKind G.prog G.w).inj key k _ q1 h1
          subst ek
          obtain ⟨t, rfl⟩ := Value.isStrOf_shape h1
          obtain rfl : val = kv.2 := h2
          obtain rfl : hsh = PyData.keyHash G.w.params ⟨p1.toArray⟩ := q2
          exact .cons a (ih e2 rs fun en he => hk' en (.tail _ he))
  · rw [e] at hn
    have : kvs.map (fun p => (⟨p.1.toArray⟩ : Str)) = (kvs.map (·.1)).map fun l => (⟨l.toArray⟩ : Str) := by simp
    rw [this] at hn
    exact List.Pairwise.of_map _ (fun x y hxy hz => hxy (by rw [hz])) hn

theorem dict_of {s : Shared} {d : Addr} {kvs : List (List Nat × V)} {ep : Nat} (b : Rel G fs H s) (ok : H d = some (.dict kvs ep)) : ∃ L : List (Str × Value), s.heap.DictOf (strKind G.prog G.w) d L ∧ L.map (·.1) = kvs.map (fun p => (⟨p.1.toArray⟩ : Str)) ∧ RVs s.heap H (kvs.map (·.2)) (L.map (·.2)) ∧
    L.length = kvs.length := by
  refine byc fun hnn => ?_
  obtain ⟨L, h1, h2, h3⟩ := dict_at b ok
  refine hnn ?_; clear hnn
  exact ⟨L, h1.dictOf, h2, h3, by simpa using congrArg List.length h2⟩

theorem valueAt_of {h : Heap} {kvs : List (List Nat × V)} {L : List (Str × Value)} {k : List Nat} (e : L.map (·.1) = kvs.map (fun p => (⟨p.1.toArray⟩ : Str))) (rs : RVs h H (kvs.map (·.2)) (L.map (·.2))) :
    (kvs.lookup k = none → valueAt L ⟨k.toArray⟩ = none) ∧ ∀ v, kvs.lookup k = some v → ∃ c, valueAt L ⟨k.toArray⟩ = some c ∧ RV h H v c := by
  induction kvs generalizing L with
  | nil => cases L with
    | nil => exact ⟨fun u' => rfl, fun v e => nomatch e⟩
    | cons p L => cases e
  | cons p kvs ih => cases L with
    | nil => cases e
    | cons q L =>
      obtain ⟨p1, p2⟩ := p
      obtain ⟨q1, q2⟩ := q
      obtain ⟨e1, e2⟩ := List.cons.inj e
      obtain rfl : q1 = ⟨p1.toArray⟩ := e1
      cases rs with
      | cons a rs =>
        by_cases z : k = p1
        · subst z
          have e3 : valueAt ((⟨k.toArray⟩, q2) :: L) (⟨k.toArray⟩ : Str) = some q2 := by simp [valueAt]
          refine ⟨fun x => by simp [List.lookup_cons] at x, fun v x => ⟨q2, e3, ?_⟩⟩
          simp [List.lookup_cons] at x
          subst x; exact a
        · have z1 : (k == p1) = false := beq_eq_false_iff_ne.mpr z
          have z2 : ¬ ((⟨p1.toArray⟩ : Str) = ⟨k.toArray⟩) := fun y => z (by have := congrArg (fun s : Str => s.cps.toList) y; simpa using this.symm)
          have e3 : valueAt ((⟨p1.toArray⟩, q2) :: L) (⟨k.toArray⟩ : Str) = valueAt L ⟨k.toArray⟩ := by simp [valueAt, z2]
          rw [e3, List.lookup_cons, z1]; exact ih e2 rs

theorem strIs (k : List Nat) (t : Tok) : (strKind G.prog G.w).is ⟨k.toArray⟩ (.str ⟨k.toArray⟩ t) = true := beq_self_eq_true (⟨k.toArray⟩ : Str)
set_option tactic.hygienic true in
theorem GetI_dict {d : Addr} {kvs : List (List Nat × V)} {ep : Nat} {v : V} (hd : H d = some (.dict kvs ep)) (hv : kvs.lookup k = some v) (h : Q v H) : GetI G fs r (.ref d) (.str k) H Q E := fun A s co ci a b v1 v2 => by
  (first | (have hqv := v1.inv; clear v1; obtain ⟨_, rfl⟩ := hqv) | (have hqv := v1.inv; clear v1; obtain rfl := hqv) | cases v1); (first | (have hqv := v2.inv; clear v2; obtain ⟨_, rfl⟩ := hqv) | (have hqv := v2.inv; clear v2; obtain rfl := hqv) | cases v2)
  rename_i t
  refine byc fun hnn => ?_
  obtain ⟨L, h1, h2, h3, h4⟩ := dict_of b hd
  refine hnn ?_; clear hnn
  refine byc fun hnn => ?_
  obtain ⟨c, e, rv⟩ := (valueAt_of h2 h3).2 v hv
  refine hnn ?_; clear hnn
  exact ⟨"dict", _, slot_dict_getitem.lookup, h1.typeIs, wpAny_getItem_of (strIs k t) h1.mapOf e ⟨v, H, .toks b, rv, h⟩⟩
set_option tactic.hygienic true in
set_option tactic.hygienic true in
theorem COp_notin_dict {d : Addr} {kvs : List (List Nat × V)} {ep : Nat} (hd : H d = some (.dict kvs ep)) (hm : (d == sysModules) = false) (h : Q (.bool (!(kvs.lookup k).isSome)) H) : COp G fs r .NotIn (.str k) (.ref d) H Q E := fun A s va vb a b v1 v2 => by
  (first | (have hqv := v1.inv; clear v1; obtain ⟨_, rfl⟩ := hqv) | (have hqv := v1.inv; clear v1; obtain rfl := hqv) | cases v1); (first | (have hqv := v2.inv; clear v2; obtain ⟨_, rfl⟩ := hqv) | (have hqv := v2.inv; clear v2; obtain rfl := hqv) | cases v2)
  rename_i t
  refine byc fun hnn => ?_
  obtain ⟨L, h1, h2, h3, h4⟩ := dict_of b hd
  refine hnn ?_; clear hnn
  refine wpAny_notIn_of (strIs k t) hm h1.mapOf ⟨_, H, .toks b, .bool _, ?_⟩
  have : (valueAt L (⟨k.toArray⟩ : Str)).isSome = (kvs.lookup k).isSome := by
    cases q : kvs.lookup k with
    | none => rw [(valueAt_of h2 h3).1 q]; rfl
    | some v => obtain ⟨c, e, _⟩ := (valueAt_of h2 h3).2 v q; rw [e]; rfl
  rw [this]; exact h

theorem stored_fresh {K : Type} [DecidableEq K] {L : List (K × Value)} {x : K} {v : Value} (n : x ∉ L.map (·.1)) : stored L x v = L ++ [(x, v)] := by
  unfold stored
  rw [if_neg]
  intro z
  obtain ⟨p, hp, e⟩ := List.any_eq_true.mp z
  exact n (List.mem_map.mpr ⟨p, hp, of_decide_eq_true e⟩)
theorem key_notin {kvs : List (List Nat × V)} {L : List (Str × Value)} (e : L.map (·.1) = kvs.map fun p => (⟨p.1.toArray⟩ : Str)) (n : k ∉ kvs.map (·.1)) : (⟨k.toArray⟩ : Str) ∉ L.map (·.1) := by
  rw [e]
  intro z
  obtain ⟨p, hp, e'⟩ := List.mem_map.mp z
  have := congrArg (fun s : Str => s.cps.toList) e'
  exact n (List.mem_map.mpr ⟨p, hp, by simpa using this⟩)

/-- a dict of ours is changed -/
theorem After.dict {s : Shared} {h' : Heap} {t : Nat} {d : Addr} {kvs kvs' : List (List Nat × V)} {ep : Nat} {L' : List (Str × Value)} (b : Rel G fs H s) (hs : Heap.SameBut d s.heap h') (hd : H d = some (.dict kvs ep))
    (x : h'.DictOf (strKind G.prog G.w) d L') (e : L'.map (·.1) = kvs'.map fun p => (⟨p.1.toArray⟩ : Str)) (rs : RVs s.heap H (kvs'.map (·.2)) (L'.map (·.2))) : ∃ ep', After G fs H s (upd H d (.dict kvs' ep')) { s with heap := h', toks := t } := by
  obtain ⟨ep', es, he, _⟩ := ro_dict (H := H) (h := h') (kvs := kvs') x e (by
    obtain ⟨es, e0, _⟩ := b.objs d _ hd
    have T : TupS H s.heap H h' := TupS.of e0 (fun u' u' z => by cases z) hs.extBut
    exact rs.monoT T)
  obtain ⟨ep'', es', he', q⟩ := ro_dict (H := upd H d (.dict kvs' ep')) (h := h') (kvs := kvs') x e (by
    have k : Keep H s.heap (upd H d (.dict kvs' ep')) h' := Keep.of_upd hs (by rw [hd]; simp) he
    exact rs.mono k)
  have : ep'' = ep' := by rw [he] at he'; injection he' with z; injection z with z1 z2 z3 z4; injection z3 with z5 z6; exact z6.symm
  subst this
  exact ⟨ep'', After.turn b hs hd (.inr ⟨_, _, rfl⟩) ⟨es', he', q⟩⟩

set_option tactic.hygienic true in
theorem SetI_dict {d : Addr} {kvs : List (List Nat × V)} {ep : Nat} {v : V} {Q : AH → Prop} (hd : H d = some (.dict kvs ep)) (hk : k ∉ kvs.map (·.1)) (hz : kvs.length ≤ 1000) (h : ∀ ep', Q (upd H d (.dict (kvs ++ [(k, v)]) ep'))) : SetI G fs r (.ref d) (.str k) v H Q E := fun A s co ci cv a b v1 v2 v3 => by
  (first | (have hqv := v1.inv; clear v1; obtain ⟨_, rfl⟩ := hqv) | (have hqv := v1.inv; clear v1; obtain rfl := hqv) | cases v1); (first | (have hqv := v2.inv; clear v2; obtain ⟨_, rfl⟩ := hqv) | (have hqv := v2.inv; clear v2; obtain rfl := hqv) | cases v2)
  rename_i t
  refine byc fun hnn => ?_
  obtain ⟨L, h1, h2, h3, h4⟩ := dict_of b hd
  refine hnn ?_; clear hnn
  refine wpAny_setItem_pairs (strIs k t) h1 (fun h' x hs => ?_) (by rw [sz24]; lia)
  rw [stored_fresh (key_notin h2 hk)] at x
  obtain ⟨ep', af⟩ := After.dict (t := s.toks + 1) (kvs' := kvs ++ [(k, v)]) b hs hd x (by simp [h2]) (by simpa using h3.append (.cons v3 .nil))
  exact ⟨_, af, h ep'⟩

/-- a new object is not sys.modules -/
theorem Rel.notSys {s : Shared} (b : Rel G fs H s) : (s.heap.objs.size == sysModules) = false := by
  refine byc fun hnn => ?_
  obtain ⟨o, _, _, e, _⟩ := b.topK.g
  refine hnn ?_; clear hnn
  have lt := Heap.lt_size e
  refine beq_eq_false_iff_ne.mpr fun z => ?_
  rw [z] at lt
  exact absurd lt (by decide)
/-- dict(d) -/
theorem Cl_dict_dict {d : Addr} {kvs : List (List Nat × V)} {ep : Nat} (hd : H d = some (.dict kvs ep)) (hm : (d == sysModules) = false) (hz : kvs.length ≤ 1000) (h : ∀ D ep', H D = none → (D == sysModules) = false → Q (.ref D) (upd H D (.dict kvs ep'))) : Cl G fs r (.ty "dict") [.ref d] H Q E := fun A s vf cs a b v vs => by
  (first | (have hqv := v.inv; clear v; obtain ⟨_, rfl⟩ := hqv) | (have hqv := v.inv; clear v; obtain rfl := hqv) | cases v)
  have hqv := vs.inv; clear vs; obtain ⟨_, _, rfl, v, vs⟩ := hqv
  (first | (have hqv := vs.inv; clear vs; obtain ⟨_, rfl⟩ := hqv) | (have hqv := vs.inv; clear vs; obtain rfl := hqv) | cases vs); (first | (have hqv := v.inv; clear v; obtain ⟨_, rfl⟩ := hqv) | (have hqv := v.inv; clear v; obtain rfl := hqv) | cases v)
  refine byc fun hnn => ?_
  obtain ⟨L, h1, h2, h3, h4⟩ := dict_of b hd
  refine hnn ?_; clear hnn
  refine kt_call_dict hm h1 (by rw [sz24]; lia) fun h' x hs => ?_
  have n0 := b.freeSize
  have hk : ∀ b' o, s.heap.get? b' = some o → h'.get? b' = some o := fun b' o e => (hs.2 b' (Nat.ne_of_lt (Heap.lt_size e))).trans (Heap.get?_push_of_some _ e)
  refine byc fun hnn => ?_
  obtain ⟨ep', es, he, _⟩ := ro_dict (H := H) x h2 (h3.mono (X := fun u' => False) (Keep.of_grow hk))
  refine hnn ?_; clear hnn
  refine byc fun hnn => ?_
  obtain ⟨ep'', es', he', q⟩ := ro_dict (H := upd H s.heap.objs.size (.dict kvs ep')) x h2 (h3.mono (X := fun u' => False) (Keep.of_new hk size_none))
  refine hnn ?_; clear hnn
  have : ep'' = ep' := by rw [he] at he'; injection he' with z; injection z with z1 z2 z3 z4; injection z3 with z5 z6; exact z6.symm
  subst this
  exact ⟨.ref s.heap.objs.size, _, After.new (t := s.toks) (o := .dict kvs ep'') b hk size_none ⟨es', he', q⟩, .ref _, h _ ep'' n0 b.notSys⟩

set_option tactic.hygienic true in
/-- two dicts of texts are compared -/
theorem COp_eq_dict {d d' : Addr} {kvs : List (List Nat × List Nat)} {ep ep' : Nat} (hd : H d = some (.dict (kvs.map fun p => (p.1, .str p.2)) ep)) (hd' : H d' = some (.dict (kvs.map fun p => (p.1, .str p.2)) ep')) (hm : (d == sysModules) = false) (hm' : (d' == sysModules) = false)
    (h : Q (.bool true) H) : COp G fs r .Eq (.ref d) (.ref d') H Q E := fun A s va vb a b v1 v2 => by
  (first | (have hqv := v1.inv; clear v1; obtain ⟨_, rfl⟩ := hqv) | (have hqv := v1.inv; clear v1; obtain rfl := hqv) | cases v1); (first | (have hqv := v2.inv; clear v2; obtain ⟨_, rfl⟩ := hqv) | (have hqv := v2.inv; clear v2; obtain rfl := hqv) | cases v2)
  refine byc fun hnn => ?_
  obtain ⟨L, h1, h2, h3, h4⟩ := dict_of b hd
  refine hnn ?_; clear hnn
  refine byc fun hnn => ?_
  obtain ⟨L', h1', h2', h3', h4'⟩ := dict_of b hd'
  refine hnn ?_; clear hnn
  have nd : (L'.map (·.1)).Nodup := by obtain ⟨_, _, _, _, _, _, _, _, hn⟩ := h1'; exact hn
  have key : ∀ (kvs : List (List Nat × List Nat)) (L M pre : List (Str × Value)), L.map (·.1) = kvs.map (fun p => (⟨p.1.toArray⟩ : Str)) → M.map (·.1) = kvs.map (fun p => (⟨p.1.toArray⟩ : Str)) → RVs s.heap H (kvs.map fun p => V.str p.2) (L.map (·.2)) → RVs s.heap H (kvs.map fun p => V.str p.2) (M.map (·.2)) →
      ((pre ++ M).map (·.1)).Nodup → KeqHits A.in1 s (pre ++ M) L true := by
    intro kvs
    induction kvs with
    | nil =>
      intro L M pre e1 e2 r1 r2 nd
      cases L with
      | nil => exact .nil
      | cons _ _ => cases e1
    | cons p kvs ih =>
      intro L M pre e1 e2 r1 r2 nd
      obtain _ | ⟨⟨x, u⟩, L⟩ := L
      · cases e1
      obtain _ | ⟨⟨y, w⟩, M⟩ := M
      · cases e2
      obtain ⟨q1, q2⟩ := List.cons.inj e1
      obtain ⟨q3, q4⟩ := List.cons.inj e2
      obtain rfl : x = ⟨p.1.toArray⟩ := q1
      obtain rfl : y = ⟨p.1.toArray⟩ := q3
      cases r1 with
      | cons a1 r1 => cases r2 with
        | cons a2 r2 =>
          cases a1; cases a2
          rename_i t1 t2
          have va : valueAt (pre ++ (⟨p.1.toArray⟩, .str ⟨p.2.toArray⟩ t2) :: M) (⟨p.1.toArray⟩ : Str) = some (.str ⟨p.2.toArray⟩ t2) := by
            unfold valueAt
            rw [List.find?_append]
            have : pre.find? (fun kv => decide (kv.1 = (⟨p.1.toArray⟩ : Str))) = none := by
              rw [List.find?_eq_none]
              intro z hz e
              rw [List.map_append] at nd
              have := (List.nodup_append.mp nd).2.2 z.1 (List.mem_map.mpr ⟨z, hz, rfl⟩) (⟨p.1.toArray⟩ : Str) (by simp)
              exact this (of_decide_eq_true e)
            rw [this]; simp
          have := ih L M (pre ++ [(⟨p.1.toArray⟩, .str ⟨p.2.toArray⟩ t2)]) q2 q4 r1 r2 (by simpa using nd)
          have hh := KeqHits.hit (e := true) va (by
            have := SeqAt.EqAt.str_str (A := A.in1) (s := s) ⟨p.2.toArray⟩ t1 ⟨p.2.toArray⟩ t2
            simpa using this) (by rw [List.append_cons]; exact this)
          exact hh
  have hits := key kvs L L' [] (by simpa [Function.comp_def] using h2) (by simpa [Function.comp_def] using h2') (by simpa [Function.comp_def] using h3) (by simpa [Function.comp_def] using h3') (by simpa using nd)
  refine keq_eq hm hm' h1 h1' a.room (fun u' => hits) ⟨_, H, .refl b, .bool _, ?_⟩
  have : (L.length == L'.length && true) = true := by rw [h4, h4']; simp
  rw [this]; exact h
end
end SL15
section SL16
open PySem PySem.W PyProof.Rows
set_option tactic.hygienic false

section
variable {G : Ctx} {fs : List Env} {r : Nat} {env : Env} {m : Loc} {H : AH} {Q : V → AH → Prop} {E : AH → Prop} {i j : Int} {l k : List Nat}

theorem strs_of {h : Heap} {ss : List Str} {vs : List Value} (x : StrsAre vs ss) : RVs h H (ss.map fun x => V.str x.cps.toList) vs := by
  induction x with
  | nil => exact .nil
  | cons y t r ih => exact .cons (.str y.cps.toList t) ih
theorem strs_items {kvs : List (Str × Value)} {vs : List Value} {o : Nat} (hl : vs.length = kvs.length - o) (ho : o ≤ kvs.length) (h : ∀ j v, vs[j]? = some v → ∃ k x, kvs[o + j]? = some (k, x) ∧ Value.isStrOf k v = true) : StrsAre vs ((kvs.drop o).map (·.1)) := by
  induction vs generalizing o with
  | nil => rw [List.drop_of_length_le (Nat.le_of_sub_eq_zero hl.symm)]; exact .nil
  | cons v vs ih =>
    refine byc fun hnn => ?_
    obtain ⟨k, x, e, hk⟩ := h 0 v rfl
    refine hnn ?_; clear hnn
    have hlt : o < kvs.length := (List.getElem?_eq_some_iff.mp e).1
    rw [List.drop_eq_getElem_cons hlt]
    have ek : kvs[o] = (k, x) := (List.getElem?_eq_some_iff.mp e).2
    rw [ek]
    obtain ⟨t, rfl⟩ := Value.isStrOf_shape hk
    refine .cons k t (ih (o := o + 1) (by rw [List.length_cons] at hl; lia) hlt fun j w hj => ?_)
    have := h (j + 1) w hj
    rwa [show o + (j + 1) = o + 1 + j from (Nat.add_right_comm o 1 j).symm] at this

/-- sorted(d) -/
theorem Cl_sorted_dict {d : Addr} {kvs : List (List Nat × V)} {ep : Nat} (hd : H d = some (.dict kvs ep)) (hm : (d == sysModules) = false) (hz : kvs.length < 64)
    (h : ∀ D (ks : List (List Nat)), H D = none → ks.Perm (kvs.map (·.1)) → Q (.ref D) (upd H D (.list (ks.map .str)))) : Cl G fs r (.bi "sorted") [.ref d] H Q E := fun A s vf cs a b v vs => by
  (first | (have hqv := v.inv; clear v; obtain ⟨_, rfl⟩ := hqv) | (have hqv := v.inv; clear v; obtain rfl := hqv) | cases v)
  have hqv := vs.inv; clear vs; obtain ⟨_, _, rfl, v, vs⟩ := hqv
  (first | (have hqv := vs.inv; clear vs; obtain ⟨_, rfl⟩ := hqv) | (have hqv := vs.inv; clear vs; obtain rfl := hqv) | cases vs); (first | (have hqv := v.inv; clear v; obtain ⟨_, rfl⟩ := hqv) | (have hqv := v.inv; clear v; obtain rfl := hqv) | cases v)
  refine byc fun hnn => ?_
  obtain ⟨L, h1, h2, h3⟩ := dict_at b hd
  refine hnn ?_; clear hnn
  have h4 : L.length = kvs.length := by simpa using congrArg List.length h2
  refine Calls.call_function_entry kind_sorted plain_sorted entry_sorted (args_sorted1 _) ?_
  unfold Builtin.«sorted»
  refine wpAny_bind (m := checkCount "sorted" 1 1 _) (wpAny_pure ?_)
  have nd : s.heap.objs.size ≠ d := Nat.ne_of_gt h1.lt_size
  have iadd : ∀ (A' : Around) (R : Result → Shared → Prop), A'.handled = none → (∀ h' tk acc' c', (∀ b o, b ≠ s.heap.objs.size → (s.heap.push (seqObj "list" #[] 0)).get? b = some o → h'.get? b = some o) → h'.get? s.heap.objs.size = some { cls := .type "list", dict := none, data := .seq acc' c', slots := #[] } →
      ItemsOf (fun i v => ∃ k x, L[i]? = some (k, x) ∧ (PySem.strKind G.prog G.w).is k v = true) acc' L.length → R (.ok (.ret (.ref s.heap.objs.size))) { s with heap := h', toks := tk }) →
      codeAny (model G.prog G.w) A' (.builtin "list.__iadd__" ⟨[.ref s.heap.objs.size, .ref d], []⟩) R { s with heap := s.heap.push (seqObj "list" #[] 0) } := fun A' R hA hR =>
    codeAny_builtin entry_list_iadd' (kdl_extend (A := A') (R := R) (s := { s with heap := s.heap.push (seqObj "list" #[] 0) }) (kdl_dict (knd := PySem.strKind G.prog G.w) (d := d) (kvs := L) (ep := ep) hm) hA (h1.push _) s.heap.objs.size nd nd _ 0 (Heap.get?_push_size _ rfl) hR (by rw [sz24]; lia))
  refine wpAny_bind ?_
  show wpAny _ _ (collect (.ref d)) _ _ s
  unfold collect
  refine wpAny_bind (wpAny_runValue (codeAny_builtin entry_proto_collect' ?_))
  show wpAny _ _ (do again (.builtin "list.__iadd__" ⟨[← newList [], .ref d], []⟩)) _ _ s
  refine wpAny_bind (wpAny_newList (wpAny_pure ⟨Code.quiet_builtin _ (by decide +kernel), iadd _ _ a.handled fun h' tk acc c' hk hS hacc => ?_⟩))
  have hk' : ∀ b' o, s.heap.get? b' = some o → h'.get? b' = some o := fun b' o e => hk b' o (Nat.ne_of_lt (Heap.lt_size e)) (Heap.get?_push_of_some _ e)
  show wpAny _ _ (do
      let o ← load s.heap.objs.size
      match o.data with
      | .seq xs _ => pure xs.toList
      | _ => unsupported "internal:collect") _ _ { s with heap := h', toks := tk }
  refine wpAny_bind (wpAny_load hS (wpAny_pure ?_))
  have sa : StrsAre acc.toList (L.map (·.1)) := by
    have := strs_items (kvs := L) (vs := acc.toList) (o := 0) (by simpa using hacc.1) (Nat.zero_le _) fun j v hj => by
      refine byc fun hnn => ?_
      obtain ⟨k, x, e, hk⟩ := hacc.2 j v (by simpa using hj)
      refine hnn ?_; clear hnn
      exact ⟨k, x, by simpa using e, hk⟩
    simpa using this
  have alen : acc.toList.length < 64 := by have := hacc.1; simp; lia
  refine wpAny_bind (wpAny_newList ?_ (by rw [sz24]; lia))
  have hoL : (h'.push (seqObj "list" acc.toList.toArray 0)).get? h'.objs.size = some (seqObj "list" acc.toList.toArray 0) := Heap.get?_push_size _ rfl
  refine wpAny_bind (wpAny_holding (wpAny_call_entry slot_list_sort ⟨_, hoL, rfl⟩ entry_list_sort (list_sort_treeK (κ := PyProof.Rows.strKind) strKind_oneLt hoL sa.keysOf (fun v₁ v₂ rest e => keyKind_strs (by rw [← e]; exact sa)) alen fun st' hp hs => ⟨_, rfl, ?_⟩) (args_list_sort _)))
  refine wpAny_pure ⟨_, rfl, ?_⟩
  refine byc fun hnn => ?_
  obtain ⟨ss', q1, q2, q3⟩ := sorted_out_str sa hp hs
  refine hnn ?_; clear hnn
  obtain ⟨e', he'⟩ := sortedHeap_at (vs := acc.toList) (out := (arrOf st').map (·.2)) hoL
  have old : ∀ b' o, s.heap.get? b' = some o → (sortedHeap (h'.push (seqObj "list" acc.toList.toArray 0)) h'.objs.size acc.toList ((arrOf st').map (·.2))).get? b' = some o := fun b' o e => by
    have lt := Heap.lt_size (hk' b' o e)
    rw [sortedHeap_old (Nat.ne_of_lt lt) (by rw [size_push']; exact Nat.lt_succ_of_lt lt)]
    exact Heap.get?_push_of_some _ (hk' b' o e)
  have nn : s.heap.get? h'.objs.size = none := by
    cases z : s.heap.get? h'.objs.size with
    | none => rfl
    | some o => exact absurd (Heap.lt_size (hk' _ o z)) (Nat.lt_irrefl _)
  have hn : H h'.objs.size = none := by
    cases z : H h'.objs.size with
    | none => rfl
    | some o => obtain ⟨ob, e⟩ := b.has z; rw [nn] at e; cases e
  refine ⟨.ref h'.objs.size, _, After.new (t := tk) (o := .list ((ss'.map fun x => x.cps.toList).map .str)) b old nn ⟨_, e', he', ?_⟩, .ref _, h _ (ss'.map fun x => x.cps.toList) hn ?_⟩
  · have := strs_of (H := upd H h'.objs.size (.list ((ss'.map fun x => x.cps.toList).map .str))) (h := sortedHeap (h'.push (seqObj "list" acc.toList.toArray 0)) h'.objs.size acc.toList ((arrOf st').map (·.2))) q1
    simpa [Function.comp_def] using this
  · have := q2.map (fun x : Str => x.cps.toList)
    rw [h2] at this
    simpa [Function.comp_def] using this

/-- {k: v, ...} -/
def Dp (G : Ctx) (fs : List Env) (r : Nat) (env : Env) (m : Loc) (t : List (Sem Value × Sem Value)) (H : AH) (Q : List (V × V) → AH → Prop) (E : AH → Prop) : Prop := match t with
  | [] => Q [] H
  | (k, v) :: rest => Ev G fs r env m k H (fun kv H₁ => Ev G fs r env m v H₁ (fun vv H₂ => Dp G fs r env m rest H₂ (fun ps H₃ => Q ((kv, vv) :: ps) H₃) E) E) E
theorem Dp.run {t : List (Sem Value × Sem Value)} : ∀ {H : AH} {Q : List (V × V) → AH → Prop} {A : Around} {s : Shared}, Dp G fs r env m t H Q E → AOK fs r A → Rel G fs H s → LocsR G.s₀.heap env m s.heap H →
    wpAny (model G.prog G.w) A (evalPairs t) (fun vs s' => (X2 fun ps H' => A4 (After G fs H s H' s') (RVs s'.heap H' (ps.map (·.1)) (vs.map (·.1))) (RVs s'.heap H' (ps.map (·.2)) (vs.map (·.2))) (Q ps H'))) (QE G fs H s E) s := by
  induction t with
  | nil => exact fun {H Q A s} h a b c => evalPairs_nil ⟨[], H, .refl b, .nil, .nil, h⟩
  | cons p rest ih =>
    intro H Q A s h a b c
    refine evalPairs_cons (wpAny_mono (h A s a b c) ?_ fun u' u' z => z)
    refine qv fun ck s₁ kv H₁ a₁ v₁ h₁ => ?_
    refine wpAny_mono (h₁ A s₁ a a₁.1 (c.keep a₁.2)) ?_ fun u' u' z => ex_from a₁ z
    refine qv fun cv s₂ vv H₂ a₂ v₂ h₂ => ?_
    have a' := a₁.trans a₂
    refine wpAny_mono (ih h₂ a a₂.1 (c.keep a'.2)) ?_ fun u' u' z => ex_from a' z
    rintro vs s₃ hqq
    refine byc fun hnn => ?_
    obtain ⟨ps, H₃, a₃, r1, r2, q⟩ := hqq
    refine hnn ?_; clear hnn
    exact ⟨(kv, vv) :: ps, H₃, a'.trans a₃, .cons (v₁.mono (a₂.trans a₃).2) r1, .cons (v₂.mono a₃.2) r2, q⟩

theorem carries_of {G : Ctx} {H : AH} {h : Heap} {ps : List (List Nat × V)} {vs : List (Value × Value)} (x : RVs h H (ps.map fun p => .str p.1) (vs.map (·.1))) (y : RVs h H (ps.map (·.2)) (vs.map (·.2))) :
    ∃ L : List (Str × Value), Carries (PySem.strKind G.prog G.w) vs L ∧ L.map (·.1) = ps.map (fun p => (⟨p.1.toArray⟩ : Str)) ∧ RVs h H (ps.map (·.2)) (L.map (·.2)) := by
  induction ps generalizing vs with
  | nil => cases vs with
    | nil => exact ⟨[], trivial, rfl, .nil⟩
    | cons v vs => cases x
  | cons p ps ih => cases vs with
    | nil => cases x
    | cons v vs =>
      obtain ⟨a, b⟩ := v
      cases x with
      | cons x1 x2 => cases y with
        | cons y1 y2 =>
          refine byc fun hnn => ?_
          obtain ⟨L, q1, q2, q3⟩ := ih x2 y2
          refine hnn ?_; clear hnn
          have hqv : ∃ t, a = .str ⟨p.1.toArray⟩ t := x1.inv
          obtain ⟨t, rfl⟩ := hqv
          exact ⟨(⟨p.1.toArray⟩, b) :: L, ⟨strIs p.1 _, rfl, q1⟩, congrArg (_ :: ·) q2, .cons y1 q3⟩
theorem nodup_keys {kvs : List (List Nat × V)} {L : List (Str × Value)} (e : L.map (·.1) = kvs.map fun p => (⟨p.1.toArray⟩ : Str)) (n : (kvs.map (·.1)).Nodup) : (L.map (·.1)).Nodup := by
  rw [e]
  have : kvs.map (fun p => (⟨p.1.toArray⟩ : Str)) = (kvs.map (·.1)).map fun l => (⟨l.toArray⟩ : Str) := by simp
  rw [this]
  refine List.Pairwise.map _ (fun x y hxy hz => hxy ?_) n
  have := congrArg (fun s : Str => s.cps.toList) hz
  simpa using this

theorem Ev_Dict {keys : List (Option Expr)} {values : List Expr} {pos : Pos} {pairs : List (Sem Value × Sem Value)}
    (hshape : (evalEachOpt keys env).zip ((evalEach values env).map fun v => do let x ← v; standAt pos; pure x) = pairs.map fun p => (some p.1, p.2)) (h0 : pairs ≠ []) (hlen : pairs.length ≤ 15)
    (h : ∀ D, H D = none → (D == sysModules) = false → Dp G fs r env m pairs (upd H D (.dict [] 0)) (fun ps H' => H' D = some (.dict [] 0) ∧ ∃ kvs : List (List Nat × V), A3 (ps = kvs.map (fun p => (.str p.1, p.2))) ((kvs.map (·.1)).Nodup) (∀ ep, Q (.ref D) (upd H' D (.dict kvs ep)))) E) :
    Ev G fs r env m (eval (.Dict keys values pos) env) H Q E := fun A s a b c => by
  have n0 := b.freeSize
  have P : After G fs H s (upd H s.heap.objs.size (.dict [] 0)) { s with heap := s.heap.push { cls := .type "dict", data := .dict #[] } } := After.new (t := s.toks) (o := .dict [] 0) b push_keep size_none ⟨[], Heap.get?_push_size _ rfl, .nil, .nil⟩
  refine wpAny_Dict_pairs (knd := PySem.strKind G.prog G.w) hshape h0 hlen (wpAny_mono (Dp.run (h _ n0 b.notSys) a P.1 (c.keep P.2)) ?_ fun u' u' z => ex_from P z)
  first | (refine qv fun vs s₁ ps H₁ a₁ r1 hqq => ?_; obtain ⟨r2, hd, kvs, rfl, nd, q⟩ := hqq) | (refine ql fun vs s₁ ps H₁ a₁ r1 hqq => ?_; obtain ⟨r2, hd, kvs, rfl, nd, q⟩ := hqq) | rintro vs s₁ ⟨ps, H₁, a₁, r1, r2, hd, kvs, rfl, nd, q⟩
  have r1' : RVs s₁.heap H₁ (kvs.map fun p => .str p.1) (vs.map (·.1)) := by simpa [Function.comp_def] using r1
  have r2' : RVs s₁.heap H₁ (kvs.map (·.2)) (vs.map (·.2)) := by simpa [Function.comp_def] using r2
  refine byc fun hnn => ?_
  obtain ⟨L, c1, c2, c3⟩ := carries_of (G := G) r1' r2'
  refine hnn ?_; clear hnn
  refine byc fun hnn => ?_
  obtain ⟨L0, d1, d2, d3, d4⟩ := dict_of a₁.1 hd
  refine hnn ?_; clear hnn
  obtain rfl : L0 = [] := List.length_eq_zero_iff.mp d4
  refine ⟨L, c1, d1, fun h' x hs => ?_⟩
  rw [merged_nil_of_nodup L (nodup_keys c2 nd)] at x
  obtain ⟨ep, af⟩ := After.dict (t := s₁.toks + vs.length) a₁.1 hs hd x c2 c3
  exact ⟨.ref _, _, (P.trans a₁).trans af, .ref _, q ep⟩
end
end SL16
section SL17
open PySem PySem.W PyProof.Rows
set_option tactic.hygienic false

theorem miss_keys : typeLookup (.type "list") "keys" = pure none := am_miss_of_fast (by kernel_rfl)
theorem list_no_keys {prog : Program} {w : World} {A : Around} {E : Value → Shared → Prop} {s : Shared} {a : Addr} {xs : Array Value} {k : Nat} {Q : Option Value → Shared → Prop}
    (hx : s.heap.get? a = some (listOf xs k)) (hA : A.handled = none) (h : ∀ h' tk, (∀ b o, s.heap.get? b = some o → h'.get? b = some o) → Q none { s with heap := h', toks := tk }) : wpAny (model prog w) A (getAttr? (.ref a) "keys") Q E s := by
  refine byc fun hnn => ?_
  obtain ⟨hp, g, d, tk, os⟩ := s
  refine hnn ?_; clear hnn
  have hT : ∀ tk', (⟨hp, g, d, tk', os⟩ : Shared).TypeIs (.ref a) "list" := fun u' => ⟨_, hx, rfl⟩
  have f1 := sub_AttributeError
  have f3 := F.slot_list_getattribute.lookup
  have f4 := F.slot_list_getattribute.bind (.ref a)
  have f5 := am_list_getattr_none
  unfold getAttr? getAttrBy? getAttrBy
  repeat (any_goals (first | assumption | exact hT _ | ((with_reducible show wpAny _ _ (call (Value.builtin "list.__getattribute__") _ _) _ _ _); refine call_meets F.slot_list_getattribute (hT _) am_entry_list_getattribute (F.args_list_getattribute_2 _ _) (meets_getattribute_miss_list a xs k _ "keys" _ miss_keys (by decide) (by decide)) ⟨hx, hA, fun h' tk' e hx' => ?_⟩) | wp_step))
  refine byc fun hnn => ?_
  obtain ⟨t', u', he⟩ := hx'.there
  refine hnn ?_; clear hnn
  show wpAny _ _ (getattributeRaised _ _ _ _ _ _ _) _ _ _
  unfold getattributeRaised
  repeat (any_goals (first | assumption | wp_step))
  exact h _ _ hx'.keeps

theorem entry_update_loop : entryFor table "dict.update.loop" = some Builtin.«dict.update.loop» := entryFor_of_fast (by kernel_rfl)
theorem plain_update_loop : plainId "dict.update.loop" = true := by decide +kernel

section
variable {G : Ctx} {fs : List Env} {r : Nat} {env : Env} {m : Loc} {H : AH} {Q : V → AH → Prop} {E : AH → Prop} {i j : Int} {l k : List Nat}

/-- what a list of pairs holds -/
def PairAt (h : Heap) (L : List (Str × Value)) (items : Array Value) : Prop := items.size = L.length ∧ ∀ (j : Nat) (k : Str) (v : Value), L[j]? = some (k, v) → ∃ (ta : Addr) (key : Value), items[j]? = some (Value.ref ta) ∧ Value.isStrOf k key = true ∧ IsTup h ta #[key, v]

theorem update_loop {A : Around} {R : Result → Shared → Prop} {D it la : Addr} {L : List (Str × Value)} {items : Array Value} {s₀ : Shared} (hA : A.handled = none) (nd : (L.map (·.1)).Nodup) (hz : L.length ≤ 1000) (hp : PairAt s₀.heap L items) (hl : s₀.heap.IsList la items)
    (fI : s₀.heap.get? it = none) (fD : s₀.heap.get? D = none) (nID : it ≠ D)
    (hR : ∀ h' tk, h'.DictOf (PySem.strKind G.prog G.w) D L → (∀ b o, s₀.heap.get? b = some o → h'.get? b = some o) → R (.ok (.ret .none)) { s₀ with heap := h', toks := tk }) :
    ∀ (n i : Nat) (h : Heap) (tk : Nat) (t : Tok), L.length - i = n → i ≤ L.length → h.IsListIter it la i → h.DictOf (PySem.strKind G.prog G.w) D (L.take i) → (∀ b o, s₀.heap.get? b = some o → h.get? b = some o) →
      codeAny (model G.prog G.w) A (.builtin "dict.update.loop" ⟨[.ref D, .ref it, .int i t, .none], []⟩) R { s₀ with heap := h, toks := tk } := by
  have old : ∀ {b : Addr} {o}, s₀.heap.get? b = some o → b ≠ it ∧ b ≠ D := fun {b o} e => ⟨(fun z => by rw [z, fI] at e; cases e), (fun z => by rw [z, fD] at e; cases e)⟩
  intro n
  induction n with
  | zero =>
    intro i h tk t hn hi hit hd hk
    have hin : i = L.length := by lia
    subst hin
    refine codeAny_builtin entry_update_loop ?_
    rw [Around.under_plainId plain_update_loop _]
    show wpAny _ A.in1 (pyNext (.ref it) >>= _) _ _ { s₀ with heap := h, toks := tk }
    refine wpAny_bind (wpAny_pyNext_list_end (s := { s₀ with heap := h, toks := tk }) hA hit (hl.at fun o e => hk la o e) (Array.getElem?_eq_none (Nat.le_of_eq hp.1)) fun h' hs => ?_)
    refine wpAny_bind (wpAny_pure (wpAny_pure (hR h' tk ?_ fun b o e => hs b o (old e).1 (hk b o e))))
    rw [List.take_length] at hd
    exact hd.extBut hs (Ne.symm nID)
  | succ n ih =>
    intro i h tk t hn hi hit hd hk
    have hlt : i < L.length := by lia
    refine byc fun hnn => ?_
    obtain ⟨ta, key, e1, e2, e3⟩ := hp.2 i L[i].1 L[i].2 (List.getElem?_eq_getElem hlt)
    refine hnn ?_; clear hnn
    refine codeAny_builtin entry_update_loop ?_
    rw [Around.under_plainId plain_update_loop _]
    show wpAny _ A.in1 (pyNext (.ref it) >>= _) _ _ { s₀ with heap := h, toks := tk }
    refine wpAny_bind (wpAny_pyNext_list_item (s := { s₀ with heap := h, toks := tk }) hit (hl.at fun o e => hk la o e) e1 fun h' hit' hs => ?_)
    have T' : IsTup h' ta #[key, L[i].2] := by
      refine byc fun hnn => ?_
      obtain ⟨o, e, r⟩ := e3
      refine hnn ?_; clear hnn
      exact ⟨o, (hs.2 ta (old e).1).trans (hk ta o e), r⟩
    refine byc fun hnn => ?_
    obtain ⟨oT, eT, cT, nT, dT⟩ := id T'
    refine hnn ?_; clear hnn
    have pi : ∀ {Q' : List Value → Shared → Prop} {E' : Value → Shared → Prop}, Q' [key, L[i].2] { s₀ with heap := h', toks := tk } → wpAny (model G.prog G.w) A.in1 (Builtin.Dict.pairItems (.ref ta)) Q' E' { s₀ with heap := h', toks := tk } := fun {Q' E'} q => by
      unfold Builtin.Dict.pairItems
      refine wpAny_bind (wpAny_typeOf (T := "tuple") ⟨oT, eT, cT⟩ ?_)
      rw [if_pos (by decide)]
      exact wpAny_bind (wpAny_seqItems (s := { s₀ with heap := h', toks := tk }) eT dT (wpAny_pure q))
    refine wpAny_bind ?_
    refine wpAny_holding (wpAny_bind (wpAny_tryCatch (pi ?_)))
    refine wpAny_holding ?_
    have hd' : h'.DictOf (PySem.strKind G.prog G.w) D (L.take i) := hd.extBut hs.extBut (Ne.symm nID)
    refine wpAny_dictSet_pairs (s := { s₀ with heap := h', toks := tk }) (k := L[i].1) e2 hd' (fun h'' hd'' hs'' => ?_) (by rw [sz24, List.length_take]; lia)
    refine wpAny_pure ⟨plainId_quiet plain_update_loop _, ?_⟩
    have fr : L[i].1 ∉ (L.take i).map (·.1) := by
      intro hm
      refine byc fun hnn => ?_
      obtain ⟨p, hp1, hp2⟩ := List.mem_map.mp hm
      refine hnn ?_; clear hnn
      obtain ⟨j, hj⟩ := List.getElem?_of_mem hp1
      have hji : j < i := by
        have := (List.getElem?_eq_some_iff.mp hj).1
        simp at this; lia
      rw [List.getElem?_take_of_lt hji] at hj
      have nd' := List.pairwise_iff_getElem.mp nd j i (by simp; lia) (by simp; lia) hji
      simp only [List.getElem_map] at nd'
      have : L[j] = p := (List.getElem?_eq_some_iff.mp hj).2
      exact nd' (by rw [this, hp2])
    rw [stored_fresh fr, show L.take i ++ [(L[i].1, L[i].2)] = L.take (i + 1) by rw [List.take_add_one, List.getElem?_eq_getElem hlt]; rfl] at hd''
    have := ih (i + 1) h'' (tk + 1) 0 (by lia) hlt (hit'.extBut hs''.extBut nID) hd'' fun b o e => (hs''.2 b (old e).2).trans ((hs.2 b (old e).1).trans (hk b o e))
    exact this

set_option tactic.hygienic true in
/-- dict of a list of pairs -/
theorem Cl_dict_pairs {la : Addr} {kvs : List (List Nat × V)} (hl : H la = some (.list (kvs.map fun p => .tup [.str p.1, p.2]))) (nd : (kvs.map (·.1)).Nodup) (hz : kvs.length ≤ 1000) (h : ∀ D ep, H D = none → (D == sysModules) = false → Q (.ref D) (upd H D (.dict kvs ep))) :
    Cl G fs r (.ty "dict") [.ref la] H Q E := fun A s vf cs a b v vs => by
  (first | (have hqv := v.inv; clear v; obtain ⟨_, rfl⟩ := hqv) | (have hqv := v.inv; clear v; obtain rfl := hqv) | cases v)
  have hqv := vs.inv; clear vs; obtain ⟨_, _, rfl, v, vs⟩ := hqv
  (first | (have hqv := vs.inv; clear vs; obtain ⟨_, rfl⟩ := hqv) | (have hqv := vs.inv; clear vs; obtain rfl := hqv) | cases vs); (first | (have hqv := v.inv; clear v; obtain ⟨_, rfl⟩ := hqv) | (have hqv := v.inv; clear v; obtain rfl := hqv) | cases v)
  refine byc fun hnn => ?_
  obtain ⟨items, n, e, rs, IL⟩ := list_of b hl
  refine hnn ?_; clear hnn
  have pairs : ∀ (kvs : List (List Nat × V)) (cs : List Value), RVs s.heap H (kvs.map fun p => .tup [.str p.1, p.2]) cs → ∃ L : List (Str × Value), L.map (·.1) = kvs.map (fun p => (⟨p.1.toArray⟩ : Str)) ∧ RVs s.heap H (kvs.map (·.2)) (L.map (·.2)) ∧ cs.length = L.length ∧
      ∀ (j : Nat) (k : Str) (v : Value), L[j]? = some (k, v) → ∃ (ta : Addr) (key : Value), cs[j]? = some (Value.ref ta) ∧ Value.isStrOf k key = true ∧ IsTup s.heap ta #[key, v] := by
    intro kvs
    induction kvs with
    | nil => intro cs x; cases x; exact ⟨[], rfl, .nil, rfl, fun j k v e => by simp at e⟩
    | cons p kvs ih =>
      intro cs x
      obtain _ | ⟨x1, x2⟩ := x
      refine byc fun hnn => ?_
      obtain ⟨L, q1, q2, q3, q4⟩ := ih _ x2
      refine hnn ?_; clear hnn
      obtain _ | _ | _ | _ | ⟨t1, o1, r1⟩ := x1
      rename_i ta its
      obtain ⟨its⟩ := its
      obtain _ | ⟨y1, y2⟩ := r1
      obtain _ | ⟨z1, z2⟩ := y2
      cases z2; (first | (have hqv := y1.inv; clear y1; obtain ⟨_, rfl⟩ := hqv) | (have hqv := y1.inv; clear y1; obtain rfl := hqv) | cases y1)
      rename_i tk
      refine ⟨(⟨p.1.toArray⟩, _) :: L, by simp [q1], .cons z1 q2, by simp [q3], fun j k v e => ?_⟩
      cases j with
      | zero =>
        simp only [List.getElem?_cons_zero, Option.some.injEq, Prod.mk.injEq] at e
        obtain ⟨rfl, rfl⟩ := e
        exact ⟨ta, .str ⟨p.1.toArray⟩ tk, rfl, beq_self_eq_true (⟨p.1.toArray⟩ : Str), t1⟩
      | succ j => exact q4 j k v (by simpa using e)
  refine byc fun hnn => ?_
  obtain ⟨L, q1, q2, q3, q4⟩ := pairs kvs _ rs
  refine hnn ?_; clear hnn
  have hlen : L.length = kvs.length := by simpa using congrArg List.length q1
  have PA : PairAt s.heap L items := ⟨by simpa using q3, fun j k v e => by simpa using q4 j k v e⟩
  refine callType_codes (Q₁ := fun obj s₁ => obj = .ref s.heap.objs.size ∧ s₁ = { s with heap := s.heap.push { cls := .type "dict", data := .dict #[] } }) F.kt_called_dict (F.kt_typeCall_dict_1 _) F.entry_dict_init (kt_code_dict_new _ ⟨rfl, rfl⟩) ?_
  rintro obj s₁ ⟨rfl, rfl⟩
  have hnew : (s.heap.push { cls := .type "dict", data := .dict #[] }).DictOf (PySem.strKind G.prog G.w) s.heap.objs.size [] := Heap.DictOf.new s.heap
  refine ⟨hnew.typeIs, F.args_dict_init_2 _ _, ?_⟩
  unfold Builtin.«dict.__init__»
  refine wpAny_bind ?_
  unfold Builtin.Dict.selfAndRest
  refine wpAny_bind (wpAny_notOrdered_dict hnew.typeIs ?_)
  show wpAny _ _ (pure (s.heap.objs.size, [Value.ref la])) _ _ _
  refine wpAny_pure ?_
  show wpAny _ _ (Builtin.Dict.updateFrom "dict.__init__" s.heap.objs.size (.ref la) [] .none) _ _ _
  unfold Builtin.Dict.updateFrom
  have e₁ : (s.heap.push { cls := .type "dict", data := .dict #[] }).get? la = some (listOf items n) := Heap.get?_push_of_some _ e
  refine wpAny_bind (wpAny_typeOf (T := "list") ⟨_, e₁, rfl⟩ ?_)
  rw [if_pos (by decide)]
  refine wpAny_bind (list_no_keys (s := { s with heap := s.heap.push { cls := .type "dict", data := .dict #[] } }) e₁ a.handled fun h' tk hk => ?_)
  refine wpAny_bind (wpAny_rule ?_)
  refine wpAny_bind (wpAny_pyIter_list (s := { s with heap := h', toks := tk }) ⟨_, hk _ _ e₁, rfl, n, rfl⟩ ?_)
  refine wpAny_pure ⟨plainId_quiet plain_update_loop _, ?_⟩
  have n0 := b.freeSize
  have hD : h'.get? s.heap.objs.size = some { cls := .type "dict", data := .dict #[] } := hk _ _ (Heap.get?_push_size _ rfl)
  have lt : s.heap.objs.size < h'.objs.size := Heap.lt_size hD
  have old : ∀ b' o, s.heap.get? b' = some o → h'.get? b' = some o := fun b' o e => hk b' o (Heap.get?_push_of_some _ e)
  have fI : s.heap.get? h'.objs.size = none := by
    cases z : s.heap.get? h'.objs.size with
    | none => rfl
    | some o => exact absurd (Heap.lt_size (old _ o z)) (Nat.lt_irrefl _)
  have key := update_loop (G := G) (A := A.in1) (R := wants (fun r s₂ => r = Value.none ∧ QV G fs H s Q (Value.ref s.heap.objs.size) s₂) (QE G fs H s E)) (D := s.heap.objs.size) (it := h'.objs.size) (la := la) (s₀ := s) a.handled (nodup_keys q1 nd) (by lia) PA IL fI size_none (Nat.ne_of_gt lt) (fun h'' tk'' hd hk'' => by
      refine ⟨rfl, ?_⟩
      refine byc fun hnn => ?_
      obtain ⟨ep', es, he, _⟩ := ro_dict (H := H) hd q1 (q2.mono (X := fun u' => False) (Keep.of_grow hk''))
      refine hnn ?_; clear hnn
      refine byc fun hnn => ?_
      obtain ⟨ep'', es', he', q⟩ := ro_dict (H := upd H s.heap.objs.size (.dict kvs ep')) hd q1 (q2.mono (X := fun u' => False) (Keep.of_new hk'' size_none))
      refine hnn ?_; clear hnn
      have : ep'' = ep' := by rw [he] at he'; injection he' with z; injection z with z1 z2 z3 z4; injection z3 with z5 z6; exact z6.symm
      subst this
      exact ⟨.ref s.heap.objs.size, _, After.new (t := tk'') (o := .dict kvs ep'') b hk'' size_none ⟨es', he', q⟩, .ref _, h _ ep'' n0 b.notSys⟩)
  exact key L.length 0 (h'.push _) tk 0 rfl (Nat.zero_le _) ⟨_, Heap.get?_push_size _ rfl, rfl, rfl⟩ ⟨_, #[], 0, Heap.get?_push_of_some _ hD, ⟨rfl, rfl, rfl⟩, rfl, (fun u' he => by simp at he), .nil, .nil⟩ fun b' o e => Heap.get?_push_of_some _ (old b' o e)

/-- a text, repeated -/
theorem BOp_strmul {c : Nat} {n : Nat} (hn : n ≤ 1000) (h : Q (.str (List.replicate n c)) H) : BOp G fs r .Mult (.str [c]) (.int n) H Q E := fun A s va vb a b v1 v2 => by
  (first | (have hqv := v1.inv; clear v1; obtain ⟨_, rfl⟩ := hqv) | (have hqv := v1.inv; clear v1; obtain rfl := hqv) | cases v1); (first | (have hqv := v2.inv; clear v2; obtain ⟨_, rfl⟩ := hqv) | (have hqv := v2.inv; clear v2; obtain rfl := hqv) | cases v2)
  have len : (⟨([c] : List Nat).toArray⟩ : Str).length = 1 := rfl
  refine P.mul_str ?_ (fun h1 u' => ?_) (fun h1 u' => ?_) ?_
  · have e1 : ¬ (n : Int) < -(2 ^ 63 : Int) := by lia
    have e2 : ¬ (n : Int) ≥ 2 ^ 63 := by lia
    rw [decide_eq_false e1, decide_eq_false e2]; rfl
  · rw [len]
    have : (1 : Int) ≤ (2 ^ 63 - 1) / (n : Int) := by
      rw [Int.le_ediv_iff_mul_le (by lia)]; lia
    lia
  · rw [len]
    unfold Builtin.Str.tooLong
    exact decide_eq_false (by rw [sz24]; simp; lia)
  · by_cases z : n < 1
    · have : n = 0 := by lia
      subst this
      rw [if_pos (by decide)]
      exact ⟨by decide, _, H, .toks b, .str [] _, h⟩
    · rw [if_neg (by lia)]
      by_cases z1 : n = 1
      · subst z1
        rw [if_pos (by rfl)]
        exact ⟨_, H, .refl b, .str [c] _, h⟩
      · have e : (((n : Int) == 1) || (⟨([c] : List Nat).toArray⟩ : Str).length == 0) = false := by
          rw [len, Bool.or_eq_false_iff]
          exact ⟨beq_eq_false_iff_ne.mpr (by lia), rfl⟩
        rw [e, if_neg (by simp)]
        have ev : (List.replicate n (#[c] : Array Nat)).foldl (· ++ ·) #[] = (List.replicate n c).toArray := by
          have : ∀ (n : Nat) (acc : List Nat), (List.replicate n (#[c] : Array Nat)).foldl (· ++ ·) acc.toArray = (acc ++ List.replicate n c).toArray := by
            intro n
            induction n with
            | zero => intro acc; simp
            | succ n ih =>
              intro acc
              rw [List.replicate_succ, List.foldl_cons, show acc.toArray ++ #[c] = (acc ++ [c]).toArray by simp, ih, List.replicate_succ]; simp
          have := this n []
          simpa using this
        have ev' : (⟨(List.replicate ((n : Int)).toNat (⟨([c] : List Nat).toArray⟩ : Str).cps).foldl (· ++ ·) #[]⟩ : Str) = ⟨(List.replicate n c).toArray⟩ := by rw [Int.toNat_natCast]; exact congrArg Str.mk ev
        rw [ev']
        exact ⟨by rw [str_len, List.length_replicate, sz24]; lia, _, H, .toks b, .str _ _, h⟩
end
end SL17
section SL18
open PySem PySem.W PyProof.Rows
set_option tactic.hygienic false

theorem upd_upd {H : AH} {a : Addr} {o o' : O} : upd (upd H a o) a o' = upd H a o' := by
  funext b; unfold upd; split <;> rfl
section
variable {G : Ctx} {fs : List Env} {r : Nat} {env : Env} {m : Loc} {H : AH} {E : AH → Prop} {A : Around} {s : Shared} {L : Addr}

theorem take_succ_filter' {α : Type} (p : α → Bool) (l : List α) (i : Nat) (v : α) (h : l[i]? = some v) : (l.take (i + 1)).filter p = (l.take i).filter p ++ (if p v then [v] else []) := by
  rw [List.take_add_one, h, List.filter_append]
  cases hp : p v <;> simp [hp]

/-- a comprehension that maps and sifts -/
structure CompMF (G : Ctx) (fs : List Env) (r : Nat) (cenv : Addr → Env) (mC : Loc) (x : Str) (elt : Expr) (ifs : List Expr) (src : Src) (H : AH) (f : V → V) (p : V → Bool) : Prop where
  len : src.items.length ≤ sizeLine
  ok : ∀ D o, H D = none → src.ok (upd H D o)
  test : ∀ C D o (i : Nat) (v : V), src.items[i]? = some v → H D = none → Tst G fs r (cenv C) (put mC x v) ifs (upd H D o) fun b H₂ => b = p v ∧ H₂ = upd H D o
  elt : ∀ C D o (i : Nat) (v : V), src.items[i]? = some v → p v = true → H D = none → Ev G fs r (cenv C) (put mC x v) (eval elt (cenv C)) (upd H D o) (fun y H₃ => y = f v ∧ H₃ = upd H D o) fun u' => False

theorem Tst.mono {ifs : List Expr} {Q Q' : Bool → AH → Prop} (h : Tst G fs r env m ifs H Q) (q : ∀ b H', Q b H' → Q' b H') : Tst G fs r env m ifs H Q' := by
  cases ifs with
  | nil => exact q _ _ h
  | cons c rest =>
    intro A s a b c'
    exact wpAny_mono (h A s a b c') (fun _ _ ⟨H', y, z⟩ => ⟨H', y, q _ _ z⟩) fun u' u' z => z

theorem CompMF.to {cenv : Addr → Env} {mC : Loc} {x : Str} {elt : Expr} {ifs : List Expr} {src : Src} {f : V → V} {p : V → Bool} (c : CompMF G fs r cenv mC x elt ifs src H f p) {D : Addr} (hD : H D = none) :
    CompI G fs r env cenv mC x elt ifs src H D fun i acc H' => acc = ((src.items.take i).filter p).map f ∧ H' = upd H D (.list acc) where
  start := by simp
  ok := by
    rintro i acc H' ⟨rfl, rfl⟩
    refine ⟨c.ok D _ hD, ?_⟩
    rw [List.length_map]
    have h1 := List.length_filter_le p (src.items.take i)
    have h2 : (src.items.take i).length ≤ src.items.length := by rw [List.length_take]; lia
    have h3 := c.len
    lia
  turn := by
    rintro C i v acc H' hv ⟨ha, hH⟩ -
    subst hH
    refine (c.test C D _ i v hv hD).mono ?_
    rintro b H₂ ⟨rfl, rfl⟩
    by_cases hp : p v = true
    · rw [if_pos hp]
      refine (c.elt C D _ i v hv hp hD).mono ?_ fun u' z => z
      rintro y H₃ ⟨rfl, rfl⟩
      refine ⟨upd_eq, ?_, by rw [upd_upd]⟩
      rw [take_succ_filter' p _ _ _ hv, if_pos hp, ha]; simp
    · rw [if_neg hp]
      refine ⟨upd_eq, ?_, rfl⟩
      rw [take_succ_filter' p _ _ _ hv, if_neg hp, ha]; simp

theorem Ev_CompMF {elt iter : Expr} {x : Str} {px pos : Pos} {ifs : List Expr} {scope : Scope} {cl : List (Str × Addr)} {Q : V → AH → Prop} (mC : Loc) (f : V → V) (p : V → Bool)
    (h : Itb G fs r env m (eval iter env) H (fun src H₁ => CompMF G fs r (compEnvC scope cl · env) mC x elt ifs src H₁ f p ∧ ∀ D, H₁ D = none → Q (.ref D) (upd H₁ D (.list ((src.items.filter p).map f)))) E)
    (hclos : closureFor scope env = pure cl) (hcl : ∀ p ∈ cl, p ∈ env.cells) (hm : ∀ y v, mC y = some v → m y = some v ∧ env.kindOf y ≠ some .local ∧ (relabel scope env).names.lookup y ≠ some .local ∧ cl.lookup y = env.cells.lookup y) (hmx : mC x = none)
    (hlen : ifs.length ≤ 1) (hcell : ∀ y ∈ scope.names, y.2 ≠ .cell) (hkind : scope.kind = .function) (hx : scope.names.lookup x = some .local)
    (hnames : ∀ y ∈ scope.names, y.2 = .local → scope.names.lookup y.1 = some .local) (hs : ∀ x, foldedSetIterable iter env x = pure x) :
    Ev G fs r env m (eval (.ListComp elt [⟨.Name x px, iter, ifs, 0⟩] scope pos) env) H Q E := by
  refine Ev_ListComp mC (fun A s a b c => wpAny_mono (h A s a b c) ?_ fun u' u' z => z) hclos hcl hm hmx hlen hcell hkind hx hnames hs
  rintro v s₁ hqq
  refine byc fun hnn => ?_
  obtain ⟨src, H₁, a₁, ok, sv, c, q⟩ := hqq
  refine hnn ?_; clear hnn
  refine ⟨src, H₁, a₁, ok, sv, _, fun D hD => c.to hD, ?_⟩
  rintro D acc H' hD - ⟨rfl, rfl⟩
  rw [List.take_length]
  exact q D hD
theorem Ex_AssignCompMF {elt iter : Expr} {x y : Str} {px py pos spos : Pos} {ifs : List Expr} {scope : Scope} {cl : List (Str × Addr)} {Q : Fl → Loc → AH → Prop} (mC : Loc) (f : V → V) (p : V → Bool)
    (h : Itb G fs r env m (eval iter env) H (fun src H₁ => CompMF G fs r (compEnvC scope cl · env) mC x elt ifs src H₁ f p ∧ ∀ D, H₁ D = none → Q .next (put m y (.ref D)) (upd H₁ D (.list ((src.items.filter p).map f)))) E)
    (hclos : closureFor scope env = pure cl) (hcl : ∀ p ∈ cl, p ∈ env.cells) (hm : ∀ y v, mC y = some v → m y = some v ∧ env.kindOf y ≠ some .local ∧ (relabel scope env).names.lookup y ≠ some .local ∧ cl.lookup y = env.cells.lookup y) (hmx : mC x = none)
    (hsw : swapsWith (.ListComp elt [⟨.Name x px, iter, ifs, 0⟩] scope pos) (some (.Name y py)) spos.line env = pure true) (hl : env.kindOf y = some .local)
    (hlen : ifs.length ≤ 1) (hcell : ∀ y ∈ scope.names, y.2 ≠ .cell) (hkind : scope.kind = .function) (hx : scope.names.lookup x = some .local)
    (hnames : ∀ y ∈ scope.names, y.2 = .local → scope.names.lookup y.1 = some .local) (hs : ∀ x, foldedSetIterable iter env x = pure x) (hp : (env.scope.kind == .class || (env.scope.kind == .module && env.locals != env.globals)) = false) :
    Ex G fs r env m (exec (.Assign [.Name y py] (.ListComp elt [⟨.Name x px, iter, ifs, 0⟩] scope pos) spos) env) H Q E := by
  refine Ex_AssignComp mC (fun A s a b c => wpAny_mono (h A s a b c) ?_ fun u' u' z => z) hclos hcl hm hmx hsw hl hlen hcell hkind hx hnames hs hp
  rintro v s₁ hqq
  refine byc fun hnn => ?_
  obtain ⟨src, H₁, a₁, ok, sv, c, q⟩ := hqq
  refine hnn ?_; clear hnn
  refine ⟨src, H₁, a₁, ok, sv, _, fun D hD => c.to hD, ?_⟩
  rintro D acc H' hD - ⟨rfl, rfl⟩
  rw [List.take_length]
  exact q D hD

abbrev KOrB (G : Ctx) (fs : List Env) (r : Nat) (env : Env) (m : Loc) (pos : Pos) (y : Expr) (rest : List Expr) (v : V) (Q : V → AH → Prop) (E : AH → Prop) : Bool → AH → Prop := fun b H => if b = true then Q v H else Ev G fs r env m (boolOp pos .Or (evalEach (y :: rest) env)) H Q E
abbrev KOrV (G : Ctx) (fs : List Env) (r : Nat) (env : Env) (m : Loc) (pos : Pos) (y : Expr) (rest : List Expr) (Q : V → AH → Prop) (E : AH → Prop) : V → AH → Prop := fun v H => Tr G fs r v H (KOrB G fs r env m pos y rest v Q E) E
abbrev KAnB (G : Ctx) (fs : List Env) (r : Nat) (env : Env) (m : Loc) (pos : Pos) (y : Expr) (rest : List Expr) (v : V) (Q : V → AH → Prop) (E : AH → Prop) : Bool → AH → Prop := fun b H => if b = true then Ev G fs r env m (boolOp pos .And (evalEach (y :: rest) env)) H Q E else Q v H
abbrev KAnV (G : Ctx) (fs : List Env) (r : Nat) (env : Env) (m : Loc) (pos : Pos) (y : Expr) (rest : List Expr) (Q : V → AH → Prop) (E : AH → Prop) : V → AH → Prop := fun v H => Tr G fs r v H (KAnB G fs r env m pos y rest v Q E) E
theorem Ev_or_cons {x y : Expr} {rest : List Expr} {pos : Pos} {Q : V → AH → Prop} (h : Ev G fs r env m (eval x env) H (KOrV G fs r env m pos y rest Q E) E) :
    Ev G fs r env m (boolOp pos .Or (evalEach (x :: y :: rest) env)) H Q E := by
  refine Ev_boolOp_cons (h.mono (fun v H₁ t => ?_) fun u' z => z)
  intro A s va a b v1
  refine wpAny_mono (t A s va a b v1) ?_ fun u' u' z => z
  first | refine qb fun t s' H' y z => ?_ | refine qu fun t s' H' y z => ?_ | rintro t s' ⟨H', y, z⟩
  refine ⟨H', y, ?_⟩
  cases t
  · exact z
  · exact z
theorem Ev_and_cons {x y : Expr} {rest : List Expr} {pos : Pos} {Q : V → AH → Prop} (h : Ev G fs r env m (eval x env) H (KAnV G fs r env m pos y rest Q E) E) :
    Ev G fs r env m (boolOp pos .And (evalEach (x :: y :: rest) env)) H Q E := by
  refine Ev_boolOp_cons (h.mono (fun v H₁ t => ?_) fun u' z => z)
  intro A s va a b v1
  refine wpAny_mono (t A s va a b v1) ?_ fun u' u' z => z
  first | refine qb fun t s' H' y z => ?_ | refine qu fun t s' H' y z => ?_ | rintro t s' ⟨H', y, z⟩
  refine ⟨H', y, ?_⟩
  cases t
  · exact z
  · exact z
theorem Pt_some {e : Expr} {Q : Option Nat → AH → Prop} (h : Ev G fs r env m (eval e env) H (KPt Q) E) : Pt G fs r env m (some e) H Q E := h
theorem Pt_none {Q : Option Nat → AH → Prop} (h : Q none H) : Pt G fs r env m none H Q E := h
theorem Sl_str {l : List Nat} {lo hi : Option Nat} {Q : V → AH → Prop} (hl : l.length ≤ sizeLine) (h : Q (.str (cut l lo hi)) H) : Sl G fs r (.str l) lo hi H Q E := ⟨hl, h⟩
theorem Sl_list {a : Addr} {vs : List V} {lo hi : Option Nat} {Q : V → AH → Prop} (ha : H a = some (.list vs)) (hl : vs.length ≤ sizeLine) (h : ∀ D, H D = none → Q (.ref D) (upd H D (.list (cut vs lo hi)))) : Sl G fs r (.ref a) lo hi H Q E := ⟨vs, ha, hl, h⟩
theorem GetI_at {l : List Nat} {i : Int} {n c : Nat} {Q : V → AH → Prop} (hi : i = (n : Int)) (hc : l[n]? = some c) (hl : l.length ≤ 1000000) (h : Q (.str [c]) H) : GetI G fs r (.str l) (.int i) H Q E := by
  have hn : n < l.length := (List.getElem?_eq_some_iff.mp hc).1
  exact GetI_str ⟨by lia, by lia⟩ (n := n) (c := c) (by rw [hi, StrLaws.seqIndex_nonneg (by lia) (by lia)]; rfl) hc h
theorem no_mC {env : Env} {scope : Scope} {cl : List (Str × Addr)} {m : Loc} : ∀ y v, noLoc y = some v → m y = some v ∧ env.kindOf y ≠ some .local ∧ (relabel scope env).names.lookup y ≠ some .local ∧ cl.lookup y = env.cells.lookup y := fun u' u' e => (nomatch e)
theorem no_cl {l : List (Str × Addr)} : ∀ p ∈ ([] : List (Str × Addr)), p ∈ l := fun u' h => (nomatch h)
theorem RetQ.drop {Q : V → AH → Prop} {v : V} {H' : AH} (c : Closed H) (e : Ext H H') (h : Q v H) : RetQ Q (.ret v) H' := ⟨H, .to c e, h⟩
theorem RetQ.dropN {Q : V → AH → Prop} {H' : AH} (c : Closed H) (e : Ext H H') (h : Q .none H) : RetQ Q .next H' := ⟨H, .to c e, h⟩
end
end SL18
section SL19
open PySem PySem.W PyProof.Rows PySem.Builtin PySem.Builtin.ObjectAttr
set_option tactic.hygienic false

theorem inst_of {h : Heap} {x C : Addr} {mA : Str → Option Value} (I : h.Inst x C mA) : ∃ ox od, InstAt h x ox C od := by
  refine byc fun hnn => ?_
  obtain ⟨o, hx, hc, hn, hd⟩ := I
  refine hnn ?_; clear hnn
  have nc : notCls o = true := by unfold notCls; cases e : o.data <;> first | rfl | exact absurd e (hn _)
  rcases hd with ⟨hd, _⟩ | ⟨d, hd, _, hns⟩
  · exact ⟨o, none, hx, hc, nc, by rw [hd]; trivial⟩
  · refine byc fun hnn => ?_
    obtain ⟨od, es, ep, e1, _⟩ := hns
    refine hnn ?_; clear hnn
    exact ⟨o, some od, hx, hc, nc, by rw [hd]; exact e1⟩

/-- an attribute of a user's exception is set -/
theorem exc_set {prog : Program} {w : World} {A : Around} {E : Value → Shared → Prop} {s : Shared} {K : Frag} {x C : Addr} {cd : ClassData} {mA : Str → Option Value} {name : Str} {v : Value} {ns : List Str} {Q : Unit → Shared → Prop}
    (X : K.In s.heap) (hc : clsIn K C = some cd) (hpass : refuseLoop (.ref x) "__setattr__" cd.mro = pure ()) (hobj : cd.mro.contains (.type "object") = true) (hne : cd.mro.isEmpty = false) (hdict : cd.hasDict = true)
    (hs : findIn K (.ref C) "__setattr__" = some (some (.builtin "object.__setattr__"))) (ht : takerIn K C name = some none) (I : s.heap.Inst x C mA) (hw : Within mA ns) (hsz : ns.length ≤ 1000)
    (hq : ∀ h' tk', h'.Inst x C (fun y => if y = name then some v else mA y) →
      (∀ b o, b ≠ x → (∀ o₀ dx, s.heap.get? x = some o₀ → o₀.dict = some dx → b ≠ dx) → s.heap.get? b = some o → h'.get? b = some o) →
      (∀ o₀, s.heap.get? x = some o₀ → ∃ o₁, h'.get? x = some o₁ ∧ o₁.cls = o₀.cls ∧ o₁.data = o₀.data ∧ o₁.slots = o₀.slots ∧ (∀ dx, o₀.dict = some dx → o₁.dict = some dx) ∧ ∀ dx, o₀.dict = none → o₁.dict = some dx → s.heap.get? dx = none) → Q () { s with heap := h', toks := tk' }) :
    wpAny (model prog w) A (setAttr (.ref x) name v) Q E s := by
  refine byc fun hnn => ?_
  obtain ⟨ox, od, IA⟩ := inst_of I
  refine hnn ?_; clear hnn
  refine set_plain X IA hs ?_
  have SF := PySem.F.store_object
  have sub : Looks (model prog w) s.heap (isInstance (.ref x) (.type "object")) true := IA.type.andThen (looks_mroIn X (by unfold mroIn; rw [hc, Option.bind_some, if_neg (by rw [hne]; decide), hobj]))
  refine codeAny_call_builtin SF.slot.plain SF.entry (@check_slot (model prog w) _ _ { s with toks := s.toks + 1 } "object.__setattr__" "object" "__setattr__" (.ref x) [.str name s.toks, v] [] _ SF.kind SF.split sub (SF.args (.ref x) (.str name s.toks) v) ?_)
  refine byc fun hnn => ?_
  obtain ⟨attr, ha, hr⟩ := Option.bind_eq_some_iff.mp ht
  refine hnn ?_; clear hnn
  have hm : Looks (model prog w) s.heap (mroOf (.ref C)) cd.mro := (looks_clsIn X hc).andThen .now
  have L3 : Looks (model prog w) s.heap (storeTaker? attr) none := by
    cases attr with
    | none => cases hr; exact .now
    | some a =>
      refine byc fun hnn => ?_
      obtain ⟨b, hb, hz⟩ := Option.map_eq_some_iff.mp hr
      refine hnn ?_; clear hnn
      refine (looks_takesIn X hb).andThen ?_
      cases b
      · exact .now
      · cases hz
  rw [osa_eq, refuse_eq]
  refine wpAny_bind (wpAny_bind (Looks.here (s := { s with toks := s.toks + 1 }) IA.type (wpAny_bind (Looks.here (s := { s with toks := s.toks + 1 }) hm ?_))))
  rw [hpass]
  refine wpAny_pure (wpAny_bind (Looks.here (s := { s with toks := s.toks + 1 }) IA.type (wpAny_bind (Looks.here (s := { s with toks := s.toks + 1 }) (looks_findIn X ha) (wpAny_bind (Looks.here (s := { s with toks := s.toks + 1 }) L3 ?_))))))
  refine byc fun hnn => ?_
  obtain ⟨o, hx, hcl, hnc, hd⟩ := I
  refine hnn ?_; clear hnn
  refine byc fun hnn => ?_
  obtain ⟨oc, od', oda, osl⟩ := o
  refine hnn ?_; clear hnn
  dsimp only at hcl hnc hd
  subst hcl
  refine wpAny_bind (wpAny_pure (wpAny_bind (wpAny_bind (wpAny_loadPart hx (wpAny_bind (Looks.here (s := { s with toks := s.toks + 1 }) (looks_clsIn X hc) ?_))))))
  rw [hdict]
  rcases hd with ⟨rfl, hmA⟩ | ⟨dx, rfl, hne', hns⟩
  · have hth : typeHasDict (.ref C) = true := by simp [typeHasDict]
    have hx₁ := Heap.get?_push_of_some { cls := .type "dict", data := .dict #[] } hx
    have hxs : x ≠ s.heap.objs.size := Nat.ne_of_lt (Heap.lt_size hx)
    have go : ∀ {R : Option Addr → Shared → Prop} {E' : Value → Shared → Prop}, (R (some s.heap.objs.size) { s with heap := (s.heap.push { cls := .type "dict", data := .dict #[] }).update x fun o => { cls := o.cls, dict := some s.heap.objs.size, data := o.data, slots := o.slots }, toks := s.toks + 1 }) →
        wpAny (model prog w) A.in1 (do let d ← alloc { cls := .type "dict", data := .dict #[] }; update x fun o => { cls := o.cls, dict := some d, data := o.data, slots := o.slots }; dictMade (.ref C) x d) R E' { s with toks := s.toks + 1 } := fun h => by
      refine wpAny_bind (wpAny_alloc' ?_)
      refine wpAny_bind (wpAny_update' hx₁ ?_)
      exact wpAny_pure h
    refine wpAny_mono (Q := fun a s' => a = some s.heap.objs.size ∧ s' = { s with heap := (s.heap.push { cls := .type "dict", data := .dict #[] }).update x fun o => { cls := o.cls, dict := some s.heap.objs.size, data := o.data, slots := o.slots }, toks := s.toks + 1 }) (E := fun u' u' => False) ?_ ?_ fun u' u' z => z.elim
    · rw [if_neg (by decide)]
      dsimp only
      rw [if_neg (by rw [hth]; decide)]
      cases oda <;> first | exact absurd rfl (hnc _) | exact go ⟨rfl, rfl⟩
    rintro a s' ⟨rfl, rfl⟩
    have hgd : ((s.heap.push { cls := .type "dict", data := .dict #[] }).update x fun o => { cls := o.cls, dict := some s.heap.objs.size, data := o.data, slots := o.slots }).get? s.heap.objs.size
        = some { cls := .type "dict", data := .dict #[] } :=
      (Heap.get?_update_ne _ _ _ _ hxs.symm).trans (Heap.get?_push_at rfl rfl)
    have hnd : ((s.heap.push { cls := .type "dict", data := .dict #[] }).update x fun o => { cls := o.cls, dict := some s.heap.objs.size, data := o.data, slots := o.slots }).Ns s.heap.objs.size (fun u' => none) :=
      ⟨_, #[], _, hgd, rfl, fun e he => absurd he (by simp), fun u' => rfl⟩
    show wpAny _ _ (storeInDict s.heap.objs.size (.str name s.toks) name v) _ _ _
    unfold storeInDict newKeyGuard
    refine wpAny_bind (wpAny_pure (wpAny_bind (wpAny_nsSet1 (Heap.Ns1.of_empty hnd) fun h' hn' hs => ?_)))
    refine byc fun hnn => ?_
    obtain ⟨oD, esD, epD, hoD, hdD, hcD⟩ := hn'.count (Within.cons name v Within.nil)
    refine hnn ?_; clear hnn
    refine wpAny_bind (wpAny_lookBehind hoD (by rw [hdD]; exact pastItsLine_dict (Nat.le_trans hcD (by rw [List.length_cons, List.length_nil, sizeLine_eq]; exact Nat.le_of_ble_eq_true rfl))) ?_)
    refine wpAny_pure ?_
    have hx' : h'.get? x = some { cls := .ref C, dict := some s.heap.objs.size, data := oda, slots := osl } := ?_
    refine hq h' _ ⟨_, hx', rfl, hnc, .inr ⟨s.heap.objs.size, rfl, hxs.symm, ?_⟩⟩ (fun b ob hbx u' hb => ?_)
      (fun o₀ h₀ => by cases hx.symm.trans h₀; exact ⟨_, hx', rfl, rfl, rfl, (fun dx e => by cases e), (fun dx u' e => by cases e; exact size_none)⟩)
    · refine byc fun hnn => ?_
      obtain ⟨o', es, ep, e1, e2, e3, eu, e4⟩ := hn'
      refine hnn ?_; clear hnn
      exact ⟨o', es, ep, e1, e2, e3, eu, fun y => by rw [e4 y]; by_cases hy : y = name <;> simp [hy, hmA]⟩
    · exact (hs.2 b (Nat.ne_of_lt (Heap.lt_size hb))).trans ((Heap.get?_update_ne _ _ _ _ hbx).trans (Heap.get?_push_of_some _ hb))
    · refine (hs.2 x hxs).trans (Heap.get?_update_self _ hx₁ ?_)
      have hfr := (Heap.get?_some_iff.mp hx).2
      cases oda <;> first | rfl | exact hfr
  · refine wpAny_pure (a := some dx) (wpAny_bind (wpAny_pure ?_))
    refine wpAny_bind (wpAny_nsSet1 (s := { s with toks := s.toks + 1 }) hns fun h' hn' hs => ?_)
    refine byc fun hnn => ?_
    obtain ⟨oD, esD, epD, hoD, hdD, hcD⟩ := hn'.count (Within.cons name v hw)
    refine hnn ?_; clear hnn
    refine wpAny_bind (wpAny_lookBehind hoD (by rw [hdD]; exact pastItsLine_dict (Nat.le_trans hcD (by rw [List.length_cons, sizeLine_eq]; omega))) ?_)
    refine wpAny_pure ?_
    refine hq h' _ ⟨_, (hs.2 x hne'.symm).trans hx, rfl, hnc, .inr ⟨dx, rfl, hne', hn'⟩⟩ (fun b ob u' hbd hb => ?_)
      (fun o₀ h₀ => ⟨o₀, (hs.2 x hne'.symm).trans h₀, rfl, rfl, rfl, fun u' e => e, fun u' h1 h2 => by rw [h1] at h2; cases h2⟩)
    exact (hs.2 b (hbd _ dx hx rfl)).trans hb
end SL19
section SL20
open PySem
open PySem.Sem (wp)
set_option tactic.hygienic false

section
variable {prog : Program} {w : World} {A : Around} {R : Result → Shared → Prop} {E : Value → Shared → Prop} {h : Heap} {g : Array GenState} {d : Drawn} {t : Nat} {os : OsState}
variable {nm q : Str} {C N : Addr} {bs bm : List Value} {hdct : Bool} {sn : List Str} {sub : List Value} {ab : Bool} {col : Option Bool} {dd : Option Addr} {k0 k1 k2 k3 k5 : Option Value}

theorem exc_check_new {M : Model} {rest : List Value} {Q : Unit → Shared → Prop} (hcB : (Value.ref C :: bm).contains (.type "Exception") = true) (hC : h.get? C = some (excClassObj nm q C N bs bm hdct sn sub ab col dd k0 k1 k2 k3 k5 "Exception.__new__"))
    (hq : Q () ⟨h, g, d, t, os⟩) : wpAny M A (checkBuiltinCall "Exception.__new__" ⟨.ref C :: rest, []⟩) Q E ⟨h, g, d, t, os⟩ := by
  have Fn := PySem.F.excBase_Exception
  have hstar := Fn.noStar
  simp only [checkBuiltinCall, Fn.newKind, Fn.newSplit, Fn.newRow]
  repeat (first | with_reducible refine wpAny_loadPart_at hC ?_ | (with_reducible refine wpAny_isSubtype_exc hC ?_; rw [hcB]) | with_reducible refine wpAny_staticBase_exc hC ?_ | with_reducible refine wpAny_madeBy_exc hC ?_ | simp only [bne_self_eq_false, Bool.false_eq_true, if_false] | wp_step)
  exact hq
theorem exc_new {rest : List Value} (hcB : (Value.ref C :: bm).contains (.type "Exception") = true) (hcA : (Value.ref C :: bm).contains (.type "AttributeError") = false) (hcN : (Value.ref C :: bm).contains (.type "NameError") = false)
    (hC : h.get? C = some (excClassObj nm q C N bs bm hdct sn sub ab col dd k0 k1 k2 k3 k5 "Exception.__new__"))
    (hq : R (.ok (.ret (.ref (h.objs.size + 1)))) ⟨(h.push { cls := .type "tuple", data := .seq rest.toArray }).push
      { cls := .ref C, data := .fields #[.ref h.objs.size, .none, .none, .none, .bool false, .none] }, g, d, t, os⟩) (hrest : rest.length ≤ sizeLine := by size_fits) :
    codeAny (model prog w) A (.builtin "Exception.__new__" ⟨.ref C :: rest, []⟩) R ⟨h, g, d, t, os⟩ := by
  have Fn := PySem.F.excBase_Exception
  have hends := Fn.ends
  refine codeAny_builtinAt Fn.entry ?_
  unfold Builtin.«BaseException.__new__»
  refine wpAt_bind ?_
  show wpAt _ _ _ (stack >>= _) _ _ _
  refine wpAt_bind (wpAt_stack fun p below => wpAt_of_wpAny ?_)
  wp_walk
  refine wpAt_of_wpAny ?_
  rw [Fn.owner]
  repeat (first | with_reducible refine wpAny_madeHere_exc Fn.canon hC ?_ | with_reducible refine wpAny_loadPart_at hC ?_ | (with_reducible refine wpAny_isSubtype_exc hC ?_; first | rw [hcB] | rw [hcA] | rw [hcN]) | wp_step)
  show R _ _
  rw [Heap.size_push]
  exact hq
/-- Exception.__init__ at an object of a user's exception -/
theorem exc_check_init {M : Model} {e : Addr} {oe : Obj} {rest : List Value} {Q : Unit → Shared → Prop} (hcB : (Value.ref C :: bm).contains (.type "Exception") = true)
    (hC : h.get? C = some (excClassObj nm q C N bs bm hdct sn sub ab col dd k0 k1 k2 k3 k5 "Exception.__new__")) (he : h.get? e = some oe) (hcls : oe.cls = .ref C) (hq : Q () ⟨h, g, d, t, os⟩) :
    wpAny M A (checkBuiltinCall "Exception.__init__" ⟨.ref e :: rest, []⟩) Q E ⟨h, g, d, t, os⟩ := by
  have F := PySem.F.excBase_Exception
  have hshort := F.noStar
  simp only [checkBuiltinCall, F.initKind, F.initSplit, F.initRow]
  repeat (first | (with_reducible refine wpAny_loadPart_at he ?_; rw [hcls]) | with_reducible refine wpAny_loadPart_at hC ?_ | (with_reducible refine wpAny_isSubtype_exc hC ?_; rw [hcB]) | wp_step)
  refine wpAny_onRaise ?_
  rw [show ∀ (a b : String) (n : Nat), Bind.check ⟨.positional, "*", "Exception", .self, [⟨"args", .varPos, false⟩]⟩ a b n (List.map (fun x => x.fst) ({ pos := Value.ref e :: rest } : Args).kw) = pure () from
    fun a b n => check_star_args _ _ _ _ _ _]
  exact wpAny_pure hq
end
end SL20
section SL21
open PySem
open PySem.Sem (wp)
set_option tactic.hygienic false

section
variable {prog : Program} {w : World} {A : Around} {R : Result → Shared → Prop} {E : Value → Shared → Prop} {h : Heap} {g : Array GenState} {d : Drawn} {t : Nat} {os : OsState}
variable {nm q : Str} {C N : Addr} {bs bm : List Value} {hdct : Bool} {sn : List Str} {sub : List Value} {ab : Bool} {col : Option Bool} {dd : Option Addr} {k0 k1 k2 k3 k5 : Option Value}

theorem exc_make {rest : List Value} {fI : Addr} (hcB : (Value.ref C :: bm).contains (.type "Exception") = true) (hcA : (Value.ref C :: bm).contains (.type "AttributeError") = false) (hcN : (Value.ref C :: bm).contains (.type "NameError") = false)
    (hC : h.get? C = some (excClassObj nm q C N bs bm hdct sn sub ab col dd k0 k1 k2 k3 k5 "Exception.__new__")) (hi : PySem.W.Looks (model prog w) h (typeLookup (.ref C) "__init__") (some (.ref fI)))
    (hb : ∀ self, PySem.W.Looks (model prog w) h (bindSpecial (.ref fI) self) (.ref fI, [self])) (hrest : rest.length ≤ sizeLine)
    (hq : codeAny (model prog w) (A.under (.builtin "type.__call__" ⟨.ref C :: rest, []⟩)) (.call (.ref fI) ⟨.ref (h.objs.size + 1) :: rest, []⟩) (PySem.W.InitBack (h.objs.size + 1) R)
      ⟨(h.push { cls := .type "tuple", data := .seq rest.toArray }).push { cls := .ref C, data := .fields #[.ref h.objs.size, .none, .none, .none, .bool false, .none] }, g, d, t, os⟩) :
    codeAny (model prog w) A (.call (.ref C) ⟨rest, []⟩) R ⟨h, g, d, t, os⟩ := by
  have Fn := PySem.F.excBase_Exception
  have f1 := tc_lookup
  have f2 := tc_bind (.ref C)
  have hT : (⟨h, g, d, t, os⟩ : Shared).TypeIs (.ref C) "type" := ⟨_, hC, rfl⟩
  refine codeAny_of_tree ?_
  show wpAny _ _ (callAny (.ref C) _) _ _ _
  repeat (any_goals (first | assumption | with_reducible refine wpAny_loadPart_at hC ?_ | wp_step))
  refine ⟨rfl, ?_⟩
  refine codeAny_call_builtin_at (Code.quiet_builtin _ (by decide +kernel)) entry_typeCall (wpAny_check_type_call_sub hC ?_)
  repeat (first | with_reducible refine wpAny_loadPart_at hC ?_ | with_reducible refine wpAny_madeBy_exc hC ?_ | wp_step)
  refine codeAny_call_builtin_code (Code.quiet_builtin _ Fn.quiet) (exc_check_new hcB hC ?_)
  refine exc_new hcB hcA hcN hC ?_ hrest
  show wpAny _ _ _ _ _ _
  have k : ∀ b o, h.get? b = some o → ((h.push { cls := .type "tuple", data := .seq rest.toArray }).push { cls := .ref C, data := .fields #[.ref h.objs.size, .none, .none, .none, .bool false, .none] }).get? b = some o := fun b o e => Heap.get?_push_of_some _ (Heap.get?_push_of_some _ e)
  have hC₁ := k _ _ hC
  have hget : ((h.push { cls := .type "tuple", data := .seq rest.toArray }).push
      { cls := .ref C, data := .fields #[.ref h.objs.size, .none, .none, .none, .bool false, .none] }).get? (h.objs.size + 1) = some
      { cls := .ref C, data := .fields #[.ref h.objs.size, .none, .none, .none, .bool false, .none] } := by heap_get
  have hcC : (Value.ref C :: bm).contains (.ref C) = true := by simp
  unfold isInstance
  repeat (first | with_reducible refine wpAny_loadPart_at hget ?_ | (with_reducible refine wpAny_isSubtype_exc hC₁ ?_; rw [hcC]) | wp_step)
  refine wpAny_isSubtype_exc hC₁ ?_
  rw [hcC]
  rw [if_neg (by decide)]
  unfold callSpecial? specialOf
  have t1 : PySem.W.Looks (model prog w) ((h.push { cls := .type "tuple", data := .seq rest.toArray }).push { cls := .ref C, data := .fields #[.ref h.objs.size, .none, .none, .none, .bool false, .none] }) (typeOf (.ref (h.objs.size + 1))) (.ref C) := (PySem.W.Looks.ld hget).andThen .now
  refine wpAny_bind (wpAny_holding (wpAny_bind (wpAny_bind (PySem.W.Looks.here (s := ⟨_, g, d, t, os⟩) t1 (PySem.W.Looks.here (s := ⟨_, g, d, t, os⟩) (hi.keeps k) ?_)))))
  refine wpAny_holding (wpAny_bind (PySem.W.Looks.here (s := ⟨_, g, d, t, os⟩) ((hb (.ref (h.objs.size + 1))).keeps k) (wpAny_bind (wpAny_call (codeAny_mono hq fun r s' z => ?_)))))
  rcases r with e | (v | _ | _ | _) <;> first | exact z | exact z.elim | skip
  obtain ⟨rfl, z⟩ := z
  exact wpAny_pure (wpAny_pure z)
end
end SL21
section SL22
open PySem
open PySem.Sem (wp)
set_option tactic.hygienic false

section
variable {prog : Program} {w : World} {A : Around} {R : Result → Shared → Prop} {E : Value → Shared → Prop} {h : Heap} {g : Array GenState} {d : Drawn} {t : Nat} {os : OsState}
variable {nm q : Str} {C N : Addr} {bs bm : List Value} {hdct : Bool} {sn : List Str} {sub : List Value} {ab : Bool} {col : Option Bool} {dd : Option Addr} {k0 k1 k2 k3 k5 : Option Value}

theorem exc_init {rest : List Value} {e : Addr} {oe : Obj} {ta : Addr} {v1 v2 v3 v4 v5 : Value} (hcB : (Value.ref C :: bm).contains (.type "Exception") = true)
    (hC : h.get? C = some (excClassObj nm q C N bs bm hdct sn sub ab col dd k0 k1 k2 k3 k5 "Exception.__new__")) (he : h.get? e = some oe) (hcls : oe.cls = .ref C) (hd : oe.data = .fields #[.ref ta, v1, v2, v3, v4, v5]) (hrest : rest.length ≤ sizeLine)
    (hq : R (.ok (.ret .none)) ⟨(h.push { cls := .type "tuple", data := .seq rest.toArray }).update e (Obj.mapFields fun x => x.setIfInBounds 0 (.ref h.objs.size)), g, d, t, os⟩) :
    codeAny (model prog w) A (.call (.builtin "Exception.__init__") ⟨.ref e :: rest, []⟩) R ⟨h, g, d, t, os⟩ := by
  have F := PySem.F.excBase_Exception
  refine codeAny_call_builtin F.init.plain F.initEntry (exc_check_init hcB hC he hcls ?_)
  obtain ⟨oc, od, oda, osl⟩ := oe
  dsimp only at hcls hd
  subst hcls hd
  wp_walk
  exact hq
end
end SL22
section SL23
open PySem PySem.W PyProof.Rows
set_option tactic.hygienic false

/-- a plain def is called; what holds afterwards is told by the body's proof alone -/
theorem call_raw {G : Ctx} {fs : List Env} {r : Nat} {f : Addr} {fo : Obj} {fd : FuncData} {body : List Stmt} {ps : List Str} {args : List V} {cs : List Value} {H : AH} {A : Around} {s : Shared} {R : Result → Shared → Prop} {P : Shared → Prop}
    (ho : G.K.lookup f = some fo) (hd : fo.data = .func fd) (hbody : fd.body = .stmts body) (hcode : codeIn G.K fd.code fd.qualname = true) (hclo : fd.closure = [])
    (hb : BindsTo s fd ⟨cs, []⟩ (ps.zip cs)) (hloc : ∀ p ∈ ps, fd.scope.names.lookup p = some .local) (hcell : ∀ x ∈ fd.scope.names, x.2 ≠ .cell)
    (a : AOK fs (r + 1) A) (b : Rel G fs H s) (vs : RVs s.heap H args cs)
    (h : ∀ h₁ t₁, (∀ b o, s.heap.get? b = some o → h₁.get? b = some o) → AOK (callEnv fd s.heap.objs.size f :: fs) r (A.deeper (callEnv fd s.heap.objs.size f)) → Rel G (callEnv fd s.heap.objs.size f :: fs) H { s with heap := h₁, toks := t₁ } →
      LocsR G.s₀.heap (callEnv fd s.heap.objs.size f) (locs ps args noLoc) h₁ H →
      wpAny (model G.prog G.w) (A.deeper (callEnv fd s.heap.objs.size f)) (execs body (callEnv fd s.heap.objs.size f)) (fun fl s' => A3 (fl = .next) (Rel G (callEnv fd s.heap.objs.size f :: fs) H s') (P s')) (fun u' u' => False) { s with heap := h₁, toks := t₁ })
    (q : ∀ s', Rel G fs H s' → P s' → R (.ok (.ret .none)) s')
    (hco : fd.scope.isCoroutine = false := by rfl) (hgen : fd.scope.isGenerator = false := by rfl) (hk : fd.scope.kind = .function := by rfl) :
    codeAny (model G.prog G.w) A (.call (.ref f) ⟨cs, []⟩) R s := by
  have hL : H s.heap.objs.size = none := by
    cases z : H s.heap.objs.size with
    | none => rfl
    | some o => obtain ⟨ob, e⟩ := b.has z; exact absurd (Heap.lt_size e) (Nat.lt_irrefl _)
  have hX := b.keepK
  refine codeAny_call_def (fd := fd) (body := body) (binds := ps.zip cs) (by have := a.depth; show A.depth < 1000; lia) (hX _ _ ho) hd b.topK.nolimit (codeRec_of hX hcode) hbody hb hcell
    (fun x hx => hloc x.1 (List.of_mem_zip hx).1) (fun h₁ hns hk₁ => ?_) hco hgen hk
  have fresh : G.s₀.heap.get? s.heap.objs.size = none := Heap.StaysIn.fresh b.base
  have b₁ : Rel G (callEnv fd s.heap.objs.size f :: fs) H { s with heap := h₁, toks := s.toks + (ps.zip cs).length } := by
    have g := b.grow (t := s.toks + (ps.zip cs).length) hk₁
    exact ⟨g.base, g.off, g.objs, .cons (by show fd.scope.kind ≠ .module; rw [hk]; decide) rfl hns fresh g.frames, fun env he L hf => by
      cases he with
      | head => cases hf; exact hL
      | tail _ he => exact g.foff env he L hf, g.gens, g.os⟩
  have vs₁ : RVs h₁ H args cs := vs.mono (Keep.of_grow hk₁)
  have c₁ : LocsR G.s₀.heap (callEnv fd s.heap.objs.size f) (locs ps args noLoc) h₁ H := by
    refine ⟨⟨_, hns, fun x v e u' => ?_⟩, fun x v e kn => ?_, hL, fun p hp => ?_, fresh, fun p hp => ?_⟩
    · rcases locs_rel vs₁ e with ⟨_, c, e1, rv⟩ | ⟨e1, _⟩
      · exact ⟨c, e1, rv⟩
      · cases e1
    · rcases locs_rel vs₁ e with ⟨hm, _⟩ | ⟨e1, _⟩
      · exact (kn (hloc x hm)).elim
      · cases e1
    · change p ∈ fd.closure at hp; rw [hclo] at hp; cases hp
    · change p ∈ fd.closure at hp; rw [hclo] at hp; cases hp
  refine wpAny_mono (h h₁ _ hk₁ a.deeper b₁ c₁) ?_ fun u' u' z => z.elim
  rintro fl s' ⟨rfl, b', p⟩
  exact q s' b'.pop p
end SL23
section SL24
open PySem PySem.W PyProof.Rows
set_option tactic.hygienic false

/-- but for S all stays -/
def Poke (S : Addr → Prop) (h h' : Heap) : Prop := ∀ b o, h.get? b = some o → (∃ o', h'.get? b = some o') ∧ (¬ S b → h'.get? b = some o)
theorem Poke.grow {S : Addr → Prop} {h h' : Heap} (k : ∀ b o, h.get? b = some o → h'.get? b = some o) : Poke S h h' := fun b o e => ⟨⟨o, k b o e⟩, fun u' => k b o e⟩
def NoSeq (S : Addr → Prop) (h : Heap) : Prop := ∀ b o, S b → h.get? b = some o → ∀ it n, o.data ≠ .seq it n
theorem Poke.x {S : Addr → Prop} {H : AH} {h h' : Heap} (x : Poke S h h') (d : NoSeq S h) : KeepX S H h H h' := fun b o e => ⟨(x b o e).1, fun n => ⟨n, fun q => by
  by_cases z : S b
  · obtain ⟨it, k, e1⟩ := q z
    exact absurd e1 (d b o z e it k)
  · exact ⟨o.slots, (x b o e).2 z⟩⟩⟩
theorem Rel.poke {G : Ctx} {fs : List Env} {S : Addr → Prop} {H : AH} {s : Shared} {h' : Heap} {t : Nat} (r : Rel G fs H s) (x : Poke S s.heap h') (d : NoSeq S s.heap) (n : ∀ b, S b → H b = none ∧ G.s₀.heap.get? b = none ∧ b ∉ fs.filterMap (·.frame)) :
    Rel G fs H { s with heap := h', toks := t } := by
  have own : ∀ b ob, H b ≠ none → s.heap.get? b = some ob → h'.get? b = some ob := fun b ob hb e => (x b ob e).2 fun q => hb (n b q).1
  refine r.stepX (x.x d) (fun a o e => RO.mono (x.x d) (fun u' u' e => e) own e (r.objs a o e)) (fun b o e => (x b o (r.base b o e)).2 fun q => ?_) fun env he L hf z => ((n L z).2.2 (List.mem_filterMap.mpr ⟨env, he, hf⟩)).elim
  rw [(n b q).2.1] at e; cases e
theorem LocsR.poke {base : Heap} {env : Env} {m : Loc} {S : Addr → Prop} {H : AH} {h h' : Heap} (c : LocsR base env m h H) (x : Poke S h h') (d : NoSeq S h) (n : ∀ b, S b → b ≠ env.locals ∧ ∀ p ∈ env.cells, b ≠ p.2) : LocsR base env m h' H := by
  obtain ⟨⟨mc, ⟨oL, es, ep, e1, e2, e3, e4⟩, hl⟩, hc, ho, hco, f1, f2⟩ := c
  have e1' := (x _ _ e1).2 fun z => (n _ z).1 rfl
  refine ⟨⟨mc, ⟨_, es, ep, e1', e2, e3, e4⟩, fun x' v a b => ?_⟩, fun x' v a b => ?_, ho, fun p hp => ?_, f1, f2⟩
  · obtain ⟨c, q, r⟩ := hl x' v a b; exact ⟨c, q, r.mono (x.x d)⟩
  · obtain ⟨c, o, cv, q1, q2, q3, q4⟩ := hc x' v a b
    exact ⟨c, _, cv, q1, (x _ _ q2).2 fun z => (n _ z).2 _ (mem_of_lookup q1) rfl, q3, q4.mono (x.x d)⟩
  · obtain ⟨a, o, v, b, d'⟩ := hco p hp
    exact ⟨a, _, v, (x _ _ b).2 fun z => (n _ z).2 _ hp rfl, d'⟩
end SL24
section SL25
open PySem PySem.W PyProof.Rows
set_option tactic.hygienic false

theorem Mt_type {G : Ctx} {fs : List Env} {r : Nat} {T id : String} {name : Str} {H : AH} {Q : V → List V → AH → Prop} {E : AH → Prop} (ht : typeOf (.type T) = pure (.type "type")) (hs : Manifest.isStub T = false)
    (e : findCls G.K (.type T) (.type "type") name = some (.val (.builtin id))) (hh : handedIn (.builtin id) = true) (h : Q (.bi id) [] H) : Mt G fs r (.ty T) name H Q E := fun A s co pl a b v => by
  (first | (have hqv := v.inv; clear v; obtain ⟨_, rfl⟩ := hqv) | (have hqv := v.inv; clear v; obtain rfl := hqv) | cases v)
  have X := b.keepK
  have hstub : opaqueClassAbove (.type T) = pure none := by unfold opaqueClassAbove; dsimp only; rw [hs]; rfl
  have L0 : Looks (model G.prog G.w) s.heap (typeOf (.type T)) (.type "type") := Looks.of_pure ht
  have hg : findIn G.K (.type "type") "__getattribute__" = some (some (.builtin "type.__getattribute__")) := type_tga
  unfold getMethod specialOf
  refine wpAny_bind (wpAny_bind (L0.here ((looks_findIn X hg).here ?_)))
  dsimp only
  rw [if_pos canon_tga]
  refine wpAny_bind (wpAny_mono (Q := fun v s' => v = .builtin id ∧ s' = { s with toks := s.toks + 1 }) (E := fun u' u' => False) ?_ (fun v s' z => wpAny_pure ?_) fun u' u' z => z.elim)
  · have LO : Looks (model G.prog G.w) s.heap (opaqueClassAbove (.type T)) none := Looks.of_pure hstub
    refine cls_open X LO L0 hg (looks_hook X (r := none) (by rfl)) (by show subIn G.K _ _ = _; rfl) e
      (wpAny_pure (by show wpAny _ _ (handedOut _) _ _ _; rw [handedOut_of hh]; exact wpAny_pure ⟨rfl, rfl⟩))
  · obtain ⟨rfl, rfl⟩ := z
    exact ⟨.bi id, [], H, After.toks b, .bi _, .nil, h⟩
theorem Mt_exc_init {G : Ctx} {fs : List Env} {r : Nat} {H : AH} {Q : V → List V → AH → Prop} {E : AH → Prop} (h : Q (.bi "Exception.__init__") [] H) : Mt G fs r (.ty "Exception") "__init__" H Q E :=
  Mt_type (by rfl) (by decide +kernel) (by rfl) (by decide +kernel) h
end SL25
section SL26
open PySem PySem.W PyProof.Rows
set_option tactic.hygienic false

section
variable {G : Ctx} {fs : List Env} {r : Nat} {env : Env} {m : Loc} {H : AH}
theorem call_with_raw {A : Around} {pos : Pos} {f : V} {vf : Value} {first : List V} {cfirst : List Value} {args : List Expr} {s : Shared} {asv : List V} {Q : Value → Shared → Prop} {E : Value → Shared → Prop} (a : AOK fs r A) (b : Rel G fs H s) (c : LocsR G.s₀.heap env m s.heap H) (k : KeepV G f) (vr : RV s.heap H f vf) (vs : RVs s.heap H first cfirst)
    (h : Sp G fs r env m (spliced (backTo pos (starEach args env))) H (fun as H₁ => as = asv ∧ H₁ = H) fun u' => False)
    (q : ∀ cs s₁, After G fs H s H s₁ → RVs s₁.heap H asv cs → wpAny (model G.prog G.w) A (call vf (cfirst ++ cs) []) Q E s₁) (hp : (backTo pos (starEach args env)).any (·.1) = false := by rfl) :
    wpAny (model G.prog G.w) A (callWith pos vf cfirst (backTo pos (starEach args env)) []) Q E s := by
  refine callWith_of (P := G.K.In) (by rw [hp]; rfl) (k.keeps vr) ?_
  have body := h A s a b c
  have body' : wpAny (model G.prog G.w) A (spliced (backTo pos (starEach args env))) (fun vs s₁ => G.K.In s₁.heap ∧ wpAny (model G.prog G.w) A (call vf (cfirst ++ vs) []) Q E s₁) E s := by
    refine wpAny_mono body ?_ fun _ _ ⟨_, _, _, z⟩ => z.elim
    first | (refine qv fun cs s₁ as H₁ a₁ v₁ hqq => ?_; obtain ⟨rfl, rfl⟩ := hqq) | (refine ql fun cs s₁ as H₁ a₁ v₁ hqq => ?_; obtain ⟨rfl, rfl⟩ := hqq) | rintro cs s₁ ⟨as, H₁, a₁, v₁, rfl, rfl⟩
    exact ⟨a₁.1.keepK, q cs s₁ a₁ v₁⟩
  generalize hX : backTo pos (starEach args env) = X at hp body' ⊢
  cases X with
  | nil =>
    unfold evalArgs
    show wpAny _ A (spliced [] >>= _) _ _ s
    refine wpAny_bind (wpAny_mono body' (fun vs s' h' => ?_) fun u' u' x => x)
    refine wpAny_bind (wpAny_pure (wpAny_holding ?_))
    exact wpAny_bind (wpAny_pure (wpAny_bind (wpAny_pure (wpAny_pure h'))))
  | cons x rest =>
    obtain ⟨st, t⟩ := x
    rw [List.any_cons, Bool.or_eq_false_iff] at hp
    obtain rfl : st = false := hp.1
    exact Calls.evalArgs_plain body'
end
end SL26
section SL27
open PySem PySem.W PyProof.Rows
set_option tactic.hygienic false

theorem off_new {G : Ctx} {fs : List Env} {H : AH} {s : Shared} (b : Rel G fs H s) {x : Addr} (h : s.heap.get? x = none) : H x = none ∧ G.s₀.heap.get? x = none ∧ x ∉ fs.filterMap (·.frame) := by
  refine ⟨?_, ?_, fun q => ?_⟩
  · cases z : H x with
    | none => rfl
    | some o => obtain ⟨ob, e⟩ := b.has z; rw [h] at e; cases e
  · cases z : G.s₀.heap.get? x with
    | none => rfl
    | some o => rw [b.base x o z] at h; cases h
  · obtain ⟨_, o, ho, _⟩ := b.frames.mem q
    rw [h] at ho; cases ho
theorem inst_keep {H : AH} {h h' : Heap} {e C : Addr} {mA : Str → Option Value} (k : Keep H h H h') (hH : H e = none) (I : h.Inst e C mA) (hd : ∀ ob dx, h.get? e = some ob → ob.dict = some dx → H dx = none) :
    h'.Inst e C mA ∧ ∀ ob, h.get? e = some ob → ∃ sl, h'.get? e = some { ob with slots := sl } := by
  refine ⟨?_, fun ob q => k.at q hH⟩
  obtain ⟨o, ho, hc, hn, hdd⟩ := I
  obtain ⟨sl, e1⟩ := k.at ho hH
  refine ⟨_, e1, hc, hn, ?_⟩
  rcases hdd with z | ⟨d, z, nd, ⟨od, es, ep, z1, z2, z3⟩⟩
  · exact .inl z
  · obtain ⟨sl', e2⟩ := k.at z1 (hd o d ho z)
    exact .inr ⟨d, z, nd, ⟨_, es, ep, e2, z2, z3⟩⟩
set_option tactic.hygienic true in
theorem set_step {G : Ctx} {fs : List Env} {r : Nat} {env : Env} {m : Loc} {H : AH} {A : Around} {s0 s : Shared} {e C : Addr} {cd : ClassData} {attr : Str} {o ex : Expr} {p pos : Pos} {v : V} {mA : Str → Option Value} {ns : List Str}
    (hc : clsIn G.K C = some cd) (hpass : ∀ x, PySem.refuseLoop (.ref x) "__setattr__" cd.mro = pure ()) (hobj : cd.mro.contains (.type "object") = true) (hne : cd.mro.isEmpty = false) (hdict : cd.hasDict = true)
    (hs : findIn G.K (.ref C) "__setattr__" = some (some (.builtin "object.__setattr__"))) (ht : takerIn G.K C attr = some none)
    (a : AOK fs r A) (b0 : Rel G fs H s0) (c0 : LocsR G.s₀.heap env m s0.heap H) (b : Rel G fs H s) (c : LocsR G.s₀.heap env m s.heap H) (P : KeepX (· = e) H s0.heap H s.heap) (hH : H e = none) (hbase : G.s₀.heap.get? e = none) (hfr : e ∉ fs.filterMap (·.frame)) (hL : e ≠ env.locals) (hcl : env.cells = [])
    (I : s.heap.Inst e C mA) (hsq : ∀ ob, s.heap.get? e = some ob → ∃ vs, ob.data = .fields vs) (W : Within mA ns) (hn : ns.length ≤ 100) (hdx : ∀ ob dx, s.heap.get? e = some ob → ob.dict = some dx → s0.heap.get? dx = none)
    (hv : Ev G fs r env m (eval ex env) H (fun x H' => x = v ∧ H' = H) fun u' => False) (ho : Ev G fs r env m (eval o env) H (fun x H' => x = .ref e ∧ H' = H) fun u' => False)
    (hsw : swapsWith ex (some (.Attribute o attr p)) pos.line env = pure false := by rfl) :
    wpAny (model G.prog G.w) A (exec (.Assign [.Attribute o attr p] ex pos) env) (fun fl s' => A7 (fl = .next) (Rel G fs H s') (LocsR G.s₀.heap env m s'.heap H) (KeepX (· = e) H s0.heap H s'.heap) ((X2 fun mA' ns' => A3 (s'.heap.Inst e C mA') (Within mA' ns') (ns'.length = ns.length + 1))) (∀ ob dx, s'.heap.get? e = some ob → ob.dict = some dx → s0.heap.get? dx = none) (∀ ob, s.heap.get? e = some ob → ∃ ob', A3 (s'.heap.get? e = some ob') (ob'.data = ob.data) (ob'.cls = ob.cls))) (fun u' u' => False) s := by
  refine plainObj_wpAny_Assign_Attribute (wpAny_mono (hv A s a b c) ?_ fun _ _ ⟨_, _, _, z⟩ => z.elim) hsw
  rintro cv s₁ hqq
  refine byc fun hnn => ?_
  obtain ⟨x₁, H₁, a₁, v₁, ex₁, eH₁⟩ := hqq
  refine hnn ?_; clear hnn
  obtain rfl := ex₁.symm
  obtain rfl := eH₁.symm
  have c₁ := c.keep a₁.2
  refine wpAny_mono (ho A s₁ a a₁.1 c₁) ?_ fun _ _ ⟨_, _, _, z⟩ => z.elim
  rintro co s₂ hqq
  refine byc fun hnn => ?_
  obtain ⟨x₂, H₂, a₂, v₂, ex₂, eH₂⟩ := hqq
  refine hnn ?_; clear hnn
  obtain rfl := ex₂.symm
  obtain rfl := eH₂.symm
  (first | (have hqv := v₂.inv; clear v₂; obtain ⟨_, rfl⟩ := hqv) | (have hqv := v₂.inv; clear v₂; obtain rfl := hqv) | cases v₂)
  have A₂ := a₁.trans a₂
  have hHd : ∀ ob dx, s.heap.get? e = some ob → ob.dict = some dx → H dx = none := fun ob dx h1 h2 => (off_new b0 (hdx ob dx h1 h2)).1
  obtain ⟨I₂, sm⟩ := inst_keep A₂.2 hH I hHd
  obtain ⟨oe, hoe⟩ : ∃ oe, s.heap.get? e = some oe := by obtain ⟨oe, z, _⟩ := I; exact ⟨oe, z⟩
  obtain ⟨sl, hoe2⟩ := sm oe hoe
  refine exc_set A₂.1.keepK hc (hpass e) hobj hne hdict hs ht I₂ W (by lia) fun h' tk' I' hk hsame => ?_
  refine byc fun hnn => ?_
  obtain ⟨o₁, g1, g2, g3, g4, g5, g6⟩ := hsame _ hoe2
  refine hnn ?_; clear hnn
  let S : Addr → Prop := fun z => z = e ∨ oe.dict = some z
  have pk : Poke S s₂.heap h' := fun z oz hz => by
    by_cases q1 : z = e
    · rw [q1]; exact ⟨⟨o₁, g1⟩, fun n => absurd (.inl rfl) n⟩
    · by_cases q2 : oe.dict = some z
      · refine ⟨?_, fun n => absurd (.inr q2) n⟩
        refine byc fun hnn => ?_
        obtain ⟨ox, w1, _, _, w2⟩ := I'
        refine hnn ?_; clear hnn
        rw [g1] at w1; cases w1
        rcases w2 with ⟨w2, _⟩ | ⟨d, w2, _, ⟨od, es, ep, w3, _⟩⟩
        · rw [g5 z q2] at w2; cases w2
        · rw [g5 z q2] at w2; cases w2; exact ⟨od, w3⟩
      · have := hk z oz q1 (fun o₀ dx h1 h2 => by rw [hoe2] at h1; cases h1; exact fun w => q2 (w ▸ h2)) hz
        exact ⟨⟨oz, this⟩, fun u' => this⟩
  have nsq : NoSeq S s₂.heap := by
    rintro z oz (ez | q) hz it n
    · rw [ez, hoe2] at hz; cases hz
      obtain ⟨vs, w⟩ := hsq _ hoe
      intro w'; rw [show oe.data = _ from w'] at w; cases w
    · refine byc fun hnn => ?_
      obtain ⟨ox, w1, _, _, w2⟩ := I₂
      refine hnn ?_; clear hnn
      rw [hoe2] at w1; cases w1
      rcases w2 with ⟨w2, _⟩ | ⟨d, w2, _, ⟨od, es, ep, w3, w4, _⟩⟩
      · rw [show oe.dict = none from w2] at q; cases q
      · rw [show oe.dict = some d from w2] at q; cases q
        rw [w3] at hz; cases hz; rw [w4]; intro w'; cases w'
  have offS : ∀ z, S z → H z = none ∧ G.s₀.heap.get? z = none ∧ z ∉ fs.filterMap (·.frame) := by
    rintro z (ez | q)
    · rw [ez]; exact ⟨hH, hbase, hfr⟩
    · exact off_new b0 (hdx _ _ hoe q)
  have locS : ∀ z, S z → z ≠ env.locals ∧ ∀ p ∈ env.cells, z ≠ p.2 := by
    rintro z (ez | q)
    · rw [ez]; exact ⟨hL, fun p hp => by rw [hcl] at hp; cases hp⟩
    · refine ⟨fun w => ?_, fun p hp => by rw [hcl] at hp; cases hp⟩
      have := hdx _ _ hoe q
      refine byc fun hnn => ?_
      obtain ⟨⟨mc, ⟨oL, es, ep, e1, _⟩, _⟩, _⟩ := c0
      refine hnn ?_; clear hnn
      rw [w, e1] at this; cases this
  refine ⟨rfl, A₂.1.poke pk nsq offS, (c.keep A₂.2).poke pk nsq locS, ?_, ⟨_, attr :: ns, I', W.cons attr cv, by simp⟩, fun ob dx h1 h2 => ?_, fun ob h1 => ?_⟩
  · have k1 : KeepX (· = e) H s0.heap H s₂.heap := P.trans (KeepX.of A₂.2)
    intro z oz hz
    refine byc fun hnn => ?_
    obtain ⟨⟨o', e'⟩, f⟩ := k1 z oz hz
    refine hnn ?_; clear hnn
    refine ⟨(pk z o' e').1, fun n => ⟨n, fun q => ?_⟩⟩
    obtain ⟨sl', e1⟩ := (f n).2 q
    by_cases w : S z
    · rcases w with ez | w
      · refine byc fun hnn => ?_
        obtain ⟨it, k, w⟩ := q ez
        refine hnn ?_; clear hnn
        exact absurd w (nsq z _ (.inl ez) e1 it k)
      · rw [hdx _ _ hoe w] at hz; cases hz
    · exact ⟨sl', (pk z _ e1).2 w⟩
  · rw [g1] at h1; cases h1
    cases q : oe.dict with
    | some d => rw [g5 d q] at h2; cases h2; exact hdx _ _ hoe q
    | none =>
      have := g6 dx q h2
      cases w : s0.heap.get? dx with
      | none => rfl
      | some ow =>
        obtain ⟨ow', w'⟩ := (KeepX.trans P (KeepX.of A₂.2) dx ow w).1
        rw [this] at w'; cases w'
  · rw [hoe] at h1; cases h1; exact ⟨o₁, g1, g3, g2⟩
end SL27
section ZH
open PySem PySem.W PyProof.Rows
section
local macro_rules | `(tactic| o_head $h) => `(tactic| skip)
set_option maxHeartbeats 8000000 in
/-- the head is asked for its heap alone: the constant Z.heap_1 -/
theorem Z : PySem.Challenge.rw_og0100_01.row.Holds → True := fun h => by
  have : PySem.Challenge.rw_og0100_01.row.Holds := by
    k_head
    exact h
  trivial
end
end ZH
section W0
open PySem PySem.W PyProof.Rows

theorem lr {a b r : Nat} (h : a ≤ r) (e : Nat.ble (b + 1) a = true) : b ≤ r - 1 := Nat.le_sub_one_of_lt (Nat.lt_of_lt_of_le (Nat.le_of_ble_eq_true e) h)
theorem lq {a b r : Nat} (h : a ≤ r) (e : Nat.ble b a = true) : b ≤ r := Nat.le_trans (Nat.le_of_ble_eq_true e) h
/-- this program's heap -/
theorem idx {n : Nat} (h : n ≤ 1000000) : (0 : Int) ≤ (n : Int) ∧ (n : Int) < 2 ^ 62 := by lia
def GK (G : Ctx) : Prop := G.K = Z.heap_1 G.w.params

theorem one_of {α β : Type} {cs : List α} {a : β} (h : cs.length = [a].length) : ∃ c, cs = [c] := List.length_eq_one_iff.mp h
theorem uncons {α : Type} {cs : List α} {n : Nat} (h : cs.length = n + 1) : ∃ c ds, cs = c :: ds ∧ ds.length = n := by
  cases cs with
  | nil => cases h
  | cons c ds => exact ⟨c, ds, rfl, Nat.succ.inj h⟩
theorem two_of {α β : Type} {cs : List α} {a b : β} (h : cs.length = [a, b].length) : ∃ c d, cs = [c, d] := by
  obtain ⟨c, ds, e, h⟩ := uncons h
  obtain ⟨d, q⟩ := one_of (a := a) h
  exact ⟨c, d, q ▸ e⟩
theorem three_of {α β : Type} {cs : List α} {a b e : β} (h : cs.length = [a, b, e].length) : ∃ c d f, cs = [c, d, f] := by
  obtain ⟨c, ds, e, h⟩ := uncons h
  obtain ⟨d, f, q⟩ := two_of (a := a) (b := a) h
  exact ⟨c, d, f, q ▸ e⟩
theorem four_of {α β : Type} {cs : List α} {a b e g : β} (h : cs.length = [a, b, e, g].length) : ∃ c d f i, cs = [c, d, f, i] := by
  obtain ⟨c, ds, e, h⟩ := uncons h
  obtain ⟨d, f, i, q⟩ := three_of (a := a) (b := a) (e := a) h
  exact ⟨c, d, f, i, q ▸ e⟩
theorem five_of {α β : Type} {cs : List α} {a b e g j : β} (h : cs.length = [a, b, e, g, j].length) : ∃ c d f i k, cs = [c, d, f, i, k] := by
  obtain ⟨c, ds, e, h⟩ := uncons h
  obtain ⟨d, f, i, k, q⟩ := four_of (a := a) (b := a) (e := a) (g := a) h
  exact ⟨c, d, f, i, k, q ▸ e⟩

section
variable {G : Ctx} {fs : List Env} {r : Nat} {H : AH} {Q : V → AH → Prop} {E : AH → Prop}

theorem GV.strL {x : Str} {t : Tok} {l : List Nat} (e : x.cps.toList = l) : GV (.str l) (.str x t) := e ▸ GV.str x t
theorem Ev_strL {env : Env} {m : Loc} {x : Str} {k pos} {l : List Nat} (e : x.cps.toList = l) (h : Q (.str l) H) : Ev G fs r env m (eval (.Constant (.str x) k pos) env) H Q E := Ev_str (e.symm ▸ h)

theorem AOK.le {fs : List Env} {r r' : Nat} {A : Around} (a : AOK fs r A) (h : r' ≤ r) : AOK fs r' A := a.mono h
theorem CC.le {f : V} {args : List V} {r' : Nat} (h : CC G fs r' f args H Q E) (l : r' ≤ r) : CC G fs r f args H Q E := fun A s vf cs a => h A s vf cs (a.mono l)
theorem Cl.le {f : V} {args : List V} {r' : Nat} (h : Cl G fs r' f args H Q E) (l : r' ≤ r) : Cl G fs r f args H Q E := fun A s vf cs a => h A s vf cs (a.mono l)

theorem FN {f : Addr} {fo : Obj} {fd : FuncData} {body : List Stmt} {ps : List Str} {args : List V} {env : Addr → Env} (hK : GK G) (hr : 1 ≤ r)
    (ho : (Z.heap_1 G.w.params).lookup f = some fo) (hda : fo.data = .func fd) (hbody : fd.body = .stmts body) (hcode : codeIn (Z.heap_1 G.w.params) fd.code fd.qualname = true) (hclo : fd.closure = [])
    (hb : ∀ cs : List Value, cs.length = args.length → bindArgs fd ⟨cs, []⟩ = pure (ps.zip cs))
    (hloc : ∀ p ∈ ps, fd.scope.names.lookup p = some .local) (hcell : ∀ x ∈ fd.scope.names, x.2 ≠ .cell)
    (hco : fd.scope.isCoroutine = false) (hgen : fd.scope.isGenerator = false) (hk : fd.scope.kind = .function) (he : ∀ L, callEnv fd L f = env L)
    (h : Closed H → ∀ L, H L = none → Ex G (env L :: fs) (r - 1) (env L) (locs ps args noLoc) (execs body (env L)) H (RQ Q) E) :
    CC G fs r (.ref f) args H Q E := by
  obtain ⟨r, rfl⟩ : ∃ r', r = r' + 1 := ⟨r - 1, by lia⟩
  refine CC_def (dvals := []) (dcs := []) (by rw [hK]; exact ho) hda hbody (by rw [hK]; exact hcode) hclo (fun s _ cs hl => ?_) (fun _ _ _ _ => .nil) hloc hcell (fun c L hL => ?_) hco hgen hk
  · have := hb cs hl
    rw [List.append_nil]
    exact BindsTo.of_eq this
  · rw [List.append_nil, he]; exact h c L hL
/-- a function with cells -/
theorem FC {f : Addr} {fo : Obj} {fd : FuncData} {body : List Stmt} {ps : List Str} {args : List V} {env : Addr → Env} (hK : GK G) (hr : 1 ≤ r)
    (ho : (Z.heap_1 G.w.params).lookup f = some fo) (hda : fo.data = .func fd) (hbody : fd.body = .stmts body) (hcode : codeIn (Z.heap_1 G.w.params) fd.code fd.qualname = true) (hclo : fd.closure = [])
    (hb : ∀ cs : List Value, cs.length = args.length → bindArgs fd ⟨cs, []⟩ = pure (ps.zip cs)) (hlen : ps.length = args.length)
    (hkd : ∀ p ∈ ps, fd.scope.names.lookup p = some .local ∨ (fd.scope.names.lookup p = some .cell ∧ ∀ n, ((cellsFrom n fd.scope.names []).lookup p).isSome = true))
    (hnd : ∀ n p, p ∈ cellsFrom n fd.scope.names [] → (cellsFrom n fd.scope.names []).lookup p.1 = some p.2)
    (hco : fd.scope.isCoroutine = false) (hgen : fd.scope.isGenerator = false) (hk : fd.scope.kind = .function) (he : ∀ L, callEnvC fd L f = env L)
    (h : Closed H → ∀ L, H L = none → Ex G (env L :: fs) (r - 1) (env L) (locs ps args noLoc) (execs body (env L)) H (RQ Q) E) :
    CC G fs r (.ref f) args H Q E := by
  obtain ⟨r, rfl⟩ : ∃ r', r = r' + 1 := ⟨r - 1, by lia⟩
  exact CC_cells (by rw [hK]; exact ho) hda hbody (by rw [hK]; exact hcode) hclo hb hlen hkd hnd (fun c L hL => by rw [he]; exact h c L hL) hco hgen hk
/-- a function with defaults -/
theorem FD {f : Addr} {fo : Obj} {fd : FuncData} {body : List Stmt} {ps : List Str} {args dvals : List V} {dcs : List Value} {env : Addr → Env} (hK : GK G) (hr : 1 ≤ r)
    (ho : (Z.heap_1 G.w.params).lookup f = some fo) (hda : fo.data = .func fd) (hbody : fd.body = .stmts body) (hcode : codeIn (Z.heap_1 G.w.params) fd.code fd.qualname = true) (hclo : fd.closure = [])
    (hb : ∀ s, (Z.heap_1 G.w.params).In s.heap → ∀ cs : List Value, cs.length = args.length → BindsTo s fd ⟨cs, []⟩ (ps.zip (cs ++ dcs)))
    (hdv : ∀ (h : Heap) (H : AH), (Z.heap_1 G.w.params).In h → (∀ b o, (Z.heap_1 G.w.params).lookup b = some o → H b = none) → RVs h H dvals dcs)
    (hloc : ∀ p ∈ ps, fd.scope.names.lookup p = some .local) (hcell : ∀ x ∈ fd.scope.names, x.2 ≠ .cell)
    (hco : fd.scope.isCoroutine = false) (hgen : fd.scope.isGenerator = false) (hk : fd.scope.kind = .function) (he : ∀ L, callEnv fd L f = env L)
    (h : Closed H → ∀ L, H L = none → Ex G (env L :: fs) (r - 1) (env L) (locs ps (args ++ dvals) noLoc) (execs body (env L)) H (RQ Q) E) :
    CC G fs r (.ref f) args H Q E := by
  obtain ⟨r, rfl⟩ : ∃ r', r = r' + 1 := ⟨r - 1, by lia⟩
  refine CC_def (dvals := dvals) (dcs := dcs) (by rw [hK]; exact ho) hda hbody (by rw [hK]; exact hcode) hclo (fun s hX cs hl => hb s (by rw [← hK]; exact hX) cs hl) (fun h H hk ho => ?_) hloc hcell (fun c L hL => ?_) hco hgen hk
  · have kin := G.kin
    rw [hK] at kin
    exact hdv h H (fun b o e => hk b o (kin b o e)) fun b o e => ho b o (kin b o e)
  · rw [he]; exact h c L hL

theorem GaK {x c dx : Addr} {fm : List (Str × V)} {name : Str} {v : V} {attr : Option Value} (hK : GK G) (hx : H x = some (.inst c dx fm)) (hf : fm.lookup name = some v) (h : Q v H) (hb : v.isBi = false) (hg : plainGet (Z.heap_1 G.w.params) c name = true) (hh : hasDictIn (Z.heap_1 G.w.params) c = true)
    (ha : findIn (Z.heap_1 G.w.params) (.ref c) name = some attr) (hn : noGet (Z.heap_1 G.w.params) attr = true) : Ga G fs r (.ref x) name H Q E :=
  Ga_inst hx hf hb (by rw [hK]; exact hg) (by rw [hK]; exact hh) (by rw [hK]; exact ha) (by rw [hK]; exact hn) h
def GaOK (c : Addr) (name : Str) : Prop := ∀ P, plainGet (Z.heap_1 P) c name = true ∧ hasDictIn (Z.heap_1 P) c = true ∧ ∃ attr, findIn (Z.heap_1 P) (.ref c) name = some attr ∧ noGet (Z.heap_1 P) attr = true
theorem GaK2 {x c dx : Addr} {fm : List (Str × V)} {name : Str} {v : V} (hK : GK G) (hx : H x = some (.inst c dx fm)) (hf : fm.lookup name = some v) (h : Q v H) (hb : v.isBi = false) (ok : GaOK c name) : Ga G fs r (.ref x) name H Q E := by
  obtain ⟨g1, g2, attr, g3, g4⟩ := ok G.w.params
  exact GaK hK hx hf h hb g1 g2 g3 g4
theorem tab_at {α β : Type} {f g : α → β} {l : List α} (e : l.map f = l.map g) {i : Nat} {a : α} (h : l[i]? = some a) : f a = g a := by
  have := congrArg (fun l => l[i]?) e
  rw [List.getElem?_map, List.getElem?_map, h] at this
  exact Option.some.inj this
noncomputable def gaTab : List (Addr × Str) := [(145, Str.ofString "text"), (145, Str.ofString "places"), (255, Str.ofString "kind"), (255, Str.ofString "worth"), (255, Str.ofString "at"), (255, Str.ofString "is_in_a"), (469, Str.ofString "at"), (469, Str.ofString "tokens"), (117, Str.ofString "indicator"), (117, Str.ofString "body")]
theorem ga_all (P) : gaTab.map (fun p => (plainGet (Z.heap_1 P) p.1 p.2, hasDictIn (Z.heap_1 P) p.1, findIn (Z.heap_1 P) (.ref p.1) p.2, noGet (Z.heap_1 P) none)) = gaTab.map fun _ => (true, true, some none, true) := by kernel_rfl
theorem GaOK.mk (i : Nat) {c : Addr} {x : Str} (h : gaTab[i]? = some (c, x)) : GaOK c x := fun P => by
  have := tab_at (ga_all P) h
  simp only [Prod.mk.injEq] at this
  exact ⟨this.1, this.2.1, none, this.2.2.1, this.2.2.2⟩
theorem gao_145_text : GaOK 145 (Str.ofString "text") := .mk 0 rfl
theorem gao_145_places : GaOK 145 (Str.ofString "places") := .mk 1 rfl
theorem gao_255_kind : GaOK 255 (Str.ofString "kind") := .mk 2 rfl
theorem gao_255_worth : GaOK 255 (Str.ofString "worth") := .mk 3 rfl
theorem gao_255_at : GaOK 255 (Str.ofString "at") := .mk 4 rfl
theorem gao_255_is_in_a : GaOK 255 (Str.ofString "is_in_a") := .mk 5 rfl
theorem gao_469_at : GaOK 469 (Str.ofString "at") := .mk 6 rfl
theorem gao_469_tokens : GaOK 469 (Str.ofString "tokens") := .mk 7 rfl
theorem gao_117_indicator : GaOK 117 (Str.ofString "indicator") := .mk 8 rfl
theorem gao_117_body : GaOK 117 (Str.ofString "body") := .mk 9 rfl
theorem SaK {x c dx : Addr} {fm : List (Str × V)} {name : Str} {v : V} {Q : AH → Prop} (hK : GK G) (hx : H x = some (.inst c dx fm)) (hl : fm.length ≤ 1000) (h : Q (upd H x (.inst c dx (fput name v fm))))
    (hs : findIn (Z.heap_1 G.w.params) (.ref c) "__setattr__" = some (some (.builtin "object.__setattr__"))) (hp : plainOver (Z.heap_1 G.w.params) c = true) (ht : takerIn (Z.heap_1 G.w.params) c name = some none) (hh : hasDictIn (Z.heap_1 G.w.params) c = true) : Sa G fs r (.ref x) name v H Q E :=
  Sa_inst hx (by rw [hK]; exact hs) (by rw [hK]; exact hp) (by rw [hK]; exact ht) (by rw [hK]; exact hh) hl h
theorem MtK {x c dx f : Addr} {fm : List (Str × V)} {name : Str} {Q : V → List V → AH → Prop} (hK : GK G) (hx : H x = some (.inst c dx fm)) (hf : fm.lookup name = none) (h : Q (.ref f) [.ref x] H) (hg : plainGet (Z.heap_1 G.w.params) c name = true)
    (hm : findIn (Z.heap_1 G.w.params) (.ref c) name = some (some (.ref f))) (ht : isFn (Z.heap_1 G.w.params) (.ref f) = true) : Mt G fs r (.ref x) name H Q E :=
  Mt_inst hx hf (by rw [hK]; exact hg) (by rw [hK]; exact hm) (by rw [hK]; exact ht) h
def MtOK (c : Addr) (name : Str) (f : Addr) : Prop := ∀ P, plainGet (Z.heap_1 P) c name = true ∧ findIn (Z.heap_1 P) (.ref c) name = some (some (.ref f)) ∧ isFn (Z.heap_1 P) (.ref f) = true
theorem MtK2 {x c dx f : Addr} {fm : List (Str × V)} {name : Str} {Q : V → List V → AH → Prop} (hK : GK G) (hx : H x = some (.inst c dx fm)) (hf : fm.lookup name = none) (h : Q (.ref f) [.ref x] H) (ok : MtOK c name f) : Mt G fs r (.ref x) name H Q E := by
  obtain ⟨g1, g2, g3⟩ := ok G.w.params
  exact MtK hK hx hf h g1 g2 g3
noncomputable def mtTab : List (Addr × Str × Addr) := [(469, Str.ofString "take", 459), (469, Str.ofString "skip", 445), (469, Str.ofString "is_done", 424), (469, Str.ofString "need", 466), (469, Str.ofString "stands", 438), (469, Str.ofString "peek", 431), (117, Str.ofString "is_blank", 114)]
theorem mt_all (P) : mtTab.map (fun p => (plainGet (Z.heap_1 P) p.1 p.2.1, findIn (Z.heap_1 P) (.ref p.1) p.2.1, isFn (Z.heap_1 P) (.ref p.2.2))) = mtTab.map fun p => (true, some (some (.ref p.2.2)), true) := by kernel_rfl
theorem MtOK.mk (i : Nat) {c f : Addr} {x : Str} (h : mtTab[i]? = some (c, x, f)) : MtOK c x f := fun P => by
  have := tab_at (mt_all P) h
  simp only [Prod.mk.injEq] at this
  exact this
theorem mto_469_take : MtOK 469 (Str.ofString "take") 459 := .mk 0 rfl
theorem mto_469_skip : MtOK 469 (Str.ofString "skip") 445 := .mk 1 rfl
theorem mto_469_is_done : MtOK 469 (Str.ofString "is_done") 424 := .mk 2 rfl
theorem mto_469_need : MtOK 469 (Str.ofString "need") 466 := .mk 3 rfl
theorem mto_469_stands : MtOK 469 (Str.ofString "stands") 438 := .mk 4 rfl
theorem mto_469_peek : MtOK 469 (Str.ofString "peek") 431 := .mk 5 rfl
theorem mto_117_is_blank : MtOK 117 (Str.ofString "is_blank") 114 := .mk 6 rfl
theorem MakeK {c fI : Addr} {args : List V} (hK : GK G) (hr : 5 ≤ r) (h : ∀ x dx, H x = none → H dx = none → x ≠ dx → CC G fs (r - 5) (.ref fI) (.ref x :: args) (upd (upd H dx (.aux x)) x (.inst c dx [])) (KMade Q x) E)
    (hm : makesIn (Z.heap_1 G.w.params) c = true) (hi : findIn (Z.heap_1 G.w.params) (.ref c) "__init__" = some (some (.ref fI))) (hf : isFn (Z.heap_1 G.w.params) (.ref fI) = true) : Cl G fs r (.ref c) args H Q E := by
  obtain ⟨r, rfl⟩ : ∃ r', r = r' + 5 := ⟨r - 5, by lia⟩
  exact Cl_make (by rw [hK]; exact hm) (by rw [hK]; exact hi) (by rw [hK]; exact hf) h

theorem RetQ.now {v : V} (h : Q v H) : RetQ Q (.ret v) H := ⟨H, .inl rfl, h⟩
theorem RetQ.nil (h : Q .none H) : RetQ Q .next H := ⟨H, .inl rfl, h⟩
theorem sz_of {n : Nat} (h : n ≤ 16777216) : n ≤ sizeLine := by rw [sz24]; exact h
theorem cells_ap0 {n : Nat} {names : List (Str × NameKind)} : (cellsFrom n names []).Pairwise fun x y => x.2 ≠ y.2 := cells_apart names n [] (fun _ h => nomatch h) .nil
theorem ble_le {a b : Nat} (h : Nat.ble a b = true) : a ≤ b := Nat.le_of_ble_eq_true h
theorem dec_D {p : Prop} (h : p) : p := h
theorem KeepV.bi {i : String} : KeepV G (.bi i) := trivial
theorem KeepV.ty {i : String} : KeepV G (.ty i) := trivial
noncomputable def kpTab : List Addr := [84, 114, 117, 145, 156, 163, 168, 189, 194, 201, 221, 229, 255, 266, 271, 278, 285, 299, 306, 313, 325, 339, 353, 360, 367, 374, 381, 388, 402, 424, 431, 438, 445, 459, 466, 469, 480, 487, 494, 501, 508, 515, 522, 529, 536, 543, 550, 557, 564, 571, 579, 584, 591, 596, 603, 610, 617, 624, 629, 634, 641, 646, 651]
theorem kp_all (P) : kpTab.map (fun a => keepIn (Z.heap_1 P) (.ref a)) = kpTab.map fun _ => true := by kernel_rfl
theorem KeepV.fn (hK : GK G) {a : Addr} (h : kpTab.elem a = true) : KeepV G (.ref a) := by
  show keepIn G.K _ = true
  rw [hK]
  obtain ⟨i, h⟩ := List.getElem?_of_mem (List.elem_iff.mp h)
  exact tab_at (kp_all _) h
theorem gl (hK : GK G) {x : Str} {o : Option (Option Value)} (h : nsIn (Z.heap_1 G.w.params) mainGlobals x = o) : nsIn G.K mainGlobals x = o := by rw [hK]; exact h
end

theorem ite_b {b : Bool} {X Y : Prop} (ht : b = true → X) (hf : b = false → Y) : if b = true then X else Y := by
  cases b
  · exact hf rfl
  · exact ht rfl
theorem ite_t {b : Bool} {X Y : Prop} (e : b = true) (h : X) : if b = true then X else Y := by rw [if_pos e]; exact h
theorem ite_f {b : Bool} {X Y : Prop} (e : b = false) (h : Y) : if b = true then X else Y := by rw [e]; exact h

theorem lt_one {a b : Nat} : decide (([a] : List Nat) < [b]) = decide (a < b) := by
  rw [StrLaws.lt_cons_cons]; simp
def LETT : List Nat := [65, 66, 67, 68, 69, 70, 71, 72, 73, 74, 75, 76, 77, 78, 79, 80, 81, 82, 83, 84, 85, 86, 87, 88, 89, 90]
def FIGS : List Nat := [48, 49, 50, 51, 52, 53, 54, 55, 56, 57]
def WORDS : List Nat := LETT ++ FIGS ++ [45]
theorem lit_0 : (Str.ofString "ledgerspeak.errors").cps.toList = [108, 101, 100, 103, 101, 114, 115, 112, 101, 97, 107, 46, 101, 114, 114, 111, 114, 115] := by rfl
theorem lit_1 : (Str.ofString "ledgerspeak.columns").cps.toList = [108, 101, 100, 103, 101, 114, 115, 112, 101, 97, 107, 46, 99, 111, 108, 117, 109, 110, 115] := by rfl
theorem lit_2 : (Str.ofString " */-D").cps.toList = [32, 42, 47, 45, 68] := by rfl
theorem lit_3 : (Str.ofString "\"'").cps.toList = [34, 39] := by rfl
theorem lit_4 : (Str.ofString "ledgerspeak.tokens").cps.toList = [108, 101, 100, 103, 101, 114, 115, 112, 101, 97, 107, 46, 116, 111, 107, 101, 110, 115] := by rfl
theorem lit_5 : (Str.ofString "ABCDEFGHIJKLMNOPQRSTUVWXYZ").cps.toList = LETT := by rfl
theorem lit_6 : (Str.ofString "0123456789").cps.toList = FIGS := by rfl
theorem lit_7 : (Str.ofString "():+-*/=<>").cps.toList = [40, 41, 58, 43, 45, 42, 47, 61, 60, 62] := by rfl
theorem lit_8 : (Str.ofString "** <= >=").cps.toList = [42, 42, 32, 60, 61, 32, 62, 61] := by rfl
theorem lit_9 : (Str.ofString ".,;").cps.toList = [46, 44, 59] := by rfl
theorem lit_10 : (Str.ofString "ledgerspeak.copying").cps.toList = [108, 101, 100, 103, 101, 114, 115, 112, 101, 97, 107, 46, 99, 111, 112, 121, 105, 110, 103] := by rfl
theorem lit_11 : (Str.ofString "law_og0100_01").cps.toList = [108, 97, 119, 95, 111, 103, 48, 49, 48, 48, 95, 48, 49] := by rfl
theorem lit_12 : (Str.ofString "").cps.toList = [] := by rfl
theorem lit_13 : (Str.ofString "-").cps.toList = [45] := by rfl
theorem lit_14 : (Str.ofString "\n").cps.toList = [10] := by rfl
theorem lit_15 : (Str.ofString " ").cps.toList = [32] := by rfl
theorem lit_16 : (Str.ofString "a literal is not ended").cps.toList = [97, 32, 108, 105, 116, 101, 114, 97, 108, 32, 105, 115, 32, 110, 111, 116, 32, 101, 110, 100, 101, 100] := by rfl
theorem lit_17 : (Str.ofString "==").cps.toList = [61, 61] := by rfl
theorem lit_18 : (Str.ofString "no token begins so").cps.toList = [110, 111, 32, 116, 111, 107, 101, 110, 32, 98, 101, 103, 105, 110, 115, 32, 115, 111] := by rfl
theorem lit_19 : (Str.ofString "literal").cps.toList = [108, 105, 116, 101, 114, 97, 108] := by rfl
theorem lit_20 : (Str.ofString "pseudo").cps.toList = [112, 115, 101, 117, 100, 111] := by rfl
theorem lit_21 : (Str.ofString "pseudo-text is wanted").cps.toList = [112, 115, 101, 117, 100, 111, 45, 116, 101, 120, 116, 32, 105, 115, 32, 119, 97, 110, 116, 101, 100] := by rfl
theorem lit_22 : (Str.ofString "a text to exchange is missing").cps.toList = [97, 32, 116, 101, 120, 116, 32, 116, 111, 32, 101, 120, 99, 104, 97, 110, 103, 101, 32, 105, 115, 32, 109, 105, 115, 115, 105, 110, 103] := by rfl
theorem lit_23 : (Str.ofString "word").cps.toList = [119, 111, 114, 100] := by rfl
theorem lit_24 : (Str.ofString "BY").cps.toList = [66, 89] := by rfl
theorem lit_25 : (Str.ofString "BY is wanted").cps.toList = [66, 89, 32, 105, 115, 32, 119, 97, 110, 116, 101, 100] := by rfl
theorem lit_26 : (Str.ofString "a name is missing").cps.toList = [97, 32, 110, 97, 109, 101, 32, 105, 115, 32, 109, 105, 115, 115, 105, 110, 103] := by rfl
theorem lit_27 : (Str.ofString "REPLACING").cps.toList = [82, 69, 80, 76, 65, 67, 73, 78, 71] := by rfl
theorem lit_28 : (Str.ofString "sign").cps.toList = [115, 105, 103, 110] := by rfl
theorem lit_29 : (Str.ofString ".").cps.toList = [46] := by rfl
theorem lit_30 : (Str.ofString "a period is wanted behind COPY").cps.toList = [97, 32, 112, 101, 114, 105, 111, 100, 32, 105, 115, 32, 119, 97, 110, 116, 101, 100, 32, 98, 101, 104, 105, 110, 100, 32, 67, 79, 80, 89] := by rfl
theorem lit_31 : (Str.ofString " .").cps.toList = [32, 46] := by rfl
theorem lit_32 : (Str.ofString "T0").cps.toList = [84, 48] := by rfl
theorem lit_33 : (Str.ofString "T1").cps.toList = [84, 49] := by rfl
theorem lit_34 : (Str.ofString "T2").cps.toList = [84, 50] := by rfl
theorem lit_35 : (Str.ofString "a row of more than 80 signs").cps.toList = [97, 32, 114, 111, 119, 32, 111, 102, 32, 109, 111, 114, 101, 32, 116, 104, 97, 110, 32, 56, 48, 32, 115, 105, 103, 110, 115] := by rfl
theorem lit_36 : (Str.ofString "no such indicator").cps.toList = [110, 111, 32, 115, 117, 99, 104, 32, 105, 110, 100, 105, 99, 97, 116, 111, 114] := by rfl
theorem lit_37 : (Str.ofString "*/").cps.toList = [42, 47] := by rfl
theorem lit_38 : (Str.ofString "a row that goes on begins in area B").cps.toList = [97, 32, 114, 111, 119, 32, 116, 104, 97, 116, 32, 103, 111, 101, 115, 32, 111, 110, 32, 98, 101, 103, 105, 110, 115, 32, 105, 110, 32, 97, 114, 101, 97, 32, 66] := by rfl
theorem lit_39 : (Str.ofString "a literal goes on behind a quote").cps.toList = [97, 32, 108, 105, 116, 101, 114, 97, 108, 32, 103, 111, 101, 115, 32, 111, 110, 32, 98, 101, 104, 105, 110, 100, 32, 97, 32, 113, 117, 111, 116, 101] := by rfl
theorem lit_40 : (Str.ofString "a").cps.toList = [97] := by rfl
theorem lit_41 : (Str.ofString "z").cps.toList = [122] := by rfl
theorem lit_42 : (Str.ofString " =").cps.toList = [32, 61] := by rfl
theorem lit_43 : (Str.ofString "a word without a letter").cps.toList = [97, 32, 119, 111, 114, 100, 32, 119, 105, 116, 104, 111, 117, 116, 32, 97, 32, 108, 101, 116, 116, 101, 114] := by rfl
theorem lit_44 : (Str.ofString "a word ends with a hyphen").cps.toList = [97, 32, 119, 111, 114, 100, 32, 101, 110, 100, 115, 32, 119, 105, 116, 104, 32, 97, 32, 104, 121, 112, 104, 101, 110] := by rfl
theorem lit_45 : (Str.ofString "a word of more than 30 signs").cps.toList = [97, 32, 119, 111, 114, 100, 32, 111, 102, 32, 109, 111, 114, 101, 32, 116, 104, 97, 110, 32, 51, 48, 32, 115, 105, 103, 110, 115] := by rfl
theorem lit_46 : (Str.ofString "a number of more than 18 figures").cps.toList = [97, 32, 110, 117, 109, 98, 101, 114, 32, 111, 102, 32, 109, 111, 114, 101, 32, 116, 104, 97, 110, 32, 49, 56, 32, 102, 105, 103, 117, 114, 101, 115] := by rfl
theorem lit_47 : (Str.ofString "a literal has 1 to 160 signs").cps.toList = [97, 32, 108, 105, 116, 101, 114, 97, 108, 32, 104, 97, 115, 32, 49, 32, 116, 111, 32, 49, 54, 48, 32, 115, 105, 103, 110, 115] := by rfl
theorem lit_48 : (Str.ofString "a picture is missing").cps.toList = [97, 32, 112, 105, 99, 116, 117, 114, 101, 32, 105, 115, 32, 109, 105, 115, 115, 105, 110, 103] := by rfl
theorem lit_49 : (Str.ofString "a blank is missing").cps.toList = [97, 32, 98, 108, 97, 110, 107, 32, 105, 115, 32, 109, 105, 115, 115, 105, 110, 103] := by rfl
theorem lit_50 : (Str.ofString "number").cps.toList = [110, 117, 109, 98, 101, 114] := by rfl
theorem lit_51 : (Str.ofString "picture").cps.toList = [112, 105, 99, 116, 117, 114, 101] := by rfl
theorem lit_52 : (Str.ofString "IS").cps.toList = [73, 83] := by rfl
theorem lit_53 : (Str.ofString "pseudo-text without an end").cps.toList = [112, 115, 101, 117, 100, 111, 45, 116, 101, 120, 116, 32, 119, 105, 116, 104, 111, 117, 116, 32, 97, 110, 32, 101, 110, 100] := by rfl
theorem lit_54 : (Str.ofString "no text to exchange").cps.toList = [110, 111, 32, 116, 101, 120, 116, 32, 116, 111, 32, 101, 120, 99, 104, 97, 110, 103, 101] := by rfl
theorem lit_55 : (Str.ofString "nothing to be exchanged").cps.toList = [110, 111, 116, 104, 105, 110, 103, 32, 116, 111, 32, 98, 101, 32, 101, 120, 99, 104, 97, 110, 103, 101, 100] := by rfl
theorem lit_56 : (Str.ofString "no name of a text").cps.toList = [110, 111, 32, 110, 97, 109, 101, 32, 111, 102, 32, 97, 32, 116, 101, 120, 116] := by rfl
theorem lit_57 : (Str.ofString "OF").cps.toList = [79, 70] := by rfl
theorem lit_58 : (Str.ofString "IN").cps.toList = [73, 78] := by rfl
theorem lit_59 : (Str.ofString "the name of a library is missing").cps.toList = [116, 104, 101, 32, 110, 97, 109, 101, 32, 111, 102, 32, 97, 32, 108, 105, 98, 114, 97, 114, 121, 32, 105, 115, 32, 109, 105, 115, 115, 105, 110, 103] := by rfl
theorem lit_60 : (Str.ofString "no such text in the library: ").cps.toList = [110, 111, 32, 115, 117, 99, 104, 32, 116, 101, 120, 116, 32, 105, 110, 32, 116, 104, 101, 32, 108, 105, 98, 114, 97, 114, 121, 58, 32] := by rfl
theorem lit_61 : (Str.ofString "OFF").cps.toList = [79, 70, 70] := by rfl
theorem lit_62 : (Str.ofString " ==").cps.toList = [32, 61, 61] := by rfl
theorem lit_63 : (Str.ofString "b").cps.toList = [98] := by rfl
theorem lit_64 : (Str.ofString "COPY ").cps.toList = [67, 79, 80, 89, 32] := by rfl
theorem lit_65 : (Str.ofString " OF LIB").cps.toList = [32, 79, 70, 32, 76, 73, 66] := by rfl
theorem lit_66 : (Str.ofString " REPLACING").cps.toList = [32, 82, 69, 80, 76, 65, 67, 73, 78, 71] := by rfl
theorem lit_67 : (Str.ofString "A").cps.toList = [65] := by rfl
theorem lit_68 : (Str.ofString "B").cps.toList = [66] := by rfl
theorem lit_69 : (Str.ofString "a sign that cannot stand").cps.toList = [97, 32, 115, 105, 103, 110, 32, 116, 104, 97, 116, 32, 99, 97, 110, 110, 111, 116, 32, 115, 116, 97, 110, 100] := by rfl
theorem lit_70 : (Str.ofString "D").cps.toList = [68] := by rfl
theorem lit_71 : (Str.ofString ",;").cps.toList = [44, 59] := by rfl
theorem lit_72 : (Str.ofString "PIC").cps.toList = [80, 73, 67] := by rfl
theorem lit_73 : (Str.ofString "PICTURE").cps.toList = [80, 73, 67, 84, 85, 82, 69] := by rfl
theorem lit_74 : (Str.ofString "COPY").cps.toList = [67, 79, 80, 89] := by rfl
theorem lit_75 : (Str.ofString "COPY within pseudo-text").cps.toList = [67, 79, 80, 89, 32, 119, 105, 116, 104, 105, 110, 32, 112, 115, 101, 117, 100, 111, 45, 116, 101, 120, 116] := by rfl
theorem lit_76 : (Str.ofString "texts copied too deep").cps.toList = [116, 101, 120, 116, 115, 32, 99, 111, 112, 105, 101, 100, 32, 116, 111, 111, 32, 100, 101, 101, 112] := by rfl
theorem lit_77 : (Str.ofString "REPLACE").cps.toList = [82, 69, 80, 76, 65, 67, 69] := by rfl
theorem lit_78 : (Str.ofString "a period is wanted behind REPLACE OFF").cps.toList = [97, 32, 112, 101, 114, 105, 111, 100, 32, 105, 115, 32, 119, 97, 110, 116, 101, 100, 32, 98, 101, 104, 105, 110, 100, 32, 82, 69, 80, 76, 65, 67, 69, 32, 79, 70, 70] := by rfl
theorem lit_79 : (Str.ofString "C").cps.toList = [67] := by rfl
theorem lit_80 : (Str.ofString "== ").cps.toList = [61, 61, 32] := by rfl
theorem lit_81 : (Str.ofString " BY ").cps.toList = [32, 66, 89, 32] := by rfl
theorem lit_82 : (Str.ofString "U").cps.toList = [85] := by rfl
theorem lit_83 : (Str.ofString "nothing is there to go on with").cps.toList = [110, 111, 116, 104, 105, 110, 103, 32, 105, 115, 32, 116, 104, 101, 114, 101, 32, 116, 111, 32, 103, 111, 32, 111, 110, 32, 119, 105, 116, 104] := by rfl
theorem lit_84 : (Str.ofString "a text that copies itself: ").cps.toList = [97, 32, 116, 101, 120, 116, 32, 116, 104, 97, 116, 32, 99, 111, 112, 105, 101, 115, 32, 105, 116, 115, 101, 108, 102, 58, 32] := by rfl
theorem lit_85 : (Str.ofString "\"").cps.toList = [34] := by rfl
theorem lit_86 : (Str.ofString "           ").cps.toList = [32, 32, 32, 32, 32, 32, 32, 32, 32, 32, 32] := by rfl
theorem lit_87 : (Str.ofString "T9").cps.toList = [84, 57] := by rfl
theorem lit_88 : (Str.ofString "T").cps.toList = [84] := by rfl
theorem lit_89 : (Str.ofString "\n           ").cps.toList = [10, 32, 32, 32, 32, 32, 32, 32, 32, 32, 32, 32] := by rfl
theorem lit_90 : (Str.ofString "U1").cps.toList = [85, 49] := by rfl
theorem lit_91 : (Str.ofString "U0").cps.toList = [85, 48] := by rfl
theorem lit_92 : (Str.ofString "ABCDEFGHIJKLMNOPQRSTUVWXYZ0123456789-").cps.toList = WORDS := by rfl
section
variable {G : Ctx} {fs : List Env} {r : Nat} {H : AH} {Q : V → AH → Prop} {E : AH → Prop}
def NB (G : Ctx) (x : Str) (v : V) : Prop := ∃ c, nsIn G.K mainGlobals x = some none ∧ bootBuiltins x = some c ∧ x ≠ "__name__" ∧ GV v c ∧ (x == ("__debug__" : Str)) = false
def NG (G : Ctx) (x : Str) (v : V) : Prop := ∃ c, nsIn G.K mainGlobals x = some (some c) ∧ GV v c ∧ (x == ("__debug__" : Str)) = false
noncomputable def bTab : List (Str × Value) := [(Str.ofString "len", .builtin "len"), (Str.ofString "str", .type "str"), (Str.ofString "dict", .type "dict"), (Str.ofString "isinstance", .builtin "isinstance"), (Str.ofString "abs", .builtin "abs"), (Str.ofString "ord", .builtin "ord"), (Str.ofString "min", .builtin "min"), (Str.ofString "sorted", .builtin "sorted"), (Str.ofString "chr", .builtin "chr"), (Str.ofString "int", .type "int"), (Str.ofString "Exception", .type "Exception")]
noncomputable def gTab : List (Str × Option Value) := (Str.ofString "range", none) :: [(Str.ofString "_law_draw", some (.ref 591)), (Str.ofString "_law_due", some (.ref 641)), (Str.ofString "LETTERS", some (.str (Str.ofString "ABCDEFGHIJKLMNOPQRSTUVWXYZ") 487)), (Str.ofString "FIGURES", some (.str (Str.ofString "0123456789") 489)), (Str.ofString "QUOTES", some (.str (Str.ofString "\"'") 296)), (Str.ofString "capital_of", some (.ref 266)), (Str.ofString "_law_text", some (.ref 629)), (Str.ofString "CopyFault", some (.ref 84)), (Str.ofString "read_rows", some (.ref 168)), (Str.ofString "logical_lines", some (.ref 221)), (Str.ofString "_law_heard", some (.ref 646)), (Str.ofString "copied", some (.ref 557)), (Str.ofString "run_end", some (.ref 299)), (Str.ofString "BODY", some (.int 7 288)), (Str.ofString "Token", some (.ref 255)), (Str.ofString "_law_things", some (.ref 610)), (Str.ofString "_law_words", some (.ref 596)), (Str.ofString "Walk", some (.ref 469)), (Str.ofString "Line", some (.ref 145)), (Str.ofString "read_pair", some (.ref 529)), (Str.ofString "need_apart", some (.ref 353)), (Str.ofString "mark_at", some (.ref 360)), (Str.ofString "substituted", some (.ref 508)), (Str.ofString "WORD_SIGNS", some (.str (Str.ofString "ABCDEFGHIJKLMNOPQRSTUVWXYZ0123456789-") 493)), (Str.ofString "WIDTH", some (.int 80 286)), (Str.ofString "tokens_of", some (.ref 402)), (Str.ofString "is_picture_next", some (.ref 381)), (Str.ofString "lines_of", some (.ref 229)), (Str.ofString "library_text", some (.ref 550)), (Str.ofString "capitals", some (.ref 271)), (Str.ofString "read_tokens", some (.ref 579)), (Str.ofString "read_side", some (.ref 522)), (Str.ofString "_law_exchanged", some (.ref 634)), (Str.ofString "worth_at", some (.ref 367)), (Str.ofString "BODY_END", some (.int 72 290)), (Str.ofString "cut_row", some (.ref 163)), (Str.ofString "expand", some (.ref 571)), (Str.ofString "checked_word", some (.ref 325)), (Str.ofString "token_key", some (.ref 480)), (Str.ofString "is_parted", some (.ref 285)), (Str.ofString "add_tokens", some (.ref 388)), (Str.ofString "_law_side", some (.ref 617)), (Str.ofString "Row", some (.ref 117)), (Str.ofString "SINGLE_SIGNS", some (.str (Str.ofString "():+-*/=<>") 495)), (Str.ofString "_law_spelled", some (.ref 624)), (Str.ofString "is_blank_at", some (.ref 374)), (Str.ofString "body_line", some (.ref 194)), (Str.ofString "first_pair", some (.ref 494)), (Str.ofString "checked_literal", some (.ref 339)), (Str.ofString "MOST_DEPTH", some (.int 5 741)), (Str.ofString "read_copy", some (.ref 543)), (Str.ofString "row_counts", some (.ref 189)), (Str.ofString "MOST_LITERAL", some (.int 160 505)), (Str.ofString "read_pseudo", some (.ref 515)), (Str.ofString "MOST_WORD", some (.int 30 501)), (Str.ofString "is_word_sign", some (.ref 278)), (Str.ofString "check_signs", some (.ref 156)), (Str.ofString "without_end", some (.ref 201)), (Str.ofString "read_pairs", some (.ref 536)), (Str.ofString "replaced_all", some (.ref 564)), (Str.ofString "stands_at", some (.ref 487)), (Str.ofString "literal_end", some (.ref 313)), (Str.ofString "number_end", some (.ref 306)), (Str.ofString "standing_in", some (.ref 501)), (Str.ofString "_law_written", some (.ref 651)), (Str.ofString "INDICATORS", some (.str (Str.ofString " */-D") 294)), (Str.ofString "_law_pairs", some (.ref 603)), (Str.ofString "_law_box", some (.ref 584)), (Str.ofString "DOUBLE_SIGNS", some (.str (Str.ofString "** <= >=") 497))]
theorem gn_all (P) : gTab.map (fun p => nsIn (Z.heap_1 P) mainGlobals p.1) = gTab.map fun p => some p.2 := by kernel_rfl
theorem bn_all (P) : bTab.map (fun p => nsIn (Z.heap_1 P) mainGlobals p.1) = bTab.map fun p => some none := by kernel_rfl
theorem bn_boot : bTab.map (fun p => bootBuiltins p.1) = bTab.map fun p => some p.2 := by kernel_rfl
theorem bn_sys : bTab.map (fun p => (p.1 == ("__name__" : Str), p.1 == ("__debug__" : Str))) = bTab.map fun _ => (false, false) := by kernel_rfl
theorem gn_sys : gTab.map (fun p => p.1 == ("__debug__" : Str)) = gTab.map fun _ => false := by kernel_rfl
theorem NG.mk (i : Nat) (hK : GK G) {x : Str} {v : V} {c : Value} (g : GV v c) (h : gTab[i]? = some (x, some c)) : NG G x v := ⟨c, gl hK (tab_at (gn_all _) h), g, tab_at gn_sys h⟩
theorem NB.mk (i : Nat) (hK : GK G) {x : Str} {v : V} {c : Value} (g : GV v c) (h : bTab[i]? = some (x, c)) : NB G x v := ⟨c, gl hK (tab_at (bn_all _) h), tab_at bn_boot h, ne_of_beq_false (congrArg Prod.fst (tab_at bn_sys h)), g, congrArg Prod.snd (tab_at bn_sys h)⟩
theorem Ev_gl {env : Env} {m : Loc} {x : Str} {pos : Pos} {v : V} (n : NG G x v) (h : Q v H) (hk : env.scope.kind = .function) (hl : env.kindOf x = some .globalImplicit) (hg : env.globals = mainGlobals) : Ev G fs r env m (eval (.Name x pos) env) H Q E := by
  obtain ⟨c, e, g, d⟩ := n
  exact Ev_global e g h hk hl hg d
theorem Ev_bn {env : Env} {m : Loc} {x : Str} {pos : Pos} {v : V} (n : NB G x v) (h : Q v H) (hk : env.scope.kind = .function) (hl : env.kindOf x = some .globalImplicit) (hg : env.globals = mainGlobals) (hb : env.builtins = builtinsNs) : Ev G fs r env m (eval (.Name x pos) env) H Q E := by
  obtain ⟨c, e, b, d, g, i⟩ := n
  exact Ev_builtin e b d g h hk hl hg hb i
theorem nb_len (hK : GK G) : NB G (Str.ofString "len") (.bi "len") := .mk 0 hK (GV.bi _) rfl
theorem nb_str (hK : GK G) : NB G (Str.ofString "str") (.ty "str") := .mk 1 hK (GV.ty _) rfl
theorem nb_dict (hK : GK G) : NB G (Str.ofString "dict") (.ty "dict") := .mk 2 hK (GV.ty _) rfl
theorem nb_isinstance (hK : GK G) : NB G (Str.ofString "isinstance") (.bi "isinstance") := .mk 3 hK (GV.bi _) rfl
theorem nb_abs (hK : GK G) : NB G (Str.ofString "abs") (.bi "abs") := .mk 4 hK (GV.bi _) rfl
theorem nb_ord (hK : GK G) : NB G (Str.ofString "ord") (.bi "ord") := .mk 5 hK (GV.bi _) rfl
theorem nb_min (hK : GK G) : NB G (Str.ofString "min") (.bi "min") := .mk 6 hK (GV.bi _) rfl
theorem nb_sorted (hK : GK G) : NB G (Str.ofString "sorted") (.bi "sorted") := .mk 7 hK (GV.bi _) rfl
theorem nb_chr (hK : GK G) : NB G (Str.ofString "chr") (.bi "chr") := .mk 8 hK (GV.bi _) rfl
theorem nb_int (hK : GK G) : NB G (Str.ofString "int") (.ty "int") := .mk 9 hK (GV.ty _) rfl
theorem nb_Exception (hK : GK G) : NB G (Str.ofString "Exception") (.ty "Exception") := .mk 10 hK (GV.ty _) rfl
theorem nr (hK : GK G) : nsIn G.K mainGlobals "range" = some none := gl hK (tab_at (i := 0) (gn_all _) rfl)
theorem gn__law_draw (hK : GK G) : NG G (Str.ofString "_law_draw") (.ref 591) := .mk 1 hK (GV.ref _) rfl
theorem gn__law_due (hK : GK G) : NG G (Str.ofString "_law_due") (.ref 641) := .mk 2 hK (GV.ref _) rfl
theorem gn_LETTERS (hK : GK G) : NG G (Str.ofString "LETTERS") (.str LETT) := .mk 3 hK (GV.strL lit_5) rfl
theorem gn_FIGURES (hK : GK G) : NG G (Str.ofString "FIGURES") (.str FIGS) := .mk 4 hK (GV.strL lit_6) rfl
theorem gn_QUOTES (hK : GK G) : NG G (Str.ofString "QUOTES") (.str [34, 39]) := .mk 5 hK (GV.strL lit_3) rfl
theorem gn_capital_of (hK : GK G) : NG G (Str.ofString "capital_of") (.ref 266) := .mk 6 hK (GV.ref _) rfl
theorem gn__law_text (hK : GK G) : NG G (Str.ofString "_law_text") (.ref 629) := .mk 7 hK (GV.ref _) rfl
theorem gn_CopyFault (hK : GK G) : NG G (Str.ofString "CopyFault") (.ref 84) := .mk 8 hK (GV.ref _) rfl
theorem gn_read_rows (hK : GK G) : NG G (Str.ofString "read_rows") (.ref 168) := .mk 9 hK (GV.ref _) rfl
theorem gn_logical_lines (hK : GK G) : NG G (Str.ofString "logical_lines") (.ref 221) := .mk 10 hK (GV.ref _) rfl
theorem gn__law_heard (hK : GK G) : NG G (Str.ofString "_law_heard") (.ref 646) := .mk 11 hK (GV.ref _) rfl
theorem gn_copied (hK : GK G) : NG G (Str.ofString "copied") (.ref 557) := .mk 12 hK (GV.ref _) rfl
theorem gn_run_end (hK : GK G) : NG G (Str.ofString "run_end") (.ref 299) := .mk 13 hK (GV.ref _) rfl
theorem gn_BODY (hK : GK G) : NG G (Str.ofString "BODY") (.int 7) := .mk 14 hK (GV.int _ _) rfl
theorem gn_Token (hK : GK G) : NG G (Str.ofString "Token") (.ref 255) := .mk 15 hK (GV.ref _) rfl
theorem gn__law_things (hK : GK G) : NG G (Str.ofString "_law_things") (.ref 610) := .mk 16 hK (GV.ref _) rfl
theorem gn__law_words (hK : GK G) : NG G (Str.ofString "_law_words") (.ref 596) := .mk 17 hK (GV.ref _) rfl
theorem gn_Walk (hK : GK G) : NG G (Str.ofString "Walk") (.ref 469) := .mk 18 hK (GV.ref _) rfl
theorem gn_Line (hK : GK G) : NG G (Str.ofString "Line") (.ref 145) := .mk 19 hK (GV.ref _) rfl
theorem gn_read_pair (hK : GK G) : NG G (Str.ofString "read_pair") (.ref 529) := .mk 20 hK (GV.ref _) rfl
theorem gn_need_apart (hK : GK G) : NG G (Str.ofString "need_apart") (.ref 353) := .mk 21 hK (GV.ref _) rfl
theorem gn_mark_at (hK : GK G) : NG G (Str.ofString "mark_at") (.ref 360) := .mk 22 hK (GV.ref _) rfl
theorem gn_substituted (hK : GK G) : NG G (Str.ofString "substituted") (.ref 508) := .mk 23 hK (GV.ref _) rfl
theorem gn_WORD_SIGNS (hK : GK G) : NG G (Str.ofString "WORD_SIGNS") (.str WORDS) := .mk 24 hK (GV.strL lit_92) rfl
theorem gn_WIDTH (hK : GK G) : NG G (Str.ofString "WIDTH") (.int 80) := .mk 25 hK (GV.int _ _) rfl
theorem gn_tokens_of (hK : GK G) : NG G (Str.ofString "tokens_of") (.ref 402) := .mk 26 hK (GV.ref _) rfl
theorem gn_is_picture_next (hK : GK G) : NG G (Str.ofString "is_picture_next") (.ref 381) := .mk 27 hK (GV.ref _) rfl
theorem gn_lines_of (hK : GK G) : NG G (Str.ofString "lines_of") (.ref 229) := .mk 28 hK (GV.ref _) rfl
theorem gn_library_text (hK : GK G) : NG G (Str.ofString "library_text") (.ref 550) := .mk 29 hK (GV.ref _) rfl
theorem gn_capitals (hK : GK G) : NG G (Str.ofString "capitals") (.ref 271) := .mk 30 hK (GV.ref _) rfl
theorem gn_read_tokens (hK : GK G) : NG G (Str.ofString "read_tokens") (.ref 579) := .mk 31 hK (GV.ref _) rfl
theorem gn_read_side (hK : GK G) : NG G (Str.ofString "read_side") (.ref 522) := .mk 32 hK (GV.ref _) rfl
theorem gn__law_exchanged (hK : GK G) : NG G (Str.ofString "_law_exchanged") (.ref 634) := .mk 33 hK (GV.ref _) rfl
theorem gn_worth_at (hK : GK G) : NG G (Str.ofString "worth_at") (.ref 367) := .mk 34 hK (GV.ref _) rfl
theorem gn_BODY_END (hK : GK G) : NG G (Str.ofString "BODY_END") (.int 72) := .mk 35 hK (GV.int _ _) rfl
theorem gn_cut_row (hK : GK G) : NG G (Str.ofString "cut_row") (.ref 163) := .mk 36 hK (GV.ref _) rfl
theorem gn_expand (hK : GK G) : NG G (Str.ofString "expand") (.ref 571) := .mk 37 hK (GV.ref _) rfl
theorem gn_checked_word (hK : GK G) : NG G (Str.ofString "checked_word") (.ref 325) := .mk 38 hK (GV.ref _) rfl
theorem gn_token_key (hK : GK G) : NG G (Str.ofString "token_key") (.ref 480) := .mk 39 hK (GV.ref _) rfl
theorem gn_is_parted (hK : GK G) : NG G (Str.ofString "is_parted") (.ref 285) := .mk 40 hK (GV.ref _) rfl
theorem gn_add_tokens (hK : GK G) : NG G (Str.ofString "add_tokens") (.ref 388) := .mk 41 hK (GV.ref _) rfl
theorem gn__law_side (hK : GK G) : NG G (Str.ofString "_law_side") (.ref 617) := .mk 42 hK (GV.ref _) rfl
theorem gn_Row (hK : GK G) : NG G (Str.ofString "Row") (.ref 117) := .mk 43 hK (GV.ref _) rfl
theorem gn_SINGLE_SIGNS (hK : GK G) : NG G (Str.ofString "SINGLE_SIGNS") (.str [40, 41, 58, 43, 45, 42, 47, 61, 60, 62]) := .mk 44 hK (GV.strL lit_7) rfl
theorem gn__law_spelled (hK : GK G) : NG G (Str.ofString "_law_spelled") (.ref 624) := .mk 45 hK (GV.ref _) rfl
theorem gn_is_blank_at (hK : GK G) : NG G (Str.ofString "is_blank_at") (.ref 374) := .mk 46 hK (GV.ref _) rfl
theorem gn_body_line (hK : GK G) : NG G (Str.ofString "body_line") (.ref 194) := .mk 47 hK (GV.ref _) rfl
theorem gn_first_pair (hK : GK G) : NG G (Str.ofString "first_pair") (.ref 494) := .mk 48 hK (GV.ref _) rfl
theorem gn_checked_literal (hK : GK G) : NG G (Str.ofString "checked_literal") (.ref 339) := .mk 49 hK (GV.ref _) rfl
theorem gn_MOST_DEPTH (hK : GK G) : NG G (Str.ofString "MOST_DEPTH") (.int 5) := .mk 50 hK (GV.int _ _) rfl
theorem gn_read_copy (hK : GK G) : NG G (Str.ofString "read_copy") (.ref 543) := .mk 51 hK (GV.ref _) rfl
theorem gn_row_counts (hK : GK G) : NG G (Str.ofString "row_counts") (.ref 189) := .mk 52 hK (GV.ref _) rfl
theorem gn_MOST_LITERAL (hK : GK G) : NG G (Str.ofString "MOST_LITERAL") (.int 160) := .mk 53 hK (GV.int _ _) rfl
theorem gn_read_pseudo (hK : GK G) : NG G (Str.ofString "read_pseudo") (.ref 515) := .mk 54 hK (GV.ref _) rfl
theorem gn_MOST_WORD (hK : GK G) : NG G (Str.ofString "MOST_WORD") (.int 30) := .mk 55 hK (GV.int _ _) rfl
theorem gn_is_word_sign (hK : GK G) : NG G (Str.ofString "is_word_sign") (.ref 278) := .mk 56 hK (GV.ref _) rfl
theorem gn_check_signs (hK : GK G) : NG G (Str.ofString "check_signs") (.ref 156) := .mk 57 hK (GV.ref _) rfl
theorem gn_without_end (hK : GK G) : NG G (Str.ofString "without_end") (.ref 201) := .mk 58 hK (GV.ref _) rfl
theorem gn_read_pairs (hK : GK G) : NG G (Str.ofString "read_pairs") (.ref 536) := .mk 59 hK (GV.ref _) rfl
theorem gn_replaced_all (hK : GK G) : NG G (Str.ofString "replaced_all") (.ref 564) := .mk 60 hK (GV.ref _) rfl
theorem gn_stands_at (hK : GK G) : NG G (Str.ofString "stands_at") (.ref 487) := .mk 61 hK (GV.ref _) rfl
theorem gn_literal_end (hK : GK G) : NG G (Str.ofString "literal_end") (.ref 313) := .mk 62 hK (GV.ref _) rfl
theorem gn_number_end (hK : GK G) : NG G (Str.ofString "number_end") (.ref 306) := .mk 63 hK (GV.ref _) rfl
theorem gn_standing_in (hK : GK G) : NG G (Str.ofString "standing_in") (.ref 501) := .mk 64 hK (GV.ref _) rfl
theorem gn__law_written (hK : GK G) : NG G (Str.ofString "_law_written") (.ref 651) := .mk 65 hK (GV.ref _) rfl
theorem gn_INDICATORS (hK : GK G) : NG G (Str.ofString "INDICATORS") (.str [32, 42, 47, 45, 68]) := .mk 66 hK (GV.strL lit_2) rfl
theorem gn__law_pairs (hK : GK G) : NG G (Str.ofString "_law_pairs") (.ref 603) := .mk 67 hK (GV.ref _) rfl
theorem gn__law_box (hK : GK G) : NG G (Str.ofString "_law_box") (.ref 584) := .mk 68 hK (GV.ref _) rfl
theorem gn_DOUBLE_SIGNS (hK : GK G) : NG G (Str.ofString "DOUBLE_SIGNS") (.str [42, 42, 32, 60, 61, 32, 62, 61]) := .mk 69 hK (GV.strL lit_8) rfl
end
/-- LedgerError.__init__ -/
noncomputable def fd37 : FuncData := (⟨_, fun P => ⟨_, _, _, rfl⟩⟩ : {fd : FuncData // ∀ P, ∃ c d s, (Z.heap_1 P).lookup 37 = some ⟨c, d, .func fd, s⟩}).1
noncomputable def env37 (L : Addr) : Env := callEnv fd37 L 37
/-- Row.__init__ -/
noncomputable def fd100 : FuncData := (⟨_, fun P => ⟨_, _, _, rfl⟩⟩ : {fd : FuncData // ∀ P, ∃ c d s, (Z.heap_1 P).lookup 100 = some ⟨c, d, .func fd, s⟩}).1
noncomputable def env100 (L : Addr) : Env := callEnv fd100 L 100
/-- Row.is_blank -/
noncomputable def fd114 : FuncData := (⟨_, fun P => ⟨_, _, _, rfl⟩⟩ : {fd : FuncData // ∀ P, ∃ c d s, (Z.heap_1 P).lookup 114 = some ⟨c, d, .func fd, s⟩}).1
noncomputable def env114 (L : Addr) : Env := callEnv fd114 L 114
/-- Line.__init__ -/
noncomputable def fd135 : FuncData := (⟨_, fun P => ⟨_, _, _, rfl⟩⟩ : {fd : FuncData // ∀ P, ∃ c d s, (Z.heap_1 P).lookup 135 = some ⟨c, d, .func fd, s⟩}).1
noncomputable def env135 (L : Addr) : Env := callEnv fd135 L 135
/-- check_signs -/
noncomputable def fd156 : FuncData := (⟨_, fun P => ⟨_, _, _, rfl⟩⟩ : {fd : FuncData // ∀ P, ∃ c d s, (Z.heap_1 P).lookup 156 = some ⟨c, d, .func fd, s⟩}).1
noncomputable def env156 (L : Addr) : Env := callEnv fd156 L 156
/-- cut_row -/
noncomputable def fd163 : FuncData := (⟨_, fun P => ⟨_, _, _, rfl⟩⟩ : {fd : FuncData // ∀ P, ∃ c d s, (Z.heap_1 P).lookup 163 = some ⟨c, d, .func fd, s⟩}).1
noncomputable def env163 (L : Addr) : Env := callEnv fd163 L 163
/-- read_rows -/
noncomputable def fd168 : FuncData := (⟨_, fun P => ⟨_, _, _, rfl⟩⟩ : {fd : FuncData // ∀ P, ∃ c d s, (Z.heap_1 P).lookup 168 = some ⟨c, d, .func fd, s⟩}).1
noncomputable def env168 (L : Addr) : Env := callEnvC fd168 L 168
/-- row_counts -/
noncomputable def fd189 : FuncData := (⟨_, fun P => ⟨_, _, _, rfl⟩⟩ : {fd : FuncData // ∀ P, ∃ c d s, (Z.heap_1 P).lookup 189 = some ⟨c, d, .func fd, s⟩}).1
noncomputable def env189 (L : Addr) : Env := callEnv fd189 L 189
/-- body_line -/
noncomputable def fd194 : FuncData := (⟨_, fun P => ⟨_, _, _, rfl⟩⟩ : {fd : FuncData // ∀ P, ∃ c d s, (Z.heap_1 P).lookup 194 = some ⟨c, d, .func fd, s⟩}).1
noncomputable def env194 (L : Addr) : Env := callEnvC fd194 L 194
/-- without_end -/
noncomputable def fd201 : FuncData := (⟨_, fun P => ⟨_, _, _, rfl⟩⟩ : {fd : FuncData // ∀ P, ∃ c d s, (Z.heap_1 P).lookup 201 = some ⟨c, d, .func fd, s⟩}).1
noncomputable def env201 (L : Addr) : Env := callEnv fd201 L 201
/-- logical_lines -/
noncomputable def fd221 : FuncData := (⟨_, fun P => ⟨_, _, _, rfl⟩⟩ : {fd : FuncData // ∀ P, ∃ c d s, (Z.heap_1 P).lookup 221 = some ⟨c, d, .func fd, s⟩}).1
noncomputable def env221 (L : Addr) : Env := callEnv fd221 L 221
/-- lines_of -/
noncomputable def fd229 : FuncData := (⟨_, fun P => ⟨_, _, _, rfl⟩⟩ : {fd : FuncData // ∀ P, ∃ c d s, (Z.heap_1 P).lookup 229 = some ⟨c, d, .func fd, s⟩}).1
noncomputable def env229 (L : Addr) : Env := callEnv fd229 L 229
/-- Token.__init__ -/
noncomputable def fd245 : FuncData := (⟨_, fun P => ⟨_, _, _, rfl⟩⟩ : {fd : FuncData // ∀ P, ∃ c d s, (Z.heap_1 P).lookup 245 = some ⟨c, d, .func fd, s⟩}).1
noncomputable def env245 (L : Addr) : Env := callEnv fd245 L 245
/-- capital_of -/
noncomputable def fd266 : FuncData := (⟨_, fun P => ⟨_, _, _, rfl⟩⟩ : {fd : FuncData // ∀ P, ∃ c d s, (Z.heap_1 P).lookup 266 = some ⟨c, d, .func fd, s⟩}).1
noncomputable def env266 (L : Addr) : Env := callEnv fd266 L 266
/-- capitals -/
noncomputable def fd271 : FuncData := (⟨_, fun P => ⟨_, _, _, rfl⟩⟩ : {fd : FuncData // ∀ P, ∃ c d s, (Z.heap_1 P).lookup 271 = some ⟨c, d, .func fd, s⟩}).1
noncomputable def env271 (L : Addr) : Env := callEnv fd271 L 271
/-- is_word_sign -/
noncomputable def fd278 : FuncData := (⟨_, fun P => ⟨_, _, _, rfl⟩⟩ : {fd : FuncData // ∀ P, ∃ c d s, (Z.heap_1 P).lookup 278 = some ⟨c, d, .func fd, s⟩}).1
noncomputable def env278 (L : Addr) : Env := callEnv fd278 L 278
/-- is_parted -/
noncomputable def fd285 : FuncData := (⟨_, fun P => ⟨_, _, _, rfl⟩⟩ : {fd : FuncData // ∀ P, ∃ c d s, (Z.heap_1 P).lookup 285 = some ⟨c, d, .func fd, s⟩}).1
noncomputable def env285 (L : Addr) : Env := callEnv fd285 L 285
/-- run_end -/
noncomputable def fd299 : FuncData := (⟨_, fun P => ⟨_, _, _, rfl⟩⟩ : {fd : FuncData // ∀ P, ∃ c d s, (Z.heap_1 P).lookup 299 = some ⟨c, d, .func fd, s⟩}).1
noncomputable def env299 (L : Addr) : Env := callEnv fd299 L 299
/-- number_end -/
noncomputable def fd306 : FuncData := (⟨_, fun P => ⟨_, _, _, rfl⟩⟩ : {fd : FuncData // ∀ P, ∃ c d s, (Z.heap_1 P).lookup 306 = some ⟨c, d, .func fd, s⟩}).1
noncomputable def env306 (L : Addr) : Env := callEnv fd306 L 306
/-- literal_end -/
noncomputable def fd313 : FuncData := (⟨_, fun P => ⟨_, _, _, rfl⟩⟩ : {fd : FuncData // ∀ P, ∃ c d s, (Z.heap_1 P).lookup 313 = some ⟨c, d, .func fd, s⟩}).1
noncomputable def env313 (L : Addr) : Env := callEnv fd313 L 313
/-- checked_word -/
noncomputable def fd325 : FuncData := (⟨_, fun P => ⟨_, _, _, rfl⟩⟩ : {fd : FuncData // ∀ P, ∃ c d s, (Z.heap_1 P).lookup 325 = some ⟨c, d, .func fd, s⟩}).1
noncomputable def env325 (L : Addr) : Env := callEnv fd325 L 325
/-- checked_literal -/
noncomputable def fd339 : FuncData := (⟨_, fun P => ⟨_, _, _, rfl⟩⟩ : {fd : FuncData // ∀ P, ∃ c d s, (Z.heap_1 P).lookup 339 = some ⟨c, d, .func fd, s⟩}).1
noncomputable def env339 (L : Addr) : Env := callEnv fd339 L 339
/-- need_apart -/
noncomputable def fd353 : FuncData := (⟨_, fun P => ⟨_, _, _, rfl⟩⟩ : {fd : FuncData // ∀ P, ∃ c d s, (Z.heap_1 P).lookup 353 = some ⟨c, d, .func fd, s⟩}).1
noncomputable def env353 (L : Addr) : Env := callEnv fd353 L 353
/-- mark_at -/
noncomputable def fd360 : FuncData := (⟨_, fun P => ⟨_, _, _, rfl⟩⟩ : {fd : FuncData // ∀ P, ∃ c d s, (Z.heap_1 P).lookup 360 = some ⟨c, d, .func fd, s⟩}).1
noncomputable def env360 (L : Addr) : Env := callEnv fd360 L 360
/-- worth_at -/
noncomputable def fd367 : FuncData := (⟨_, fun P => ⟨_, _, _, rfl⟩⟩ : {fd : FuncData // ∀ P, ∃ c d s, (Z.heap_1 P).lookup 367 = some ⟨c, d, .func fd, s⟩}).1
noncomputable def env367 (L : Addr) : Env := callEnv fd367 L 367
/-- is_blank_at -/
noncomputable def fd374 : FuncData := (⟨_, fun P => ⟨_, _, _, rfl⟩⟩ : {fd : FuncData // ∀ P, ∃ c d s, (Z.heap_1 P).lookup 374 = some ⟨c, d, .func fd, s⟩}).1
noncomputable def env374 (L : Addr) : Env := callEnv fd374 L 374
/-- is_picture_next -/
noncomputable def fd381 : FuncData := (⟨_, fun P => ⟨_, _, _, rfl⟩⟩ : {fd : FuncData // ∀ P, ∃ c d s, (Z.heap_1 P).lookup 381 = some ⟨c, d, .func fd, s⟩}).1
noncomputable def env381 (L : Addr) : Env := callEnv fd381 L 381
/-- add_tokens -/
noncomputable def fd388 : FuncData := (⟨_, fun P => ⟨_, _, _, rfl⟩⟩ : {fd : FuncData // ∀ P, ∃ c d s, (Z.heap_1 P).lookup 388 = some ⟨c, d, .func fd, s⟩}).1
noncomputable def env388 (L : Addr) : Env := callEnv fd388 L 388
/-- is_word_is -/
noncomputable def fd395 : FuncData := (⟨_, fun P => ⟨_, _, _, rfl⟩⟩ : {fd : FuncData // ∀ P, ∃ c d s, (Z.heap_1 P).lookup 395 = some ⟨c, d, .func fd, s⟩}).1
noncomputable def env395 (L : Addr) : Env := callEnv fd395 L 395
/-- tokens_of -/
noncomputable def fd402 : FuncData := (⟨_, fun P => ⟨_, _, _, rfl⟩⟩ : {fd : FuncData // ∀ P, ∃ c d s, (Z.heap_1 P).lookup 402 = some ⟨c, d, .func fd, s⟩}).1
noncomputable def env402 (L : Addr) : Env := callEnv fd402 L 402
/-- Walk.__init__ -/
noncomputable def fd417 : FuncData := (⟨_, fun P => ⟨_, _, _, rfl⟩⟩ : {fd : FuncData // ∀ P, ∃ c d s, (Z.heap_1 P).lookup 417 = some ⟨c, d, .func fd, s⟩}).1
noncomputable def env417 (L : Addr) : Env := callEnv fd417 L 417
/-- Walk.is_done -/
noncomputable def fd424 : FuncData := (⟨_, fun P => ⟨_, _, _, rfl⟩⟩ : {fd : FuncData // ∀ P, ∃ c d s, (Z.heap_1 P).lookup 424 = some ⟨c, d, .func fd, s⟩}).1
noncomputable def env424 (L : Addr) : Env := callEnv fd424 L 424
/-- Walk.peek -/
noncomputable def fd431 : FuncData := (⟨_, fun P => ⟨_, _, _, rfl⟩⟩ : {fd : FuncData // ∀ P, ∃ c d s, (Z.heap_1 P).lookup 431 = some ⟨c, d, .func fd, s⟩}).1
noncomputable def env431 (L : Addr) : Env := callEnv fd431 L 431
/-- Walk.stands -/
noncomputable def fd438 : FuncData := (⟨_, fun P => ⟨_, _, _, rfl⟩⟩ : {fd : FuncData // ∀ P, ∃ c d s, (Z.heap_1 P).lookup 438 = some ⟨c, d, .func fd, s⟩}).1
noncomputable def env438 (L : Addr) : Env := callEnv fd438 L 438
/-- Walk.skip -/
noncomputable def fd445 : FuncData := (⟨_, fun P => ⟨_, _, _, rfl⟩⟩ : {fd : FuncData // ∀ P, ∃ c d s, (Z.heap_1 P).lookup 445 = some ⟨c, d, .func fd, s⟩}).1
noncomputable def env445 (L : Addr) : Env := callEnv fd445 L 445
/-- Walk.take -/
noncomputable def fd459 : FuncData := (⟨_, fun P => ⟨_, _, _, rfl⟩⟩ : {fd : FuncData // ∀ P, ∃ c d s, (Z.heap_1 P).lookup 459 = some ⟨c, d, .func fd, s⟩}).1
noncomputable def env459 (L : Addr) : Env := callEnv fd459 L 459
/-- Walk.need -/
noncomputable def fd466 : FuncData := (⟨_, fun P => ⟨_, _, _, rfl⟩⟩ : {fd : FuncData // ∀ P, ∃ c d s, (Z.heap_1 P).lookup 466 = some ⟨c, d, .func fd, s⟩}).1
noncomputable def env466 (L : Addr) : Env := callEnv fd466 L 466
/-- token_key -/
noncomputable def fd480 : FuncData := (⟨_, fun P => ⟨_, _, _, rfl⟩⟩ : {fd : FuncData // ∀ P, ∃ c d s, (Z.heap_1 P).lookup 480 = some ⟨c, d, .func fd, s⟩}).1
noncomputable def env480 (L : Addr) : Env := callEnv fd480 L 480
/-- stands_at -/
noncomputable def fd487 : FuncData := (⟨_, fun P => ⟨_, _, _, rfl⟩⟩ : {fd : FuncData // ∀ P, ∃ c d s, (Z.heap_1 P).lookup 487 = some ⟨c, d, .func fd, s⟩}).1
noncomputable def env487 (L : Addr) : Env := callEnv fd487 L 487
/-- first_pair -/
noncomputable def fd494 : FuncData := (⟨_, fun P => ⟨_, _, _, rfl⟩⟩ : {fd : FuncData // ∀ P, ∃ c d s, (Z.heap_1 P).lookup 494 = some ⟨c, d, .func fd, s⟩}).1
noncomputable def env494 (L : Addr) : Env := callEnv fd494 L 494
/-- standing_in -/
noncomputable def fd501 : FuncData := (⟨_, fun P => ⟨_, _, _, rfl⟩⟩ : {fd : FuncData // ∀ P, ∃ c d s, (Z.heap_1 P).lookup 501 = some ⟨c, d, .func fd, s⟩}).1
noncomputable def env501 (L : Addr) : Env := callEnv fd501 L 501
/-- substituted -/
noncomputable def fd508 : FuncData := (⟨_, fun P => ⟨_, _, _, rfl⟩⟩ : {fd : FuncData // ∀ P, ∃ c d s, (Z.heap_1 P).lookup 508 = some ⟨c, d, .func fd, s⟩}).1
noncomputable def env508 (L : Addr) : Env := callEnv fd508 L 508
/-- read_pseudo -/
noncomputable def fd515 : FuncData := (⟨_, fun P => ⟨_, _, _, rfl⟩⟩ : {fd : FuncData // ∀ P, ∃ c d s, (Z.heap_1 P).lookup 515 = some ⟨c, d, .func fd, s⟩}).1
noncomputable def env515 (L : Addr) : Env := callEnv fd515 L 515
/-- read_side -/
noncomputable def fd522 : FuncData := (⟨_, fun P => ⟨_, _, _, rfl⟩⟩ : {fd : FuncData // ∀ P, ∃ c d s, (Z.heap_1 P).lookup 522 = some ⟨c, d, .func fd, s⟩}).1
noncomputable def env522 (L : Addr) : Env := callEnv fd522 L 522
/-- read_pair -/
noncomputable def fd529 : FuncData := (⟨_, fun P => ⟨_, _, _, rfl⟩⟩ : {fd : FuncData // ∀ P, ∃ c d s, (Z.heap_1 P).lookup 529 = some ⟨c, d, .func fd, s⟩}).1
noncomputable def env529 (L : Addr) : Env := callEnv fd529 L 529
/-- read_pairs -/
noncomputable def fd536 : FuncData := (⟨_, fun P => ⟨_, _, _, rfl⟩⟩ : {fd : FuncData // ∀ P, ∃ c d s, (Z.heap_1 P).lookup 536 = some ⟨c, d, .func fd, s⟩}).1
noncomputable def env536 (L : Addr) : Env := callEnv fd536 L 536
/-- read_copy -/
noncomputable def fd543 : FuncData := (⟨_, fun P => ⟨_, _, _, rfl⟩⟩ : {fd : FuncData // ∀ P, ∃ c d s, (Z.heap_1 P).lookup 543 = some ⟨c, d, .func fd, s⟩}).1
noncomputable def env543 (L : Addr) : Env := callEnv fd543 L 543
/-- library_text -/
noncomputable def fd550 : FuncData := (⟨_, fun P => ⟨_, _, _, rfl⟩⟩ : {fd : FuncData // ∀ P, ∃ c d s, (Z.heap_1 P).lookup 550 = some ⟨c, d, .func fd, s⟩}).1
noncomputable def env550 (L : Addr) : Env := callEnv fd550 L 550
/-- copied -/
noncomputable def fd557 : FuncData := (⟨_, fun P => ⟨_, _, _, rfl⟩⟩ : {fd : FuncData // ∀ P, ∃ c d s, (Z.heap_1 P).lookup 557 = some ⟨c, d, .func fd, s⟩}).1
noncomputable def env557 (L : Addr) : Env := callEnv fd557 L 557
/-- replaced_all -/
noncomputable def fd564 : FuncData := (⟨_, fun P => ⟨_, _, _, rfl⟩⟩ : {fd : FuncData // ∀ P, ∃ c d s, (Z.heap_1 P).lookup 564 = some ⟨c, d, .func fd, s⟩}).1
noncomputable def env564 (L : Addr) : Env := callEnv fd564 L 564
/-- expand -/
noncomputable def fd571 : FuncData := (⟨_, fun P => ⟨_, _, _, rfl⟩⟩ : {fd : FuncData // ∀ P, ∃ c d s, (Z.heap_1 P).lookup 571 = some ⟨c, d, .func fd, s⟩}).1
noncomputable def env571 (L : Addr) : Env := callEnv fd571 L 571
/-- read_tokens -/
noncomputable def fd579 : FuncData := (⟨_, fun P => ⟨_, _, _, rfl⟩⟩ : {fd : FuncData // ∀ P, ∃ c d s, (Z.heap_1 P).lookup 579 = some ⟨c, d, .func fd, s⟩}).1
noncomputable def env579 (L : Addr) : Env := callEnv fd579 L 579
/-- _law_box -/
noncomputable def fd584 : FuncData := (⟨_, fun P => ⟨_, _, _, rfl⟩⟩ : {fd : FuncData // ∀ P, ∃ c d s, (Z.heap_1 P).lookup 584 = some ⟨c, d, .func fd, s⟩}).1
noncomputable def env584 (L : Addr) : Env := callEnv fd584 L 584
/-- _law_draw -/
noncomputable def fd591 : FuncData := (⟨_, fun P => ⟨_, _, _, rfl⟩⟩ : {fd : FuncData // ∀ P, ∃ c d s, (Z.heap_1 P).lookup 591 = some ⟨c, d, .func fd, s⟩}).1
noncomputable def env591 (L : Addr) : Env := callEnv fd591 L 591
/-- _law_words -/
noncomputable def fd596 : FuncData := (⟨_, fun P => ⟨_, _, _, rfl⟩⟩ : {fd : FuncData // ∀ P, ∃ c d s, (Z.heap_1 P).lookup 596 = some ⟨c, d, .func fd, s⟩}).1
noncomputable def env596 (L : Addr) : Env := callEnvC fd596 L 596
/-- _law_pairs -/
noncomputable def fd603 : FuncData := (⟨_, fun P => ⟨_, _, _, rfl⟩⟩ : {fd : FuncData // ∀ P, ∃ c d s, (Z.heap_1 P).lookup 603 = some ⟨c, d, .func fd, s⟩}).1
noncomputable def env603 (L : Addr) : Env := callEnv fd603 L 603
/-- _law_things -/
noncomputable def fd610 : FuncData := (⟨_, fun P => ⟨_, _, _, rfl⟩⟩ : {fd : FuncData // ∀ P, ∃ c d s, (Z.heap_1 P).lookup 610 = some ⟨c, d, .func fd, s⟩}).1
noncomputable def env610 (L : Addr) : Env := callEnv fd610 L 610
/-- _law_side -/
noncomputable def fd617 : FuncData := (⟨_, fun P => ⟨_, _, _, rfl⟩⟩ : {fd : FuncData // ∀ P, ∃ c d s, (Z.heap_1 P).lookup 617 = some ⟨c, d, .func fd, s⟩}).1
noncomputable def env617 (L : Addr) : Env := callEnv fd617 L 617
/-- _law_spelled -/
noncomputable def fd624 : FuncData := (⟨_, fun P => ⟨_, _, _, rfl⟩⟩ : {fd : FuncData // ∀ P, ∃ c d s, (Z.heap_1 P).lookup 624 = some ⟨c, d, .func fd, s⟩}).1
noncomputable def env624 (L : Addr) : Env := callEnv fd624 L 624
/-- _law_text -/
noncomputable def fd629 : FuncData := (⟨_, fun P => ⟨_, _, _, rfl⟩⟩ : {fd : FuncData // ∀ P, ∃ c d s, (Z.heap_1 P).lookup 629 = some ⟨c, d, .func fd, s⟩}).1
noncomputable def env629 (L : Addr) : Env := callEnv fd629 L 629
/-- _law_exchanged -/
noncomputable def fd634 : FuncData := (⟨_, fun P => ⟨_, _, _, rfl⟩⟩ : {fd : FuncData // ∀ P, ∃ c d s, (Z.heap_1 P).lookup 634 = some ⟨c, d, .func fd, s⟩}).1
noncomputable def env634 (L : Addr) : Env := callEnvC fd634 L 634
/-- _law_due -/
noncomputable def fd641 : FuncData := (⟨_, fun P => ⟨_, _, _, rfl⟩⟩ : {fd : FuncData // ∀ P, ∃ c d s, (Z.heap_1 P).lookup 641 = some ⟨c, d, .func fd, s⟩}).1
noncomputable def env641 (L : Addr) : Env := callEnv fd641 L 641
/-- _law_heard -/
noncomputable def fd646 : FuncData := (⟨_, fun P => ⟨_, _, _, rfl⟩⟩ : {fd : FuncData // ∀ P, ∃ c d s, (Z.heap_1 P).lookup 646 = some ⟨c, d, .func fd, s⟩}).1
noncomputable def env646 (L : Addr) : Env := callEnv fd646 L 646
/-- _law_written -/
noncomputable def fd651 : FuncData := (⟨_, fun P => ⟨_, _, _, rfl⟩⟩ : {fd : FuncData // ∀ P, ∃ c d s, (Z.heap_1 P).lookup 651 = some ⟨c, d, .func fd, s⟩}).1
noncomputable def env651 (L : Addr) : Env := callEnvC fd651 L 651
/-- law -/
noncomputable def fd656 : FuncData := (⟨_, fun P => ⟨_, _, _, rfl⟩⟩ : {fd : FuncData // ∀ P, ∃ c d s, (Z.heap_1 P).lookup 656 = some ⟨c, d, .func fd, s⟩}).1
noncomputable def env656 (L : Addr) : Env := callEnvC fd656 L 656
end W0
open PySem PySem.W PyProof.Rows
theorem and_i {a b : Prop} (k : a) (h : b) : a ∧ b := ⟨k, h⟩
section
open Lean
/-- closes a side goal of a step; the hole's first letter tells how -/
def sideT (c : Char) : MacroM (TSyntax `tactic) :=
  match c with
  | 'u' => `(tactic| (intros; with_unfolding_all rfl))
  | 'd' => `(tactic| decide)
  | 'a' => `(tactic| assumption)
  | 'f' => `(tactic| lia)
  | 'r' => `(tactic| eq_refl)
  | _ => `(tactic| wtm_at $(Syntax.mkStrLit (String.singleton c)):str)
def holeN (sc h : String) : Ident := mkIdent (.str (.mkSimple ("s" ++ sc)) h)
/-- "sc h r1 .." : the side goals of the step with that number, in order; h stays, ahead of all -/
def restT (s : String) : MacroM (TSyntax `tactic) := do
  let sc :: hs := s.splitOn " " | Macro.throwUnsupported
  let mut ts : Array Syntax := #[]
  for c in "avnerudRDlgkzfcbxpq".toList do
    for h in hs do
      if String.Pos.Raw.get h 0 == c then
        let d ← sideT c
        ts := ts.push (← `(tactic| case $(holeN sc h):ident => $d:tactic))
  if hs.contains "h" then ts := ts.push (← `(tactic| case' $(holeN sc "h"):ident => skip))
  return ⟨mkNullNode ts⟩
/-- "X h r1 .." : the lemma X with its holes; h is the goal that stays. Ahead of X: ' for refine', ~ for refine' that may unfold, @ and ! for exact, = for exact with hK; * is assumption, % a witness -/
def stepT (s : String) : MacroM (TSyntax `tactic) := do
  let x :: hs := s.splitOn " " | Macro.throwUnsupported
  let c := String.Pos.Raw.get x 0
  let y := String.ofList x.toList.tail
  if c == '*' then `(tactic| assumption)
  else if c == '%' then `(tactic| with_reducible refine ⟨_, rfl, ?_⟩)
  else if c == '&' then `(tactic| wtm_at $(Syntax.mkStrLit y):str)
  else if s == "!rfl" then `(tactic| eq_refl)
  else if c == '!' then `(tactic| exact $(mkIdent y.toName))
  else if c == '@' then `(tactic| with_reducible exact $(mkIdent y.toName))
  else if c == '=' then `(tactic| with_reducible exact $(mkIdent y.toName) $(mkIdent `hK))
  else
    let f : Ident := mkIdent (if c == '\'' || c == '~' then y else x).toName
    if hs.isEmpty then `(tactic| with_reducible refine $f ?_)
    else
      let sc := Nat.repr (← getCurrMacroScope)
      let as : Array Term ← hs.toArray.mapM fun h => do if h == "_" then `(_) else `(?$(holeN sc h))
      let t ← if c == '~' then `(tactic| refine' $f $as*) else if c == '\'' then `(tactic| with_reducible refine' $f $as*) else `(tactic| with_reducible refine $f $as*)
      let k ← `(tactic| wtm_at $(Syntax.mkStrLit ("#" ++ sc ++ " " ++ " ".intercalate hs)):str)
      return ⟨mkNullNode #[t, k]⟩
def oneT (l : List String) : MacroM (TSyntax `tactic) := do
  let ts := (← l.mapM stepT).toArray
  `(tactic| first $[| $ts:tactic]*)
/-- the steps of a judgement, tried where the goal is of it -/
def guardT (f : String) (n : Nat) : MacroM (TSyntax `tactic) := do
  let u ← `(_)
  let g ← `(tactic| guard_target = $(mkIdent f.toName) $(Array.replicate n u)*)
  let k ← `(tactic| wtm_at $(Syntax.mkStrLit f):str)
  return ⟨mkNullNode #[g, k]⟩
def w1T : MacroM (TSyntax `tactic) := do
  let n ← `(tactic| (guard_target = $(mkIdent `Ev) _ _ _ _ _ ($(mkIdent `eval) ($(mkIdent `Expr.Name) _ _) _) _ _ _; wtm_at "N"))
  let ts ← [("Ev", 9), ("Ex", 9), ("Ts", 9), ("COp", 9), ("Cl", 8), ("Asg", 9), ("Sp", 9), ("Tr", 7), ("BOp", 9), ("Mt", 8), ("Ga", 8), ("Pt", 9), ("Sl", 9)].mapM fun p => guardT p.1 p.2
  let ts := #[n] ++ ts.toArray ++ #[← `(tactic| wtm_at "An")]
  `(tactic| first $[| $ts:tactic]*)
/-- the steps by name -/
def walkT (s : String) : MacroM (TSyntax `tactic) :=
  if String.Pos.Raw.get s 0 == '#' then restT (String.ofList s.toList.tail)
  else if s == "w1" then w1T
  else match [("N", "'Ev_local v h r1 r2 d; 'Ev_cell v h r1 r2 d; 'Ev_bn n h r2 r3 r4 r5; 'Ev_gl e h r1 r2 r3"), ("Ev", "Ev_IfExp; Ev_BoolOp; Ev_or_cons; Ev_and_cons; Ev_boolOp_one; Ev_Compare h u; Ev_Compare2 h u; Ev_BinOp; Ev_int; Ev_neg; Ev_not; Ev_none; Ev_bool; Ev_Slice h u; Ev_Sub h u; Ev_Call h r1; Ev_Attr h u; Ev_Tuple; Ev_List; 'Ev_strL l h; 'Ev_Method h r1 r2"), ("Ex", "Ex_cons; Ex_Return; Ex_ReturnNone; Ex_Continue; Ex_If; Ex_nil; Ex_Assign h r1 r2 r3; Ex_ExprAny h r1 r2; Ex_AssignTuple h r1 r2; Ex_AssignAttr h r1; Ex_AssignSub h r1; Ex_AssignCell h c r1 r2 r3 r4"), ("Ts", "Ts_Not; Ts_BoolOp; Ts_And_cons; Ts_Or_cons; Ts_And_nil; Ts_Or_nil; Ts_Compare h u; Ts_Compare2 h u; Ts_value h r1"), ("An", "and_i k h; %"), ("COp", "COp_eq_int; COp_ne_int; COp_lt_int; COp_le_int; COp_gt_int; COp_ge_int; COp_eq_str; COp_ne_str; COp_le_str; COp_in_one; COp_notin_one; COp_is_none; COp_isnot_none"), ("Cl", "Cl_ord; Cl_abs; Cl_min; Cl_int; Cl_len_str f h"), ("Asg", "Asg_Name h r1 r2; Asg_Pair h r1 r2 r3 r4 r5; Asg_Triple h r1 r2 r3 r4 r5 r6"), ("Sp", "Sp_cons h r1; Sp_nil"), ("Tr", "Tr_bool; Tr_int"), ("BOp", "BOp_add; BOp_sub"), ("Mt", "'MtK2 a1 a2 r1 h p"), ("Ga", "'GaK2 a1 a2 r1 h r2 q"), ("Pt", "Pt_some; Pt_none"), ("Sl", "Sl_str z h"), ("w2", "KTup_mk b h; &w1"), ("v", "!put_eq; ~put_ne d v; *"), ("k", "!KeepV.bi; !KeepV.ty; ~KeepV.fn a r"), ("e", "=gn__law_draw; =gn__law_due; =gn_LETTERS; =gn_FIGURES; =gn_QUOTES; =gn_capital_of; =gn__law_text; =gn_CopyFault; =gn_read_rows; =gn_logical_lines; =gn__law_heard; =gn_copied; =gn_run_end; =gn_BODY; =gn_Token; =gn__law_things; =gn__law_words; =gn_Walk; =gn_Line; =gn_read_pair; =gn_need_apart; =gn_mark_at; =gn_substituted; =gn_WORD_SIGNS; =gn_WIDTH; =gn_tokens_of; =gn_is_picture_next; =gn_lines_of; =gn_library_text; =gn_capitals; =gn_read_tokens; =gn_read_side; =gn__law_exchanged; =gn_worth_at; =gn_BODY_END; =gn_cut_row; =gn_expand; =gn_checked_word; =gn_token_key; =gn_is_parted; =gn_add_tokens; =gn__law_side; =gn_Row; =gn_SINGLE_SIGNS; =gn__law_spelled; =gn_is_blank_at; =gn_body_line; =gn_first_pair; =gn_checked_literal; =gn_MOST_DEPTH; =gn_read_copy; =gn_row_counts; =gn_MOST_LITERAL; =gn_read_pseudo; =gn_MOST_WORD; =gn_is_word_sign; =gn_check_signs; =gn_without_end; =gn_read_pairs; =gn_replaced_all; =gn_stands_at; =gn_literal_end; =gn_number_end; =gn_standing_in; =gn__law_written; =gn_INDICATORS; =gn__law_pairs; =gn__law_box; =gn_DOUBLE_SIGNS"), ("p", "@mto_469_take; @mto_469_skip; @mto_469_is_done; @mto_469_need; @mto_469_stands; @mto_469_peek; @mto_117_is_blank"), ("q", "@gao_145_text; @gao_145_places; @gao_255_kind; @gao_255_worth; @gao_255_at; @gao_255_is_in_a; @gao_469_at; @gao_469_tokens; @gao_117_indicator; @gao_117_body"), ("n", "=nb_len; =nb_str; =nb_dict; =nb_isinstance; =nb_abs; =nb_ord; =nb_min; =nb_sorted; =nb_chr; =nb_int; =nb_Exception"), ("z", "~sz_of f"), ("c", "!cells_ap0"), ("b", "~ble_le r"), ("x", "!Ext.refl; *; ~Ext.trans a x"), ("R", "!rfl"), ("D", "~dec_D d"), ("nl", "KLst_new b h")].lookup s with
  | some t => oneT (t.splitOn "; ")
  | none => if s == "l" then oneT ((List.range 93).map fun i => "@lit_" ++ Nat.repr i) else Macro.throwUnsupported
end
local macro_rules | `(tactic| wtm_at $s:str) => walkT s.getString
section W1
open PySem PySem.W PyProof.Rows
set_option maxHeartbeats 2000000

section
variable {G : Ctx} {fs : List Env} {r : Nat} {H : AH} {Q : V → AH → Prop} {E : AH → Prop} {l : List Nat}
/-- capital_of -/
def capF (c : Nat) : Nat := if 97 ≤ c ∧ c ≤ 122 then c - 32 else c
theorem c_capital_of (hK : GK G) (hr : 1 ≤ r) {c : Nat} (hc : c < 128) (h : Q (.str [capF c]) H) : CC G fs r (.ref 266) [.str [c]] H Q E := by
  refine FN (env := env266) hK (lq hr rfl) rfl rfl rfl rfl rfl (ps := ["sign"]) (fun cs hl => by obtain ⟨c1, rfl⟩ := one_of hl; rfl) (by decide) (by decide) rfl rfl rfl (fun _ => rfl) fun hC L hL => ?_
  simp only [locs]
  repeat wtm_at "w1"
  refine ite_b (fun h1 => ?_) fun h1 => ?_
  · repeat wtm_at "w1"
    simp [lt_one] at h1
    refine ite_b (fun h2 => ?_) fun h2 => ?_
    · simp [lt_one] at h2
      repeat wtm_at "w1"
      refine Cl_chr (by lia) (by lia) ?_
      repeat wtm_at "w1"
      have : ((c : Int) - 32).toNat = capF c := by unfold capF; rw [if_pos ⟨h1, h2⟩]; lia
      rw [this]; exact RetQ.now h
    · simp [lt_one] at h2
      repeat wtm_at "w1"
      have : c = capF c := by unfold capF; rw [if_neg (by lia)]
      rw [this]; exact RetQ.now h
  · repeat wtm_at "w1"
    simp [lt_one] at h1
    refine ite_f rfl ?_
    repeat wtm_at "w1"
    have : c = capF c := by unfold capF; rw [if_neg (by lia)]
    rw [this]; exact RetQ.now h

theorem joinL_nil_sing (l : List Nat) : joinL [] (l.map fun c => [c]) = l := by
  induction l with
  | nil => rfl
  | cons a r ih => cases r with
    | nil => rfl
    | cons b r =>
      show [a] ++ [] ++ joinL [] ((b :: r).map fun c => [c]) = _
      rw [ih]; rfl
theorem sum_ones (l : List Nat) : (l.map fun _ => 1).sum = l.length := by
  induction l with
  | nil => rfl
  | cons a r ih => rw [List.map_cons, List.sum_cons, ih, List.length_cons, Nat.add_comm]
def capV : V → V
  | .str [c] => .str [capF c]
  | v => v
theorem capV_one {c : Nat} : capV (.str [c]) = .str [capF c] := rfl
theorem c_capitals (hK : GK G) (hr : 2 ≤ r) (hA : ∀ c ∈ l, c < 128) (hl : l.length ≤ 1000) (h : Q (.str (l.map capF)) H) : CC G fs r (.ref 271) [.str l] H Q E := by
  refine FN (env := env271) hK (lq hr rfl) rfl rfl rfl rfl rfl (ps := ["text"]) (fun cs hl => by obtain ⟨c1, rfl⟩ := one_of hl; rfl) (by decide) (by decide) rfl rfl rfl (fun _ => rfl) fun hC L hL => ?_
  simp only [locs]
  repeat wtm_at "w1"
  refine Mt_join ?_
  repeat wtm_at "w1"
  refine Ev_CompMF noLoc capV (fun _ => true) (Itb_str ?_) rfl no_cl no_mC rfl (by decide) (by decide) rfl rfl (by decide) (fun _ => rfl)
  repeat wtm_at "w1"
  refine ⟨⟨by simp [Src.items]; rw [sz24]; lia, fun _ _ _ => trivial, fun _ _ _ _ _ _ _ => ⟨rfl, rfl⟩, fun C D o i v hv _ hD => ?_⟩, fun D hD => ?_⟩
  · obtain ⟨c, hc, rfl⟩ : ∃ c ∈ l, v = .str [c] := by
      obtain ⟨c, h1, h2⟩ := List.mem_map.mp (List.mem_of_getElem? hv)
      exact ⟨c, h1, h2.symm⟩
    repeat wtm_at "w1"
    exact (c_capital_of hK (lr hr rfl) (hA c hc) ⟨rfl, rfl⟩).cl
  · repeat wtm_at "w1"
    have e : ((Src.str l).items.filter fun _ => true).map capV = (l.map fun c => [capF c]).map .str := by
      rw [List.filter_eq_self.mpr fun _ _ => rfl]
      simp [Src.items, Function.comp_def, capV_one]
    rw [e]
    refine Cl_join upd_eq ?_ ?_
    · have : ((l.map fun c => [capF c]).map (·.length)).sum = l.length := by
        rw [List.map_map]; simp [Function.comp_def, sum_ones]
      rw [this, sz24]; simp; lia
    · refine RetQ.drop hC (Ext.upd hD) ?_
      have := joinL_nil_sing (l.map capF)
      simp only [List.map_map, Function.comp_def] at this
      rw [this]; exact h

theorem c_is_word_sign (hK : GK G) (hr : 2 ≤ r) {c : Nat} (hc : c < 128) (h : Q (.bool (WORDS.contains (capF c))) H) : CC G fs r (.ref 278) [.str [c]] H Q E := by
  refine FN (env := env278) hK (lq hr rfl) rfl rfl rfl rfl rfl (ps := ["sign"]) (fun cs hl => by obtain ⟨c1, rfl⟩ := one_of hl; rfl) (by decide) (by decide) rfl rfl rfl (fun _ => rfl) fun hC L hL => ?_
  simp only [locs]
  repeat wtm_at "w1"
  refine (c_capital_of hK (lr hr rfl) hc ?_).cl
  repeat wtm_at "w1"
  exact RetQ.now h

theorem c_is_parted (hK : GK G) (hr : 1 ≤ r) {n : Nat} (hl : l.length ≤ 1000000) (h : Q (.bool (decide (l.length ≤ n) || l[n]? == some 32)) H) (hn : n ≤ 1000000) : CC G fs r (.ref 285) [.str l, .int n] H Q E := by
  refine FN (env := env285) hK (lq hr rfl) rfl rfl rfl rfl rfl (ps := ["text", "at"]) (fun cs hl => by obtain ⟨c1, c2, rfl⟩ := two_of hl; rfl) (by decide) (by decide) rfl rfl rfl (fun _ => rfl) fun hC L hL => ?_
  simp only [locs]
  repeat wtm_at "w1"
  refine ite_b (fun h1 => ?_) fun h1 => ?_
  · repeat wtm_at "w1"
    have : (decide (l.length ≤ n) || l[n]? == some 32) = decide ((l.length : Int) ≤ n) := by simp at h1; simp [h1]
    rw [this] at h; exact RetQ.now h
  · simp at h1
    repeat wtm_at "w1"
    refine GetI_str ⟨by lia, by lia⟩ (n := n) (c := l[n]) (StrLaws.seqIndex_nonneg (by lia) (by lia)) (List.getElem?_eq_getElem h1) ?_
    repeat wtm_at "w1"
    have : (decide (l.length ≤ n) || l[n]? == some 32) = ([l[n]] == [32]) := by
      rw [List.getElem?_eq_getElem h1, decide_eq_false (by lia)]; simp
    rw [this] at h; exact RetQ.now h

def runN (S : List Nat) (l : List Nat) : Nat := (l.takeWhile fun c => S.contains (capF c)).length
theorem runN_step {S : List Nat} {i : Nat} (h : i < l.length) : runN S (l.drop i) = if S.contains (capF l[i]) then runN S (l.drop (i + 1)) + 1 else 0 := by
  unfold runN
  rw [List.drop_eq_getElem_cons h, List.takeWhile_cons]
  split <;> simp
theorem runN_le {S : List Nat} : runN S l ≤ l.length := (List.takeWhile_sublist _).length_le

theorem c_run_end (hK : GK G) (hr : 2 ≤ r) {n : Nat} {S : List Nat} (hA : ∀ c ∈ l, c < 128) (hl : l.length ≤ 1000) (hn : n ≤ l.length) (h : Q (.int ((n + runN S (l.drop n) : Nat) : Int)) H) : CC G fs r (.ref 299) [.str l, .int n, .str S] H Q E := by
  refine FN (env := env299) hK (lq hr rfl) rfl rfl rfl rfl rfl (ps := ["text", "at", "signs"]) (fun cs hl => by obtain ⟨c1, c2, c3, rfl⟩ := three_of hl; rfl) (by decide) (by decide) rfl rfl rfl (fun _ => rfl) fun hC L hL => ?_
  simp only [locs]
  wtm_at "w1"
  refine Ex_While (L := L) rfl (fun k m' H' => H = H' ∧ ∃ i, A6 (k = l.length - i) (i ≤ l.length) (m' "text" = some (.str l)) (m' "at" = some (.int (i : Nat))) (m' "signs" = some (.str S)) (i + runN S (l.drop i) = n + runN S (l.drop n))) ?_ _
    ⟨rfl, n, rfl, hn, put_ne (by decide) (put_ne (by decide) put_eq), put_ne (by decide) put_eq, put_eq, rfl⟩
  rintro k m' H' B hB1 hB2 hB3 hB4 ⟨rfl, i, hk, hi, m1, m2, m3, e⟩
  repeat wtm_at "w1"
  refine ite_b (fun h1 => ?_) fun h1 => ?_
  · simp at h1
    repeat wtm_at "w1"
    refine GetI_str ⟨by lia, by lia⟩ (n := i) (c := l[i]) (StrLaws.seqIndex_nonneg (by lia) (by lia)) (List.getElem?_eq_getElem h1) ?_
    repeat wtm_at "w1"
    refine (c_capital_of hK (lr hr rfl) (hA _ (List.getElem_mem h1)) ?_).cl
    repeat wtm_at "w1"
    refine ite_b (fun h2 => ?_) fun h2 => ?_
    · repeat wtm_at "w1"
      refine ite_t rfl ?_
      repeat wtm_at "w1"
      first | refine hB1 _ _ ?_ | refine hB2 _ _ ?_
      refine ⟨_, by lia, rfl, i + 1, rfl, h1, put_ne (by decide) m1, put_eq, put_ne (by decide) m3, ?_⟩
      rw [runN_step h1, if_pos h2] at e; lia
    · refine ite_f rfl ?_
      repeat wtm_at "w1"
      rw [runN_step h1, h2] at e
      simp at e
      rw [e]; exact RetQ.now h
  · simp at h1
    refine ite_f rfl ?_
    repeat wtm_at "w1"
    have : i = l.length := by lia
    clear hk hB1 hB2 hi h1; subst this
    have z : runN S (l.drop l.length) = 0 := by rw [List.drop_length]; rfl
    rw [z] at e
    have e' : l.length = n + runN S (l.drop n) := by lia
    rw [e']; exact RetQ.now h
end
end W1
section W2
open PySem PySem.W PyProof.Rows
set_option maxHeartbeats 2000000

section
variable {G : Ctx} {fs : List Env} {r : Nat} {H : AH} {Q : V → AH → Prop} {E : AH → Prop} {l : List Nat} {a dx pl : Addr}

theorem cut_one {n : Nat} (h : n < l.length) : cut l (some n) (some (n + 1)) = [l[n]] := by
  unfold cut
  simp only [Option.getD_some, List.drop_take]
  rw [show n + 1 - n = 1 by lia, List.drop_eq_getElem_cons h]; rfl
theorem cut_end {n k : Nat} (h : l.length ≤ n) : cut l (some n) (some k) = [] := by
  unfold cut
  simp only [Option.getD_some, List.drop_take]
  rw [List.drop_of_length_le h]; simp

theorem c_number_end (hK : GK G) (hr : 3 ≤ r) {n : Nat} (hA : ∀ c ∈ l, c < 128) (hl : l.length ≤ 1000) (hn : n < l.length) (h1 : FIGS.contains (capF l[n]) = false) (h2 : l[n] ≠ 46) (h : Q (.int (n : Int)) H) :
    CC G fs r (.ref 306) [.str l, .int n] H Q E := by
  refine FN (env := env306) hK (lq hr rfl) rfl rfl rfl rfl rfl (ps := ["text", "at"]) (fun cs hl => by obtain ⟨c1, c2, rfl⟩ := two_of hl; rfl) (by decide) (by decide) rfl rfl rfl (fun _ => rfl) fun hC L hL => ?_
  simp only [locs]
  repeat wtm_at "w1"
  refine (c_run_end hK (lr hr rfl) hA hl (by lia) ?_).cl
  have z : n + runN FIGS (l.drop n) = n := by rw [runN_step hn, h1]; simp
  rw [z]
  repeat wtm_at "w1"
  rw [cut_one hn]
  repeat wtm_at "w1"
  refine ite_f (by simpa using h2) ?_
  refine ite_f rfl ?_
  repeat wtm_at "w1"
  exact RetQ.now h

/-- what stands behind an item -/
def Apart (rest : List Nat) : Prop := rest = [] ∨ ∃ t, rest = 32 :: t

theorem c_need_apart (hK : GK G) (hr : 3 ≤ r) {n : Nat} (hx : H a = some (.inst 145 dx [("text", .str l), ("places", .ref pl)])) (hl : l.length ≤ 1000) (hn : Apart (l.drop n)) (h : Q .none H) : CC G fs r (.ref 353) [.ref a, .int n] H Q E := by
  refine FN (env := env353) hK (lq hr rfl) rfl rfl rfl rfl rfl (ps := ["line", "end"]) (fun cs hl => by obtain ⟨c1, c2, rfl⟩ := two_of hl; rfl) (by decide) (by decide) rfl rfl rfl (fun _ => rfl) fun hC L hL => ?_
  simp only [locs]
  repeat wtm_at "w1"
  rcases hn with hn | ⟨t, hn⟩
  · have hlen : l.length ≤ n := List.drop_eq_nil_iff.mp hn
    refine ite_t (by rw [cut_end hlen]; rfl) ?_
    repeat wtm_at "w1"
    exact RetQ.now h
  · have e : cut l (some n) (some (n + 2)) = 32 :: t.take 1 := by
      unfold cut
      simp only [Option.getD_some, List.drop_take]
      rw [hn, show n + 2 - n = 2 by lia]; rfl
    rw [e]
    refine ite_f rfl ?_
    repeat wtm_at "w1"
    refine GetI_at (n := 0) rfl rfl (by simp; lia) ?_
    repeat wtm_at "w1"
    refine (c_is_word_sign hK (lr hr rfl) (by decide) ?_).cl
    repeat wtm_at "w1"
    refine ite_f (by decide) ?_
    refine ite_f rfl ?_
    repeat wtm_at "w1"
    refine GetI_at (n := 0) rfl rfl (by simp; lia) ?_
    repeat wtm_at "w1"
    refine ite_f (by decide) ?_
    repeat wtm_at "w1"
    refine ite_f rfl ?_
    repeat wtm_at "w1"
    refine GetI_at (n := 0) rfl rfl (by simp; lia) ?_
    repeat wtm_at "w1"
    refine ite_f (by decide) ?_
    refine ite_f rfl ?_
    repeat wtm_at "w1"
    exact RetQ.nil h

theorem at_drop {l t : List Nat} {n k : Nat} (hd : l.drop n = t) : l[n + k]? = t[k]? := by rw [← hd, List.getElem?_drop]

theorem c_literal_end (hK : GK G) (hr : 2 ≤ r) {n : Nat} {b rest : List Nat} (hx : H a = some (.inst 145 dx [("text", .str l), ("places", .ref pl)])) (hl : l.length ≤ 1000) (hd : l.drop n = 34 :: (b ++ 34 :: rest)) (hb : 34 ∉ b) (hrest : Apart rest)
    (h : Q (.int ((n + b.length + 2 : Nat) : Int)) H) : CC G fs r (.ref 313) [.ref a, .int n] H Q E := by
  have hlen : l.length = n + 1 + b.length + 1 + rest.length := by
    have := congrArg List.length hd
    simp at this; lia
  refine FN (env := env313) hK (lq hr rfl) rfl rfl rfl rfl rfl (ps := ["line", "at"]) (fun cs hl => by obtain ⟨c1, c2, rfl⟩ := two_of hl; rfl) (by decide) (by decide) rfl rfl rfl (fun _ => rfl) fun hC L hL => ?_
  simp only [locs]
  repeat wtm_at "w1"
  refine GetI_at (n := n) rfl (at_drop (k := 0) hd) (by lia) ?_
  repeat wtm_at "w1"
  refine Ex_While (L := L) rfl (fun k m' H' => H = H' ∧ ∃ i, A5 (k = b.length - i) (i ≤ b.length) (m' "line" = some (.ref a)) (m' "quote" = some (.str [34])) (m' "end" = some (.int ((n + 1 + i : Nat) : Int)))) ?_ _
    ⟨rfl, 0, rfl, Nat.zero_le _, put_ne (by decide) (put_ne (by decide) (put_ne (by decide) put_eq)), put_ne (by decide) put_eq, put_eq⟩
  rintro k m' H' B hB1 hB2 hB3 hB4 ⟨rfl, i, hk, hi, m1, m2, m3⟩
  repeat wtm_at "w1"
  refine ite_t (by simp; lia) ?_
  repeat wtm_at "w1"
  rcases Nat.lt_or_ge i b.length with hlt | hge
  · refine GetI_at (n := n + 1 + i) (c := b[i]) rfl ?_ (by lia) ?_
    · rw [Nat.add_assoc, at_drop hd, show 1 + i = i + 1 by lia, List.getElem?_cons_succ, List.getElem?_append_left hlt, List.getElem?_eq_getElem hlt]
    repeat wtm_at "w1"
    have nb : b[i] ≠ 34 := fun z => hb (z ▸ List.getElem_mem hlt)
    refine ite_t (by simpa using nb) ?_
    repeat wtm_at "w1"
    first | refine hB1 _ _ ?_ | refine hB2 _ _ ?_
    exact ⟨_, by lia, rfl, i + 1, rfl, hlt, put_ne (by decide) m1, put_ne (by decide) m2, put_eq⟩
  · have : i = b.length := by lia
    clear hk hB1 hB2 hi hge; subst this
    refine GetI_at (n := n + 1 + b.length) (c := 34) rfl ?_ (by lia) ?_
    · rw [Nat.add_assoc, at_drop hd, show 1 + b.length = b.length + 1 by lia, List.getElem?_cons_succ, List.getElem?_append_right (Nat.le_refl _), Nat.sub_self]; rfl
    repeat wtm_at "w1"
    refine ite_f (by decide) ?_
    repeat wtm_at "w1"
    have hd2 : l.drop (n + 1 + b.length + 1) = rest := by
      have := congrArg (List.drop (b.length + 2)) hd
      rw [List.drop_drop] at this
      rw [show n + 1 + b.length + 1 = n + (b.length + 2) by lia, this, show b.length + 2 = (b.length + 1) + 1 by lia, List.drop_succ_cons, List.drop_append]
      simp
    have e : (cut l (some (n + 1 + b.length + 1)) (some (n + 1 + b.length + 2)) == [34]) = false := by
      unfold cut
      simp only [Option.getD_some, List.drop_take]
      rw [hd2, show n + 1 + b.length + 2 - (n + 1 + b.length + 1) = 1 by lia]
      rcases hrest with rfl | ⟨t, rfl⟩
      · rfl
      · rfl
    refine ite_f e ?_
    repeat wtm_at "w1"
    have e2 : ((n + 1 + b.length : Nat) : Int) + 1 = ((n + b.length + 2 : Nat) : Int) := by lia
    refine hB3 _ _ _ ?_
    rw [e2]; exact RetQ.now h

theorem c_is_blank_at (hK : GK G) (hr : 2 ≤ r) {n c : Nat} (hl : l.length ≤ 1000) (hc : l[n]? = some c) (h1 : c ≠ 44) (h2 : c ≠ 59) (h : Q (.bool (c == 32)) H) : CC G fs r (.ref 374) [.str l, .int n] H Q E := by
  refine FN (env := env374) hK (lq hr rfl) rfl rfl rfl rfl rfl (ps := ["text", "at"]) (fun cs hl => by obtain ⟨c1, c2, rfl⟩ := two_of hl; rfl) (by decide) (by decide) rfl rfl rfl (fun _ => rfl) fun hC L hL => ?_
  simp only [locs]
  repeat wtm_at "w1"
  refine GetI_at (n := n) rfl hc (by lia) ?_
  repeat wtm_at "w1"
  refine ite_b (fun h3 => ?_) fun h3 => ?_
  · repeat wtm_at "w1"
    have : c = 32 := by simpa using h3
    subst this; exact RetQ.now h
  · repeat wtm_at "w1"
    refine GetI_at (n := n) rfl hc (by lia) ?_
    repeat wtm_at "w1"
    have z : ([44, 59] : List Nat).contains c = false := by simp [h1, h2]
    refine ite_f z ?_
    repeat wtm_at "w1"
    have : (c == 32) = ([44, 59] : List Nat).contains c := by rw [z]; simpa using h3
    rw [this] at h; exact RetQ.now h
end
end W2
section W3
open PySem PySem.W PyProof.Rows
set_option maxHeartbeats 2000000

section
variable {G : Ctx} {fs : List Env} {r : Nat} {H : AH} {Q : V → AH → Prop} {E : AH → Prop} {l : List Nat} {a dx pl : Addr}

theorem upd_of {H : AH} {D D2 : Addr} {o o2 : O} (h : H D = some o) (h2 : H D2 = none) : upd H D2 o2 D = some o := (upd_ne fun z => by rw [z, h2] at h; cases h).trans h
theorem Ext.updT {H H' : AH} {D : Addr} {o : O} (e : Ext H H') (h : H' D = none) : Ext H (Mine.upd H' D o) := e.trans (Ext.upd h)

def isLett (c : Nat) : Bool := LETT.contains c
def lettV : V → Bool
  | .str [c] => LETT.contains c
  | _ => false

theorem c_checked_word (hK : GK G) (hr : 4 ≤ r) {n k c : Nat} {w : List Nat} (hx : H a = some (.inst 145 dx [("text", .str l), ("places", .ref pl)])) (hl : l.length ≤ 1000) (hw : cut l (some n) (some k) = c :: w) (hA : ∀ c ∈ l, c < 128)
    (h1 : LETT.contains (capF c) = true) (h2 : ((c :: w).map capF).getLast? ≠ some 45) (h3 : w.length < 30) (h : Q (.str ((c :: w).map capF)) H) : CC G fs r (.ref 325) [.ref a, .int n, .int k] H Q E := by
  refine FN (env := env325) hK (lq hr rfl) rfl rfl rfl rfl rfl (ps := ["line", "at", "end"]) (fun cs hl => by obtain ⟨c1, c2, c3, rfl⟩ := three_of hl; rfl) (by decide) (by decide) rfl rfl rfl (fun _ => rfl) fun hC L hL => ?_
  simp only [locs]
  repeat wtm_at "w1"
  rw [hw]
  repeat wtm_at "w1"
  have hA' : ∀ d ∈ c :: w, d < 128 := fun d hd => hA d (by rw [← hw] at hd; unfold cut at hd; exact List.mem_of_mem_take (List.mem_of_mem_drop hd))
  refine (c_capitals hK (lr hr rfl) hA' (by simp; lia) ?_).cl
  repeat wtm_at "w1"
  generalize hW : (c :: w).map capF = W at h2 h
  have hWl : W.length = w.length + 1 := by rw [← hW]; simp
  refine Ev_CompMF noLoc id lettV (Itb_str ?_) rfl no_cl no_mC rfl (by decide) (by decide) rfl rfl (by decide) (fun _ => rfl)
  repeat wtm_at "w1"
  refine ⟨⟨by simp [Src.items]; rw [sz24]; lia, fun _ _ _ => trivial, fun C D o i v hv hD => ?_, fun C D o i v hv _ hD => ?_⟩, fun D hD => ?_⟩
  · obtain ⟨d, hd, rfl⟩ : ∃ d ∈ W, v = .str [d] := by
      obtain ⟨d, h1, h2⟩ := List.mem_map.mp (List.mem_of_getElem? hv)
      exact ⟨d, h1, h2.symm⟩
    show Ts _ _ _ _ _ _ _ _ _
    repeat wtm_at "w1"
    exact ⟨rfl, rfl⟩
  · obtain ⟨d, hd, rfl⟩ : ∃ d ∈ W, v = .str [d] := by
      obtain ⟨d, h1, h2⟩ := List.mem_map.mp (List.mem_of_getElem? hv)
      exact ⟨d, h1, h2.symm⟩
    repeat wtm_at "w1"
    exact ⟨rfl, rfl⟩
  · repeat wtm_at "w1"
    refine ⟨by rw [sz24]; simp, fun D2 hD2 => ?_⟩
    refine COp_eq_list (upd_of upd_eq hD2) upd_eq (.inr rfl) rfl ?_
    have ne : eqL feq (((Src.str W).items.filter lettV).map id) [] = false := by
      refine eqL_len ?_
      rw [← hW]
      have : lettV (.str [capF c]) = true := h1
      simp [Src.items, this]
    rw [ne]
    repeat wtm_at "w1"
    refine ite_f rfl ?_
    repeat wtm_at "w1"
    obtain ⟨z, hz⟩ : ∃ z, W.getLast? = some z := by
      cases q : W.getLast? with
      | none => rw [List.getLast?_eq_none_iff.mp q] at hWl; simp at hWl
      | some z => exact ⟨z, rfl⟩
    have hz' : W[w.length]? = some z := by rw [← hz, List.getLast?_eq_getElem?, hWl]; rfl
    refine GetI_str ⟨by lia, by lia⟩ (n := w.length) (c := z) (by rw [hWl, StrLaws.seqIndex_neg (by lia) (by lia)]; congr 1; lia) hz' ?_
    repeat wtm_at "w1"
    have nz : z ≠ 45 := fun q => h2 (by rw [hz, q])
    refine ite_f (by simpa using nz) ?_
    repeat wtm_at "w1"
    refine ite_f (by rw [hWl]; simp; lia) ?_
    repeat wtm_at "w1"
    exact RetQ.drop hC ((Ext.upd hD).updT hD2) h

theorem c_checked_literal (hK : GK G) (hr : 2 ≤ r) {n k : Nat} {b : List Nat} (hx : H a = some (.inst 145 dx [("text", .str l), ("places", .ref pl)])) (hl : l.length ≤ 1000) (hq : l[n]? = some 34) (hk : 1 ≤ k) (hw : cut l (some (n + 1)) (some (k - 1)) = b)
    (hb : 34 ∉ b) (h1 : 1 ≤ b.length) (h2 : b.length ≤ 160) (h : Q (.str b) H) : CC G fs r (.ref 339) [.ref a, .int n, .int k] H Q E := by
  refine FN (env := env339) hK (lq hr rfl) rfl rfl rfl rfl rfl (ps := ["line", "at", "end"]) (fun cs hl => by obtain ⟨c1, c2, c3, rfl⟩ := three_of hl; rfl) (by decide) (by decide) rfl rfl rfl (fun _ => rfl) fun hC L hL => ?_
  simp only [locs]
  repeat wtm_at "w1"
  refine GetI_at (n := n) rfl hq (by lia) ?_
  repeat wtm_at "w1"
  refine ⟨k - 1, by congr 1; lia, Sl_str (by rw [sz24]; lia) ?_⟩
  rw [hw]
  refine Mt_replace ?_
  repeat wtm_at "w1"
  refine BOp_cat (by rw [sz24]; simp) ?_
  repeat wtm_at "w1"
  refine Cl_replace_none hb ?_
  repeat wtm_at "w1"
  refine ite_t (by simp; lia) ?_
  repeat wtm_at "w1"
  refine ite_f (by simp; lia) ?_
  repeat wtm_at "w1"
  exact RetQ.now h

theorem c_mark_pseudo (hK : GK G) (hr : 1 ≤ r) {n : Nat} (hx : H a = some (.inst 145 dx [("text", .str l), ("places", .ref pl)])) (hl : l.length ≤ 1000) (hw : cut l (some n) (some (n + 2)) = [61, 61]) (h : Q (.tup [.str [112, 115, 101, 117, 100, 111], .str [61, 61]]) H) :
    CC G fs r (.ref 360) [.ref a, .int n] H Q E := by
  refine FN (env := env360) hK (lq hr rfl) rfl rfl rfl rfl rfl (ps := ["line", "at"]) (fun cs hl => by obtain ⟨c1, c2, rfl⟩ := two_of hl; rfl) (by decide) (by decide) rfl rfl rfl (fun _ => rfl) fun hC L hL => ?_
  simp only [locs]
  repeat wtm_at "w1"
  rw [hw]
  repeat wtm_at "w1"
  refine ite_t rfl ?_
  repeat wtm_at "w1"
  refine ⟨by rw [sz24]; simp, ?_⟩
  repeat wtm_at "w1"
  exact RetQ.now h

theorem c_mark_dot (hK : GK G) (hr : 2 ≤ r) {n : Nat} (hx : H a = some (.inst 145 dx [("text", .str l), ("places", .ref pl)])) (hl : l.length ≤ 1000) (hw : l.drop n = [46]) (h : Q (.tup [.str [115, 105, 103, 110], .str [46]]) H) :
    CC G fs r (.ref 360) [.ref a, .int n] H Q E := by
  have hlen : l.length = n + 1 := by have := congrArg List.length hw; simp at this; lia
  refine FN (env := env360) hK (lq hr rfl) rfl rfl rfl rfl rfl (ps := ["line", "at"]) (fun cs hl => by obtain ⟨c1, c2, rfl⟩ := two_of hl; rfl) (by decide) (by decide) rfl rfl rfl (fun _ => rfl) fun hC L hL => ?_
  simp only [locs]
  repeat wtm_at "w1"
  have e : cut l (some n) (some (n + 2)) = [46] := by
    unfold cut
    simp only [Option.getD_some, List.drop_take]
    rw [hw, show n + 2 - n = 2 by lia]; rfl
  rw [e]
  repeat wtm_at "w1"
  refine ite_f rfl ?_
  repeat wtm_at "w1"
  refine Mt_split ?_
  repeat wtm_at "w1"
  refine Cl_split (by rw [sz24]; simp) fun D ps hD hne hfr hj => ?_
  have eps : ps = [[42, 42], [60, 61], [62, 61]] := joinL_uniq hne (by simp) hfr (by decide) (by rw [hj]; rfl)
  subst eps
  refine COp_in_list (ks := [[42, 42], [60, 61], [62, 61]]) upd_eq ?_
  repeat wtm_at "w1"
  refine ite_f rfl ?_
  have hx' := Ext.upd (o := .list (([[42, 42], [60, 61], [62, 61]] : List (List Nat)).map .str)) hD _ _ hx
  repeat wtm_at "w1"
  refine GetI_at (n := n) rfl (at_drop (k := 0) hw) (by lia) ?_
  repeat wtm_at "w1"
  refine ite_f (by decide) ?_
  repeat wtm_at "w1"
  refine ite_t rfl ?_
  repeat wtm_at "w1"
  have : ((n : Int) + 1) = ((n + 1 : Nat) : Int) := rfl
  rw [this]
  refine (c_is_parted hK (lr hr rfl) (by lia) ?_ (by lia)).cl
  repeat wtm_at "w1"
  refine ite_t (by simp; lia) ?_
  repeat wtm_at "w1"
  refine ite_t rfl ?_
  refine ite_t rfl ?_
  repeat wtm_at "w1"
  refine ⟨by rw [sz24]; simp, ?_⟩
  repeat wtm_at "w1"
  exact RetQ.drop hC (Ext.upd hD) h
end
end W3
section W4
open PySem PySem.W PyProof.Rows
set_option maxHeartbeats 2000000

section
variable {G : Ctx} {fs : List Env} {r : Nat} {H : AH} {Q : V → AH → Prop} {E : AH → Prop} {l : List Nat} {a dx pl : Addr}

def kWord : List Nat := [119, 111, 114, 100]
def kLit : List Nat := [108, 105, 116, 101, 114, 97, 108]
def kPseudo : List Nat := [112, 115, 101, 117, 100, 111]
def kSign : List Nat := [115, 105, 103, 110]
/-- an item of a line: its signs, its token's kind and worth -/
inductive Itm : List Nat → List Nat → List Nat → Prop
  | word {c : Nat} {w : List Nat} : (∀ d ∈ c :: w, WORDS.contains (capF d) = true) → LETT.contains (capF c) = true → ((c :: w).map capF).getLast? ≠ some 45 → w.length < 30 → Itm (c :: w) kWord ((c :: w).map capF)
  | lit {b : List Nat} : 34 ∉ b → 1 ≤ b.length → b.length ≤ 160 → Itm (34 :: (b ++ [34])) kLit b
  | pseudo : Itm [61, 61] kPseudo [61, 61]
  | dot : Itm [46] kSign [46]

theorem cut_item {n : Nat} {it rest : List Nat} (hd : l.drop n = it ++ rest) : cut l (some n) (some (n + it.length)) = it := by
  unfold cut
  simp only [Option.getD_some, List.drop_take]
  rw [hd, show n + it.length - n = it.length by lia]; simp
theorem runN_item {S it rest : List Nat} (h : ∀ d ∈ it, S.contains (capF d) = true) (ha : Apart rest) (hb : S.contains 32 = false) : runN S (it ++ rest) = it.length := by
  unfold runN
  induction it with
  | nil =>
    rcases ha with rfl | ⟨t, rfl⟩
    · rfl
    · have : S.contains (capF 32) = false := hb
      simp only [List.nil_append, List.takeWhile_cons, this]; rfl
  | cons d it ih =>
    rw [List.cons_append, List.takeWhile_cons, if_pos (h d (.head _))]
    simp only [List.length_cons]
    rw [ih fun e he => h e (.tail _ he)]
theorem lett_fig {d : Nat} (h : LETT.contains d = true) : FIGS.contains d = false := by
  have : d ∈ LETT := by simpa using h
  have all : ∀ d ∈ LETT, FIGS.contains d = false := by decide
  exact all d this

theorem c_worth_at (hK : GK G) (hr : 6 ≤ r) {n : Nat} {it rest k w : List Nat} (hx : H a = some (.inst 145 dx [("text", .str l), ("places", .ref pl)])) (hl : l.length ≤ 1000) (hA : ∀ c ∈ l, c < 128) (hd : l.drop n = it ++ rest) (hi : Itm it k w) (ha : Apart rest)
    (hdot : it = [46] → rest = []) (h : Q (.tup [.str k, .str w, .int ((n + it.length : Nat) : Int)]) H) : CC G fs r (.ref 367) [.ref a, .int n] H Q E := by
  have hlen : l.length - n = it.length + rest.length := by have := congrArg List.length hd; simpa using this
  refine FN (env := env367) hK (lq hr rfl) rfl rfl rfl rfl rfl (ps := ["line", "at"]) (fun cs hl => by obtain ⟨c1, c2, rfl⟩ := two_of hl; rfl) (by decide) (by decide) rfl rfl rfl (fun _ => rfl) fun hC L hL => ?_
  simp only [locs]
  repeat wtm_at "w1"
  cases hi with
  | @word c w hw h1 h2 h3 =>
    have hc : l[n]? = some c := at_drop (k := 0) hd
    have hn : n < l.length := (List.getElem?_eq_some_iff.mp hc).1
    have hcl : l[n] = c := (List.getElem?_eq_some_iff.mp hc).2
    refine GetI_at (n := n) rfl hc (by lia) ?_
    repeat wtm_at "w1"
    refine (c_capital_of hK (lr hr rfl) (hA c (List.mem_of_getElem? hc)) ?_).cl
    repeat wtm_at "w1"
    refine ite_t h1 ?_
    refine ite_t rfl ?_
    repeat wtm_at "w1"
    have e : n + runN WORDS (l.drop n) = n + (c :: w).length := by rw [hd, runN_item hw ha (by decide)]
    refine (c_run_end hK (lr hr rfl) hA hl (by lia) ?_).cl
    rw [e]
    repeat wtm_at "w1"
    refine (c_number_end hK (lr hr rfl) hA hl hn (by rw [hcl]; exact lett_fig h1) (by rw [hcl]; rintro rfl; revert h1; decide) ?_).cl
    repeat wtm_at "w1"
    refine ite_f (lett_fig h1) ?_
    refine ite_f rfl ?_
    repeat wtm_at "w1"
    have hd2 : l.drop (n + (c :: w).length) = rest := by rw [← List.drop_drop, hd, List.drop_left]
    refine (c_need_apart hK (lr hr rfl) hx hl (by rw [hd2]; exact ha) ?_).cl
    repeat wtm_at "w1"
    refine (c_checked_word hK (lr hr rfl) hx hl (cut_item hd) hA h1 h2 h3 ?_).cl
    repeat wtm_at "w1"
    refine ⟨by rw [sz24]; simp, ?_⟩
    repeat wtm_at "w1"
    exact RetQ.now h
  | lit hb h1 h2 =>
    have hc : l[n]? = some 34 := at_drop (k := 0) hd
    have hn : n < l.length := (List.getElem?_eq_some_iff.mp hc).1
    have hd' : l.drop n = 34 :: (w ++ 34 :: rest) := by rw [hd]; simp
    refine GetI_at (n := n) rfl hc (by lia) ?_
    repeat wtm_at "w1"
    refine (c_capital_of hK (lr hr rfl) (by decide) ?_).cl
    repeat wtm_at "w1"
    refine ite_f (by decide) ?_
    repeat wtm_at "w1"
    refine ite_f (by decide) ?_
    repeat wtm_at "w1"
    refine ite_f rfl ?_
    repeat wtm_at "w1"
    refine ite_f (by decide) ?_
    refine ite_f rfl ?_
    repeat wtm_at "w1"
    refine ite_t (by decide) ?_
    repeat wtm_at "w1"
    refine (c_literal_end hK (lr hr rfl) hx hl hd' hb ha ?_).cl
    repeat wtm_at "w1"
    have hd2 : l.drop (n + w.length + 2) = rest := by
      have := congrArg (List.drop (34 :: (w ++ [34])).length) hd
      rw [List.drop_left, List.drop_drop] at this
      rw [← this]; congr 1; simp; lia
    refine (c_need_apart hK (lr hr rfl) hx hl (by rw [hd2]; exact ha) ?_).cl
    repeat wtm_at "w1"
    have hw : cut l (some (n + 1)) (some (n + w.length + 2 - 1)) = w := by
      have : l.drop (n + 1) = w ++ 34 :: rest := by rw [← List.drop_drop, hd']; rfl
      have := cut_item this
      rw [show n + w.length + 2 - 1 = n + 1 + w.length by lia]; exact this
    refine (c_checked_literal hK (lr hr rfl) hx hl hc (by lia) hw hb h1 h2 ?_).cl
    repeat wtm_at "w1"
    refine ⟨by rw [sz24]; simp, ?_⟩
    repeat wtm_at "w1"
    refine RetQ.now ?_
    have : n + w.length + 2 = n + (34 :: (w ++ [34])).length := by simp; lia
    rw [this]; exact h
  | pseudo =>
    have hc : l[n]? = some 61 := at_drop (k := 0) hd
    have hn : n < l.length := (List.getElem?_eq_some_iff.mp hc).1
    refine GetI_at (n := n) rfl hc (by lia) ?_
    repeat wtm_at "w1"
    refine (c_capital_of hK (lr hr rfl) (by decide) ?_).cl
    repeat wtm_at "w1"
    refine ite_f (by decide) ?_
    repeat wtm_at "w1"
    refine ite_f (by decide) ?_
    repeat wtm_at "w1"
    refine ite_f rfl ?_
    repeat wtm_at "w1"
    refine ite_f (by decide) ?_
    refine ite_f rfl ?_
    repeat wtm_at "w1"
    refine ite_f (by decide) ?_
    repeat wtm_at "w1"
    refine (c_mark_pseudo hK (lr hr rfl) hx hl (cut_item hd) ?_).cl
    repeat wtm_at "w1"
    refine ⟨by rw [sz24]; simp, ?_⟩
    repeat wtm_at "w1"
    exact RetQ.now h
  | dot =>
    obtain rfl := hdot rfl
    have hc : l[n]? = some 46 := at_drop (k := 0) hd
    have hn : n < l.length := (List.getElem?_eq_some_iff.mp hc).1
    have hn1 : l.length = n + 1 := by
      have : l.length - n = 1 := hlen
      lia
    refine GetI_at (n := n) rfl hc (by lia) ?_
    repeat wtm_at "w1"
    refine (c_capital_of hK (lr hr rfl) (by decide) ?_).cl
    repeat wtm_at "w1"
    refine ite_f (by decide) ?_
    repeat wtm_at "w1"
    refine ite_f (by decide) ?_
    repeat wtm_at "w1"
    refine ite_f rfl ?_
    repeat wtm_at "w1"
    refine ite_t (by decide) ?_
    repeat wtm_at "w1"
    rw [cut_end (n := n + 1) (k := n + 2) (by lia)]
    refine ite_f (by decide) ?_
    refine ite_f rfl ?_
    repeat wtm_at "w1"
    refine ite_f (by decide) ?_
    repeat wtm_at "w1"
    refine (c_mark_dot hK (lr hr rfl) hx hl (by simpa using hd) ?_).cl
    repeat wtm_at "w1"
    refine ⟨by rw [sz24]; simp, ?_⟩
    repeat wtm_at "w1"
    exact RetQ.now h
end
end W4
section W5
open PySem PySem.W PyProof.Rows
set_option maxHeartbeats 2000000

section
variable {G : Ctx} {fs : List Env} {r : Nat} {H : AH} {Q : V → AH → Prop} {E : AH → Prop} {l : List Nat} {a dx pl la : Addr}

abbrev tokF (k w : List Nat) (p : V) (b : Bool) : List (Str × V) := [("kind", .str k), ("worth", .str w), ("at", p), ("is_in_a", .bool b)]
theorem c_Token_init (hK : GK G) (hr : 1 ≤ r) {x : Addr} {k w : List Nat} {p : V} {b : Bool} (hx : H x = some (.inst 255 dx [])) (h : Q .none (upd H x (.inst 255 dx (tokF k w p b)))) :
    CC G fs r (.ref 245) [.ref x, .str k, .str w, p, .bool b] H Q E := by
  refine FD (env := env245) (dvals := []) (dcs := []) hK (lq hr rfl) rfl rfl rfl rfl rfl (ps := ["self", "kind", "worth", "at", "is_in_a"]) (fun s X cs hl => by obtain ⟨c1, c2, c3, c4, c5, rfl⟩ := five_of hl; exact binds_K X rfl rfl rfl rfl rfl) (fun _ _ _ _ => .nil) (by decide) (by decide) rfl rfl rfl (fun _ => rfl) fun hC L hL => ?_
  simp only [locs, List.append_nil, List.cons_append, List.nil_append]
  repeat wtm_at "w1"
  refine SaK hK hx (by simp) ?_ rfl rfl rfl rfl
  repeat wtm_at "w1"
  refine SaK hK upd_eq (Nat.le_of_ble_eq_true rfl) ?_ rfl rfl rfl rfl
  rw [upd_upd]
  repeat wtm_at "w1"
  refine SaK hK upd_eq (Nat.le_of_ble_eq_true rfl) ?_ rfl rfl rfl rfl
  rw [upd_upd]
  repeat wtm_at "w1"
  refine SaK hK upd_eq (Nat.le_of_ble_eq_true rfl) ?_ rfl rfl rfl rfl
  rw [upd_upd]
  repeat wtm_at "w1"
  exact RetQ.nil h
theorem c_Token (hK : GK G) (hr : 6 ≤ r) {k w : List Nat} {p : V} {b : Bool} (h : ∀ x dx, H x = none → H dx = none → x ≠ dx → Q (.ref x) (upd (upd H dx (.aux x)) x (.inst 255 dx (tokF k w p b)))) : Cl G fs r (.ref 255) [.str k, .str w, p, .bool b] H Q E := by
  refine MakeK hK (lq hr rfl) (fun x dx hx hd hne => ?_) rfl rfl rfl
  refine c_Token_init hK (by lia) upd_eq ⟨rfl, ?_⟩
  rw [upd_upd]
  exact h x dx hx hd hne

/-- a token of ours -/
def TokAt (H : AH) (a : Addr) (t : List Nat × List Nat) : Prop := (X3 fun (dx : Addr) (p : Int × Int) (b : Bool) => H a = some (.inst 255 dx (tokF t.1 t.2 (.tup [.int p.1, .int p.2]) b)))
inductive L2 {α β : Type} (R : α → β → Prop) : List α → List β → Prop
  | nil : L2 R [] []
  | cons {a b as bs} : R a b → L2 R as bs → L2 R (a :: as) (b :: bs)
theorem L2.mono {α β : Type} {R R' : α → β → Prop} (k : ∀ a b, R a b → R' a b) {as : List α} {bs : List β} (x : L2 R as bs) : L2 R' as bs := by
  induction x with
  | nil => exact .nil
  | cons h t ih => exact .cons (k _ _ h) ih
theorem L2.length {α β : Type} {R : α → β → Prop} {as : List α} {bs : List β} (x : L2 R as bs) : as.length = bs.length := by
  induction x with
  | nil => rfl
  | cons h t ih => exact congrArg (· + 1) ih
theorem L2.append {α β : Type} {R : α → β → Prop} {as as' : List α} {bs bs' : List β} (x : L2 R as bs) (y : L2 R as' bs') : L2 R (as ++ as') (bs ++ bs') := by
  induction x with
  | nil => exact y
  | cons h t ih => exact .cons h ih
theorem L2.snoc {α β : Type} {R : α → β → Prop} {a : α} {b : β} (h : R a b) {as : List α} {bs : List β} (x : L2 R as bs) : L2 R (as ++ [a]) (bs ++ [b]) := x.append (.cons h .nil)
theorem L2.get {α β : Type} {R : α → β → Prop} {as : List α} {bs : List β} {i : Nat} {a : α} (x : L2 R as bs) (e : as[i]? = some a) : ∃ b, bs[i]? = some b ∧ R a b := by
  induction x generalizing i with
  | nil => cases e
  | cons h t ih => cases i with
    | zero => cases e; exact ⟨_, rfl, h⟩
    | succ i => exact ih e
theorem L2.back {α β : Type} {R : α → β → Prop} {as : List α} {bs : List β} {i : Nat} {b : β} (x : L2 R as bs) (e : bs[i]? = some b) : ∃ a, as[i]? = some a ∧ R a b := by
  induction x generalizing i with
  | nil => cases e
  | cons h t ih => cases i with
    | zero => cases e; exact ⟨_, rfl, h⟩
    | succ i => exact ih e
abbrev TokL (H : AH) : List Addr → List (List Nat × List Nat) → Prop := L2 (TokAt H)
def Toks (H : AH) (la : Addr) (ts : List (List Nat × List Nat)) : Prop := ∃ as : List Addr, H la = some (.list (as.map .ref)) ∧ TokL H as ts
/-- all but one object stays -/
def ExtB (x : Addr) (H H' : AH) : Prop := ∀ b o, b ≠ x → H b = some o → H' b = some o
theorem Ext.b {H H' : AH} {x : Addr} (e : Ext H H') : ExtB x H H' := fun b o _ h => e b o h
theorem ExtB.refl {H : AH} {x : Addr} : ExtB x H H := fun _ _ _ h => h
theorem ExtB.trans {H H' H'' : AH} {x : Addr} (e : ExtB x H H') (e' : ExtB x H' H'') : ExtB x H H'' := fun b o n h => e' b o n (e b o n h)
theorem ExtB.upd {H : AH} {x : Addr} {o : O} : ExtB x H (Mine.upd H x o) := fun b ob n h => by rw [upd_ne n]; exact h
theorem TokAt.to {H H' : AH} {x : Addr} (e : ExtB x H H') {o : O} (hx : ∀ c dx fm, H x ≠ some (.inst c dx fm)) {a : Addr} {t : List Nat × List Nat} (h : TokAt H a t) : TokAt H' a t := by
  obtain ⟨dx, p, b, q⟩ := h
  exact ⟨dx, p, b, e a _ (fun z => hx _ _ _ (z ▸ q)) q⟩
theorem TokL.to {H H' : AH} {x : Addr} (e : ExtB x H H') (hx : ∀ c dx fm, H x ≠ some (.inst c dx fm)) {as : List Addr} {ts : List (List Nat × List Nat)} (r : TokL H as ts) : TokL H' as ts :=
  r.mono fun a t q => q.to e (o := .list []) hx
theorem TokL.ext {H H' : AH} (e : Ext H H') {as : List Addr} {ts : List (List Nat × List Nat)} (r : TokL H as ts) : TokL H' as ts :=
  r.mono fun a t q => by obtain ⟨dx, p, b, q⟩ := q; exact ⟨dx, p, b, e _ _ q⟩
theorem TokL.get {H : AH} {as : List Addr} {ts : List (List Nat × List Nat)} {i : Nat} {t} (r : TokL H as ts) (e : ts[i]? = some t) : ∃ a, as[i]? = some a ∧ TokAt H a t := L2.back r e

/-- no picture word -/
def NoPic (ts : List (List Nat × List Nat)) : Prop := ∀ t ∈ ts, ([[80, 73, 67], [80, 73, 67, 84, 85, 82, 69]] : List (List Nat)).contains t.2 = false

theorem c_is_picture_next (hK : GK G) (hr : 1 ≤ r) {as : List Addr} {ts : List (List Nat × List Nat)} (hl : H la = some (.list (as.map .ref))) (ht : TokL H as ts) (hz : ts.length ≤ 1000000) (hp : NoPic ts) (h : Q (.bool false) H) : CC G fs r (.ref 381) [.ref la] H Q E := by
  have hlen := ht.length
  refine FN (env := env381) hK (lq hr rfl) rfl rfl rfl rfl rfl (ps := ["tokens"]) (fun cs hl => by obtain ⟨c1, rfl⟩ := one_of hl; rfl) (by decide) (by decide) rfl rfl rfl (fun _ => rfl) fun hC L hL => ?_
  simp only [locs]
  repeat wtm_at "w1"
  refine Cl_len_list hl (by simp; lia) ?_
  repeat wtm_at "w1"
  refine ite_b (fun h1 => ?_) fun h1 => ?_
  · repeat wtm_at "w1"
    have pos : 0 < as.length := by simpa using h1
    obtain ⟨t, e⟩ : ∃ t, ts[as.length - 1]? = some t := ⟨ts[as.length - 1]'(by lia), List.getElem?_eq_getElem _⟩
    refine byc fun hnn => ?_
    obtain ⟨x, ex, dx, p, b, hx⟩ := ht.get e
    refine hnn ?_; clear hnn
    have el : (as.map V.ref).getLast? = some (.ref x) := by rw [List.getLast?_eq_getElem?, List.length_map, List.getElem?_map, ex]; rfl
    refine GetI_last hl el (by simp; lia) ?_
    repeat wtm_at "w1"
    refine ite_b (fun h2 => ?_) fun h2 => ?_
    · repeat wtm_at "w1"
      refine GetI_last hl el (by simp; lia) ?_
      repeat wtm_at "w1"
      refine ⟨by rw [sz24]; simp, ?_⟩
      refine COp_in_tup (ks := [[80, 73, 67], [80, 73, 67, 84, 85, 82, 69]]) ?_
      rw [hp t (List.mem_of_getElem? e)]
      exact RetQ.now h
    · rw [h2]
      exact RetQ.now h
  · rw [h1]
    exact RetQ.now h

/-- what a line's signs say, from a place on -/
inductive Suf : List Nat → List (List Nat × List Nat) → Prop
  | nil : Suf [] []
  | blank {l ts} : Suf l ts → Suf (32 :: l) ts
  | item {it k w rest ts} : Itm it k w → Apart rest → (it = [46] → rest = []) → Suf rest ts → Suf (it ++ rest) ((k, w) :: ts)
theorem Itm.head {it k w : List Nat} (h : Itm it k w) : ∃ c t, it = c :: t ∧ c ≠ 32 ∧ c ≠ 44 ∧ c ≠ 59 := by
  cases h with
  | @word c w h1 h2 h3 h4 =>
    refine ⟨c, w, rfl, ?_, ?_, ?_⟩ <;> rintro rfl <;> revert h2 <;> decide
  | lit h1 h2 h3 => exact ⟨34, _, rfl, by decide, by decide, by decide⟩
  | pseudo => exact ⟨61, _, rfl, by decide, by decide, by decide⟩
  | dot => exact ⟨46, _, rfl, by decide, by decide, by decide⟩
end
end W5
section W6
open PySem PySem.W PyProof.Rows
set_option maxHeartbeats 2000000

section
variable {G : Ctx} {fs : List Env} {r : Nat} {H : AH} {Q : V → AH → Prop} {E : AH → Prop} {l : List Nat} {a dx pl la : Addr}

theorem list_ne_inst {H : AH} {la : Addr} {vs : List V} (h : H la = some (.list vs)) : ∀ c dx fm, H la ≠ some (.inst c dx fm) := fun _ _ _ z => by rw [h] at z; cases z
theorem ne_of_kind {H : AH} {x y : Addr} {o o' : O} (h : H x = some o) (h' : H y = some o') (n : o ≠ o') : x ≠ y := fun z => n (by rw [z, h'] at h; cases h; rfl)

/-- what stands at a place of a text of items -/
inductive SufAt (l : List Nat) (i : Nat) (ts : List (List Nat × List Nat)) : Prop
  | blank (hc : l[i]? = some 32) (hs : Suf (l.drop (i + 1)) ts)
  | item (c : Nat) (t k w rest : List Nat) (ts3 : List (List Nat × List Nat)) (hd : l.drop i = (c :: t) ++ rest) (he : ts = (k, w) :: ts3) (hit : Itm (c :: t) k w) (hap : Apart rest) (hdot : c :: t = [46] → rest = []) (hs : Suf (l.drop (i + (c :: t).length)) ts3)
      (n1 : c ≠ 32) (n2 : c ≠ 44) (n3 : c ≠ 59) (hc : l[i]? = some c) (hlen : l.length = i + (c :: t).length + rest.length)
theorem Suf.ends {l : List Nat} {i : Nat} {ts} (h : Suf (l.drop i) ts) (hi : l.length ≤ i) : ts = [] := by
  rw [List.drop_of_length_le hi] at h
  generalize hd : ([] : List Nat) = rest at h
  cases h with
  | nil => rfl
  | blank _ => cases hd
  | item hit _ _ _ => obtain ⟨c, t, rfl, _⟩ := hit.head; cases hd
theorem Suf.at {l : List Nat} {i : Nat} {ts} (h : Suf (l.drop i) ts) (hi : i < l.length) : SufAt l i ts := by
  generalize hd : l.drop i = rest at h
  cases h with
  | nil => exact absurd (List.drop_eq_nil_iff.mp hd) (Nat.not_le_of_lt hi)
  | blank hs => exact .blank (at_drop (k := 0) hd) (by rw [← List.drop_drop, hd]; exact hs)
  | @item it k w rest ts3 hit hap hdot hs =>
    obtain ⟨c, t, rfl, n1, n2, n3⟩ := hit.head
    refine .item c t k w rest ts3 hd rfl hit hap hdot (by rw [← List.drop_drop, hd, List.drop_left]; exact hs) n1 n2 n3 (at_drop (k := 0) hd) ?_
    have := congrArg List.length hd
    rw [List.length_drop, List.length_append] at this
    lia
theorem c_add_tokens (hK : GK G) (hr : 8 ≤ r) {ps : List V} {as0 : List Addr} {ts0 ts : List (List Nat × List Nat)} (hx : H a = some (.inst 145 dx [("text", .str l), ("places", .ref pl)])) (hpl : H pl = some (.list ps)) (hne : pl ≠ la)
    (hla : H la = some (.list (as0.map .ref))) (ht0 : TokL H as0 ts0) (hl : l.length ≤ 1000) (hA : ∀ c ∈ l, c < 128) (hps : l.length ≤ ps.length) (hpt : ∀ v ∈ ps, ∃ i j, v = .tup [.int i, .int j]) (hs : Suf l ts) (hp : NoPic (ts0 ++ ts)) (hz : (ts0 ++ ts).length ≤ 1000000)
    (h : ∀ H', ExtB la H H' → Toks H' la (ts0 ++ ts) → Q .none H') : CC G fs r (.ref 388) [.ref la, .ref a] H Q E := by
  have hal : a ≠ la := ne_of_kind hx hla (by intro z; cases z)
  refine FN (env := env388) hK (lq hr rfl) rfl rfl rfl rfl rfl (ps := ["tokens", "line"]) (fun cs hl => by obtain ⟨c1, c2, rfl⟩ := two_of hl; rfl) (by decide) (by decide) rfl rfl rfl (fun _ => rfl) fun hC L hL => ?_
  simp only [locs]
  repeat wtm_at "w1"
  refine Ex_While (L := L) rfl (fun k m' H' => ExtB la H H' ∧ (X4 fun i ts1 ts2 as1 => A10 (k = l.length - i) (i ≤ l.length) (m' "tokens" = some (.ref la)) (m' "line" = some (.ref a)) (m' "at" = some (.int (i : Nat))) (m' "was_is" = some (.bool false)) (Suf (l.drop i) ts2) (ts = ts1 ++ ts2) (H' la = some (.list (as1.map .ref))) (TokL H' as1 (ts0 ++ ts1)))) ?_ _
    ⟨ExtB.refl, 0, [], ts, as0, rfl, Nat.zero_le _, put_ne (by decide) (put_ne (by decide) (put_ne (by decide) put_eq)), put_ne (by decide) (put_ne (by decide) put_eq), put_ne (by decide) put_eq, put_eq, hs, rfl, hla, by simpa using ht0⟩
  rintro k m' H' B hB1 hB2 hB3 hB4 hqq
  refine byc fun hnn => ?_
  obtain ⟨eB, i, ts1, ts2, as1, hk, hi, m1, m2, m3, m4, hsuf, hts, hla', htk⟩ := hqq
  refine hnn ?_; clear hnn
  have hx' := eB a _ hal hx
  have hpl' := eB pl _ hne hpl
  repeat wtm_at "w1"
  refine ite_b (fun h1 => ?_) fun h1 => ?_
  · have hil : i < l.length := by simpa using h1
    repeat wtm_at "w1"
    cases hsuf.at hil with
    | blank hc hs' =>
      refine (c_is_blank_at hK (lr hr rfl) hl hc (by decide) (by decide) ?_).cl
      repeat wtm_at "w1"
      refine ite_t rfl ?_
      repeat wtm_at "w1"
      first | refine hB1 _ _ ?_ | refine hB2 _ _ ?_
      refine ⟨_, by lia, eB, i + 1, ts1, ts2, as1, rfl, hil, put_ne (by decide) m1, put_ne (by decide) m2, put_eq, put_ne (by decide) m4, hs', hts, hla', htk⟩
    | item c t k w rest ts3 hd he hit hap hdot hs' n1 n2 n3 hc hlen =>
      refine (c_is_blank_at hK (lr hr rfl) hl hc n2 n3 ?_).cl
      repeat wtm_at "w1"
      refine ite_f (by simpa using n1) ?_
      repeat wtm_at "w1"
      obtain ⟨p, hpi⟩ : ∃ p, ps[i]? = some p := ⟨ps[i], List.getElem?_eq_getElem _⟩
      obtain ⟨pi, pj, rfl⟩ := hpt p (List.mem_of_getElem? hpi)
      refine GetI_list hpl' (idx (by lia)) (n := i) (by simp) hpi ?_
      repeat wtm_at "w1"
      have np : NoPic (ts0 ++ ts1) := fun t ht => hp t (by rw [hts, ← List.append_assoc]; exact List.mem_append_left _ ht)
      have hz' : (ts0 ++ ts1).length ≤ 1000000 := by rw [hts, ← List.append_assoc, List.length_append] at hz; exact Nat.le_of_add_right_le hz
      refine (c_is_picture_next hK (lr hr rfl) hla' htk hz' np ?_).cl
      repeat wtm_at "w1"
      refine ite_f rfl ?_
      refine ite_f rfl ?_
      repeat wtm_at "w1"
      refine (c_is_picture_next hK (lr hr rfl) hla' htk hz' np ?_).cl
      repeat wtm_at "w1"
      refine ite_f rfl ?_
      repeat wtm_at "w1"
      refine (c_worth_at hK (lr hr rfl) hx' hl hA hd hit hap hdot ?_).cl
      repeat wtm_at "w1"
      refine Mt_append hla' ?_
      repeat wtm_at "w1"
      refine GetI_tup (n := 1) ⟨by decide, by decide⟩ rfl rfl ?_
      repeat wtm_at "w1"
      refine ite_b (fun h2 => ?_) fun h2 => ?_
      all_goals
        repeat wtm_at "w1"
        refine c_Token hK (lr hr rfl) fun x dxx hxn hdn hxd => ?_
        generalize hH2 : upd (upd H' dxx (.aux x)) x (.inst 255 dxx (tokF k w (.tup [.int pi, .int pj]) _)) = H2
        have hx0 : upd H' dxx (.aux x) x = none := by rw [upd_ne hxd]; exact hxn
        have e1 : Ext H' H2 := hH2 ▸ (Ext.upd hdn).updT hx0
        have hla2 := e1 _ _ hla'
        have hx2 : TokAt H2 x (k, w) := ⟨dxx, (pi, pj), _, hH2 ▸ upd_eq⟩
        repeat wtm_at "w1"
        refine Cl_append hla2 (by rw [sz24, List.length_map, htk.length]; lia) ?_
        repeat wtm_at "w1"
        have tk : TokL (upd H2 la (.list (as1.map V.ref ++ [.ref x]))) (as1 ++ [x]) (ts0 ++ (ts1 ++ [(k, w)])) := by
          rw [← List.append_assoc]
          exact TokL.to ExtB.upd (list_ne_inst hla2) ((htk.ext e1).append (.cons hx2 .nil))
        first | refine hB1 _ _ ?_ | refine hB2 _ _ ?_
        refine ⟨_, ?_, eB.trans (e1.b.trans ExtB.upd), i + (c :: t).length, ts1 ++ [(k, w)], ts3, as1 ++ [x], rfl, by lia, put_ne (by decide) (put_ne (by decide) (put_ne (by decide) (put_ne (by decide) (put_ne (by decide) (put_ne (by decide) m1))))),
          put_ne (by decide) (put_ne (by decide) (put_ne (by decide) (put_ne (by decide) (put_ne (by decide) (put_ne (by decide) m2))))), put_eq, put_ne (by decide) put_eq, hs', by rw [hts, he, List.append_assoc]; rfl, by rw [upd_eq]; simp, tk⟩
        rw [List.length_cons] at hlen ⊢; lia
  · have hd : l.length ≤ i := by simpa using h1
    repeat wtm_at "w1"
    exact RetQ.nil (h H' eB ⟨as1, hla', by rw [hts, hsuf.ends hd, List.append_nil]; exact htk⟩)

theorem c_tokens_of (hK : GK G) (hr : 10 ≤ r) {lns : List Addr} {specs : List (List Nat × List (List Nat × List Nat))} (hla : H la = some (.list (lns.map .ref))) (hls : lns.length = specs.length)
    (hln : ∀ (i : Nat) (a : Addr) (s : List Nat × List (List Nat × List Nat)), lns[i]? = some a → specs[i]? = some s → ∃ (dx pl : Addr) (ps : List V), H a = some (.inst 145 dx [("text", .str s.1), ("places", .ref pl)]) ∧ H pl = some (.list ps) ∧ s.1.length ≤ 1000 ∧ (∀ c ∈ s.1, c < 128) ∧ s.1.length ≤ ps.length ∧ (∀ v ∈ ps, ∃ i j, v = .tup [.int i, .int j]) ∧ Suf s.1 s.2)
    (hp : NoPic (specs.flatMap (·.2))) (hz : (specs.flatMap (·.2)).length ≤ 1000000) (h : ∀ H' lt, Ext H H' → H lt = none → Toks H' lt (specs.flatMap (·.2)) → Q (.ref lt) H') : CC G fs r (.ref 402) [.ref la] H Q E := by
  refine FN (env := env402) hK (lq hr rfl) rfl rfl rfl rfl rfl (ps := ["lines"]) (fun cs hl => by obtain ⟨c1, rfl⟩ := one_of hl; rfl) (by decide) (by decide) rfl rfl rfl (fun _ => rfl) fun hC L hL => ?_
  simp only [locs]
  repeat wtm_at "w1"
  refine ⟨by rw [sz24]; simp, fun lt hlt => ?_⟩
  repeat wtm_at "w1"
  refine Ex_For (L := L) rfl ?_
  refine Itb_list ?_
  repeat wtm_at "w1"
  refine ⟨la, _, rfl, upd_of hla hlt, ?_⟩
  refine ⟨fun i m' H' => A4 (Ext H H') (m' "tokens" = some (.ref lt)) (m' "lines" = some (.ref la)) (Toks H' lt ((specs.take i).flatMap (·.2))), ?_⟩
  have lalt : la ≠ lt := fun z => by rw [z, hlt] at hla; cases hla
  refine ⟨⟨Ext.upd hlt, put_eq, put_ne (by decide) put_eq, ⟨[], upd_eq, .nil⟩⟩, fun i m' H' q => q.1 _ _ hla, fun i x m' H' B hB1 hB2 hB3 hB4 hx ⟨e, m1, m2, tk⟩ => ?_, fun m' H' ⟨e, m1, m2, tk⟩ => ?_⟩
  · obtain ⟨a, ha, rfl⟩ : ∃ a, lns[i]? = some a ∧ x = .ref a := by
      simp only [Src.items, List.getElem?_map] at hx
      refine byc fun hnn => ?_
      obtain ⟨a, h1, h2⟩ := Option.map_eq_some_iff.mp hx
      refine hnn ?_; clear hnn
      exact ⟨a, h1, h2.symm⟩
    obtain ⟨s, hs⟩ : ∃ s, specs[i]? = some s := ⟨specs[i]'(by rw [← hls]; exact (List.getElem?_eq_some_iff.mp ha).1), List.getElem?_eq_getElem _⟩
    refine byc fun hnn => ?_
    obtain ⟨dx, pl, ps, q1, q2, q3, q4, q5, q6, q7⟩ := hln i a s ha hs
    refine hnn ?_; clear hnn
    have hplt : pl ≠ lt := fun z => by rw [z, hlt] at q2; cases q2
    refine byc fun hnn => ?_
    obtain ⟨as0, h0, t0⟩ := tk
    refine hnn ?_; clear hnn
    have ets : (specs.take (i + 1)).flatMap (·.2) = (specs.take i).flatMap (·.2) ++ s.2 := by rw [List.take_add_one, hs]; simp
    have hsub : ∀ t, t ∈ (specs.take (i + 1)).flatMap (·.2) → t ∈ specs.flatMap (·.2) := fun t ht => by
      refine byc fun hnn => ?_
      obtain ⟨u, hu, ht⟩ := List.mem_flatMap.mp ht
      refine hnn ?_; clear hnn
      exact List.mem_flatMap.mpr ⟨u, List.mem_of_mem_take hu, ht⟩
    have hzz : ((specs.take (i + 1)).flatMap (·.2)).length ≤ 1000000 := by
      have : specs.flatMap (·.2) = (specs.take (i + 1)).flatMap (·.2) ++ (specs.drop (i + 1)).flatMap (·.2) := by rw [← List.flatMap_append, List.take_append_drop]
      rw [this, List.length_append] at hz; lia
    repeat wtm_at "w1"
    refine (c_add_tokens hK (lr hr rfl) (e _ _ q1) (e _ _ q2) hplt h0 t0 q3 q4 q5 q6 q7 (fun t ht => hp t (hsub t (ets ▸ ht))) (ets ▸ hzz) fun H'' e2 tk2 => ?_).cl
    repeat wtm_at "w1"
    first | refine hB1 _ _ ?_ | refine hB2 _ _ ?_
    refine ⟨fun b o hb => e2 b o (fun z => by rw [z, hlt] at hb; cases hb) (e b o hb), put_ne (by decide) m1, put_ne (by decide) m2, ets ▸ tk2⟩
  · repeat wtm_at "w1"
    refine RetQ.now (h H' lt e hlt ?_)
    simp only [Src.items, List.length_map] at tk
    rw [hls, List.take_length] at tk
    exact tk
end
end W6
section W7
open PySem PySem.W PyProof.Rows
set_option maxHeartbeats 2000000

section
variable {G : Ctx} {fs : List Env} {r : Nat} {H : AH} {Q : V → AH → Prop} {E : AH → Prop} {l : List Nat} {a dx pl la : Addr}

abbrev rowF (s b k : List Nat) : List (Str × V) := [("sequence", .str s), ("indicator", .str [32]), ("body", .str b), ("mark", .str k)]
theorem c_Row_init (hK : GK G) (hr : 1 ≤ r) {x : Addr} {s b k : List Nat} (hx : H x = some (.inst 117 dx [])) (h : Q .none (upd H x (.inst 117 dx (rowF s b k)))) :
    CC G fs r (.ref 100) [.ref x, .str s, .str [32], .str b, .str k] H Q E := by
  refine FN (env := env100) hK (lq hr rfl) rfl rfl rfl rfl rfl (ps := ["self", "sequence", "indicator", "body", "mark"]) (fun cs hl => by obtain ⟨c1, c2, c3, c4, c5, rfl⟩ := five_of hl; rfl) (by decide) (by decide) rfl rfl rfl (fun _ => rfl) fun hC L hL => ?_
  simp only [locs]
  repeat wtm_at "w1"
  refine SaK hK hx (by simp) ?_ rfl rfl rfl rfl
  repeat wtm_at "w1"
  refine SaK hK upd_eq (Nat.le_of_ble_eq_true rfl) ?_ rfl rfl rfl rfl
  rw [upd_upd]
  repeat wtm_at "w1"
  refine SaK hK upd_eq (Nat.le_of_ble_eq_true rfl) ?_ rfl rfl rfl rfl
  rw [upd_upd]
  repeat wtm_at "w1"
  refine SaK hK upd_eq (Nat.le_of_ble_eq_true rfl) ?_ rfl rfl rfl rfl
  rw [upd_upd]
  repeat wtm_at "w1"
  exact RetQ.nil h
theorem c_Row (hK : GK G) (hr : 6 ≤ r) {s b k : List Nat} (h : ∀ x dx, H x = none → H dx = none → x ≠ dx → Q (.ref x) (upd (upd H dx (.aux x)) x (.inst 117 dx (rowF s b k)))) : Cl G fs r (.ref 117) [.str s, .str [32], .str b, .str k] H Q E := by
  refine MakeK hK (lq hr rfl) (fun x dx hx hd hne => ?_) rfl rfl rfl
  refine c_Row_init hK (by lia) upd_eq ⟨rfl, ?_⟩
  rw [upd_upd]
  exact h x dx hx hd hne

abbrev lineF (t : List Nat) (pl : Addr) : List (Str × V) := [("text", .str t), ("places", .ref pl)]
theorem c_Line_init (hK : GK G) (hr : 1 ≤ r) {x : Addr} {t : List Nat} (hx : H x = some (.inst 145 dx [])) (h : Q .none (upd H x (.inst 145 dx (lineF t pl)))) :
    CC G fs r (.ref 135) [.ref x, .str t, .ref pl] H Q E := by
  refine FN (env := env135) hK (lq hr rfl) rfl rfl rfl rfl rfl (ps := ["self", "text", "spots"]) (fun cs hl => by obtain ⟨c1, c2, c3, rfl⟩ := three_of hl; rfl) (by decide) (by decide) rfl rfl rfl (fun _ => rfl) fun hC L hL => ?_
  simp only [locs]
  repeat wtm_at "w1"
  refine SaK hK hx (by simp) ?_ rfl rfl rfl rfl
  repeat wtm_at "w1"
  refine SaK hK upd_eq (Nat.le_of_ble_eq_true rfl) ?_ rfl rfl rfl rfl
  rw [upd_upd]
  repeat wtm_at "w1"
  exact RetQ.nil h
theorem c_Line (hK : GK G) (hr : 6 ≤ r) {t : List Nat} (h : ∀ x dx, H x = none → H dx = none → x ≠ dx → Q (.ref x) (upd (upd H dx (.aux x)) x (.inst 145 dx (lineF t pl)))) : Cl G fs r (.ref 145) [.str t, .ref pl] H Q E := by
  refine MakeK hK (lq hr rfl) (fun x dx hx hd hne => ?_) rfl rfl rfl
  refine c_Line_init hK (by lia) upd_eq ⟨rfl, ?_⟩
  rw [upd_upd]
  exact h x dx hx hd hne

theorem c_check_signs (hK : GK G) (hr : 1 ≤ r) {n : V} (hA : ∀ c ∈ l, 32 ≤ c ∧ c < 127) (hl : l.length ≤ 80) (h : Q .none H) : CC G fs r (.ref 156) [.str l, n] H Q E := by
  refine FN (env := env156) hK (lq hr rfl) rfl rfl rfl rfl rfl (ps := ["text", "number"]) (fun cs hl => by obtain ⟨c1, c2, rfl⟩ := two_of hl; rfl) (by decide) (by decide) rfl rfl rfl (fun _ => rfl) fun hC L hL => ?_
  simp only [locs]
  wtm_at "w1"
  refine Ex_For (L := L) rfl ?_
  refine Itb_range (nr hK) ?_ rfl rfl rfl rfl rfl
  repeat wtm_at "w1"
  refine ⟨by lia, fun i m' H' => H = H' ∧ m' "text" = some (.str l), ⟨⟨rfl, put_ne (by decide) put_eq⟩, fun _ _ _ _ => trivial, fun i x m' H' B hB1 hB2 hB3 hB4 hx ⟨e, m1⟩ => ?_, fun m' H' ⟨e, m1⟩ => ?_⟩⟩
  · subst e
    obtain ⟨hi, rfl⟩ : i < l.length ∧ x = .int (i : Int) := by
      simp only [Src.items, List.getElem?_map] at hx
      refine byc fun hnn => ?_
      obtain ⟨k, h1, h2⟩ := Option.map_eq_some_iff.mp hx
      refine hnn ?_; clear hnn
      have := List.getElem?_eq_some_iff.mp h1
      obtain ⟨h3, h4⟩ := this
      simp at h3 h4
      subst h4
      exact ⟨h3, h2.symm⟩
    repeat wtm_at "w1"
    refine GetI_at (n := i) rfl (List.getElem?_eq_getElem hi) (by lia) ?_
    have := hA _ (List.getElem_mem hi)
    repeat wtm_at "w1"
    refine ite_t (by simp; lia) ?_
    repeat wtm_at "w1"
    refine ite_f (by simp; lia) ?_
    repeat wtm_at "w1"
    first | refine hB1 _ _ ?_ | refine hB2 _ _ ?_
    exact ⟨rfl, put_ne (by decide) m1⟩
  · subst e
    repeat wtm_at "w1"
    refine ite_f (by simp; lia) ?_
    repeat wtm_at "w1"
    exact RetQ.nil h

def RowAt (H : AH) (a : Addr) (b : List Nat) : Prop := (X3 fun dx s k => H a = some (.inst 117 dx (rowF s b k)))
/-- a row's body -/
def bodyOf (t : List Nat) : List Nat := cut (t ++ List.replicate (80 - t.length) 32) (some 7) (some 72)

theorem c_cut_row (hK : GK G) (hr : 8 ≤ r) {n : V} (hA : ∀ c ∈ l, 32 ≤ c ∧ c < 127) (hl : l.length ≤ 80) (h6 : (l ++ List.replicate (80 - l.length) 32)[6]? = some 32)
    (h : ∀ x H', Ext H H' → H x = none → RowAt H' x (bodyOf l) → Q (.ref x) H') : CC G fs r (.ref 163) [.str l, n] H Q E := by
  have hw : (l ++ List.replicate (80 - l.length) 32).length = 80 := by simp; lia
  refine FN (env := env163) hK (lq hr rfl) rfl rfl rfl rfl rfl (ps := ["text", "number"]) (fun cs hl => by obtain ⟨c1, c2, rfl⟩ := two_of hl; rfl) (by decide) (by decide) rfl rfl rfl (fun _ => rfl) fun hC L hL => ?_
  simp only [locs]
  repeat wtm_at "w1"
  refine (c_check_signs hK (lr hr rfl) hA hl ?_).cl
  repeat wtm_at "w1"
  have e : (80 : Int) - (l.length : Int) = ((80 - l.length : Nat) : Int) := by lia
  rw [e]
  refine BOp_strmul (by lia) ?_
  refine BOp_cat (by rw [sz24]; simp; lia) ?_
  repeat wtm_at "w1"
  refine GetI_at (n := 6) rfl h6 (by lia) ?_
  repeat wtm_at "w1"
  refine ite_f (by decide) ?_
  repeat wtm_at "w1"
  refine GetI_at (n := 6) rfl h6 (by lia) ?_
  repeat wtm_at "w1"
  refine c_Row hK (lr hr rfl) fun x dx hx hd hne => RetQ.now (h x _ ((Ext.upd hd).updT (by rw [upd_ne hne]; exact hx)) hx ⟨dx, _, _, upd_eq⟩)

theorem c_is_blank (hK : GK G) (hr : 1 ≤ r) {b : List Nat} (hx : RowAt H a b) (hl : b.length ≤ 1000) (h : Q (.bool (stripL 32 b == [])) H) : CC G fs r (.ref 114) [.ref a] H Q E := by
  refine byc fun hnn => ?_
  obtain ⟨dx, s, k, hx⟩ := hx
  refine hnn ?_; clear hnn
  refine FN (env := env114) hK (lq hr rfl) rfl rfl rfl rfl rfl (ps := ["self"]) (fun cs hl => by obtain ⟨c1, rfl⟩ := one_of hl; rfl) (by decide) (by decide) rfl rfl rfl (fun _ => rfl) fun hC L hL => ?_
  simp only [locs]
  repeat wtm_at "w1"
  refine Mt_strip ?_
  repeat wtm_at "w1"
  refine Cl_strip (by rw [sz24]; lia) ?_
  repeat wtm_at "w1"
  exact RetQ.now h

theorem c_row_counts (hK : GK G) (hr : 2 ≤ r) {b : List Nat} {d : V} (hx : RowAt H a b) (hl : b.length ≤ 1000) (hb : stripL 32 b ≠ []) (h : Q (.bool true) H) : CC G fs r (.ref 189) [.ref a, d] H Q E := by
  have hx0 := hx
  obtain ⟨dx, s, k, hx⟩ := hx
  refine FN (env := env189) hK (lq hr rfl) rfl rfl rfl rfl rfl (ps := ["row", "is_debugging"]) (fun cs hl => by obtain ⟨c1, c2, rfl⟩ := two_of hl; rfl) (by decide) (by decide) rfl rfl rfl (fun _ => rfl) fun hC L hL => ?_
  simp only [locs]
  repeat wtm_at "w1"
  refine ite_f (by decide) ?_
  repeat wtm_at "w1"
  refine ite_f (by decide) ?_
  repeat wtm_at "w1"
  refine ite_f rfl ?_
  repeat wtm_at "w1"
  refine ite_f (by decide) ?_
  repeat wtm_at "w1"
  refine ite_f (by decide) ?_
  repeat wtm_at "w1"
  refine (c_is_blank hK (lr hr rfl) hx0 hl ?_).cl
  repeat wtm_at "w1"
  have : (!(stripL 32 b == [])) = true := by simp [hb]
  exact RetQ.now (v := .bool (!(stripL 32 b == []))) (by rw [this]; exact h)
end
end W7
section W8
open PySem PySem.W PyProof.Rows
set_option maxHeartbeats 2000000

theorem one_mC {env : Env} {scope : Scope} {cl : List (Str × Addr)} {m : Loc} {x : Str} {v : V} (h1 : m x = some v) (h2 : env.kindOf x ≠ some .local) (h3 : (relabel scope env).names.lookup x ≠ some .local) (h4 : cl.lookup x = env.cells.lookup x) :
    ∀ y w, put noLoc x v y = some w → m y = some w ∧ env.kindOf y ≠ some .local ∧ (relabel scope env).names.lookup y ≠ some .local ∧ cl.lookup y = env.cells.lookup y := by
  intro y w e
  unfold put at e
  by_cases z : y = x
  · rw [if_pos z] at e; cases e; subst z; exact ⟨h1, h2, h3, h4⟩
  · rw [if_neg z] at e; cases e
theorem two_mC {env : Env} {scope : Scope} {cl : List (Str × Addr)} {m : Loc} {x x' : Str} {v v' : V} (h1 : m x = some v) (h2 : env.kindOf x ≠ some .local) (h3 : (relabel scope env).names.lookup x ≠ some .local) (h4 : cl.lookup x = env.cells.lookup x)
    (g1 : m x' = some v') (g2 : env.kindOf x' ≠ some .local) (g3 : (relabel scope env).names.lookup x' ≠ some .local) (g4 : cl.lookup x' = env.cells.lookup x') :
    ∀ y w, put (put noLoc x v) x' v' y = some w → m y = some w ∧ env.kindOf y ≠ some .local ∧ (relabel scope env).names.lookup y ≠ some .local ∧ cl.lookup y = env.cells.lookup y := by
  intro y w e
  unfold put at e
  by_cases z : y = x'
  · rw [if_pos z] at e; cases e; subst z; exact ⟨g1, g2, g3, g4⟩
  · rw [if_neg z] at e; exact one_mC h1 h2 h3 h4 y w e

section
variable {G : Ctx} {fs : List Env} {r : Nat} {env : Env} {m : Loc} {H : AH} {E : AH → Prop}
theorem Tst_nil {Q : Bool → AH → Prop} (h : Q true H) : Tst G fs r env m [] H Q := h
/-- a comprehension that makes objects -/
theorem Ev_CompMake {elt iter : Expr} {x : Str} {px pos : Pos} {scope : Scope} {cl : List (Str × Addr)} {Q : V → AH → Prop} (mC : Loc) (P : Addr → Nat → AH → Addr → Prop) (pe : ∀ D i H H' a, Ext H H' → P D i H a → P D i H' a) (pu : ∀ D i H o a, P D i H a → P D i (upd H D o) a)
    (h : Itb G fs r env m (eval iter env) H (fun src H₁ => A4 (src.items.length ≤ sizeLine) (∀ D H', H₁ D = none → ExtB D H₁ H' → src.ok H') (∀ C D acc H' i v, src.items[i]? = some v → H₁ D = none → ExtB D H₁ H' → H' D = some (.list acc) → Ev G fs r (compEnvC scope cl C env) (put mC x v) (eval elt (compEnvC scope cl C env)) H' (fun y H₃ => ∃ a, A3 (y = .ref a) (Ext H' H₃) (P D i H₃ a)) fun _ => False) (∀ D H' (as : List Addr), H₁ D = none → ExtB D H₁ H' → H' D = some (.list (as.map .ref)) → as.length = src.items.length → (∀ i a, as[i]? = some a → P D i H' a) → Q (.ref D) H')) E)
    (hclos : closureFor scope env = pure cl) (hcl : ∀ p ∈ cl, p ∈ env.cells) (hm : ∀ y v, mC y = some v → m y = some v ∧ env.kindOf y ≠ some .local ∧ (relabel scope env).names.lookup y ≠ some .local ∧ cl.lookup y = env.cells.lookup y) (hmx : mC x = none)
    (hcell : ∀ y ∈ scope.names, y.2 ≠ .cell) (hkind : scope.kind = .function) (hx : scope.names.lookup x = some .local)
    (hnames : ∀ y ∈ scope.names, y.2 = .local → scope.names.lookup y.1 = some .local) (hs : ∀ x, foldedSetIterable iter env x = pure x) :
    Ev G fs r env m (eval (.ListComp elt [⟨.Name x px, iter, [], 0⟩] scope pos) env) H Q E := by
  refine Ev_ListComp mC (fun A s a b c => wpAny_mono (h A s a b c) ?_ fun _ _ z => z) hclos hcl hm hmx (by simp) hcell hkind hx hnames hs
  rintro v s₁ hqq
  refine byc fun hnn => ?_
  obtain ⟨src, H₁, a₁, ok, sv, hz, hok, hel, q⟩ := hqq
  refine hnn ?_; clear hnn
  refine ⟨src, H₁, a₁, ok, sv, fun D i acc H' => A3 (ExtB D H₁ H') (i ≤ src.items.length) (∃ as : List Addr, A3 (acc = as.map .ref) (as.length = i) (∀ j a, as[j]? = some a → P D j H' a)), fun D hD => ⟨⟨(Ext.upd hD).b, Nat.zero_le _, [], rfl, rfl, fun j a e => by simp at e⟩, ?_, ?_⟩, ?_⟩
  · rintro i acc H' ⟨e, hi, as, rfl, hl, -⟩
    exact ⟨hok D H' hD e, by rw [List.length_map]; lia⟩
  · rintro C i v acc H' hv ⟨e, hi, as, rfl, hl, hp⟩ hD'
    refine Tst_nil ?_
    refine ite_t rfl ?_
    refine (hel C D _ H' i v hv hD e hD').mono ?_ fun _ z => z
    rintro y H₃ ⟨a, rfl, e3, p⟩
    refine ⟨e3 _ _ hD', e.trans (e3.b.trans ExtB.upd), (List.getElem?_eq_some_iff.mp hv).1, as ++ [a], by simp, by simp [hl], fun j b hj => pu _ _ _ _ _ ?_⟩
    rcases Nat.lt_trichotomy j as.length with z | z | z
    · rw [List.getElem?_append_left z] at hj
      exact pe _ _ _ _ _ e3 (hp j b hj)
    · rw [z, List.getElem?_concat_length] at hj; cases hj; rw [z, hl]; exact p
    · rw [List.getElem?_eq_none (by simp; lia)] at hj; cases hj
  · rintro D acc H' hD hD' ⟨e, -, as, rfl, hl, hp⟩
    exact q D H' as hD e hD' hl hp
end

section
variable {G : Ctx} {fs : List Env} {r : Nat} {H : AH} {Q : V → AH → Prop} {E : AH → Prop} {l : List Nat} {a dx pl la : Addr}

def TupI (v : V) : Prop := (X2 fun i j => v = .tup [.int i, .int j])
def LineP (H : AH) (a : Addr) (t : List Nat) : Prop := (X3 fun dx pl ps => A4 (H a = some (.inst 145 dx (lineF t pl))) (H pl = some (.list ps)) (ps.length = t.length) (∀ v ∈ ps, TupI v))
def numF (n : Int) : V → V
  | .int k => .tup [.int n, .int (7 + 1 + k)]
  | v => v

theorem TupI.map {b : List Nat} {n : Int} : ∀ v ∈ ((Src.range b.length).items.filter (fun _ => true)).map (numF n), TupI v := by
  intro v hv
  rw [List.filter_eq_self.mpr (by simp)] at hv
  simp only [Src.items, List.map_map, List.mem_map] at hv
  obtain ⟨i, _, rfl⟩ := hv
  exact ⟨_, _, rfl⟩
theorem c_body_line (hK : GK G) (hr : 8 ≤ r) {b : List Nat} {n : Int} (hx : RowAt H a b) (hl : b.length ≤ 1000)
    (h : ∀ x pl dx ps H', Ext H H' → H x = none → H pl = none → H' x = some (.inst 145 dx (lineF b pl)) → H' pl = some (.list ps) → ps.length = b.length → (∀ v ∈ ps, TupI v) → Q (.ref x) H') :
    CC G fs r (.ref 194) [.ref a, .int n] H Q E := by
  obtain ⟨dx, s, k, hx⟩ := hx
  refine FC (env := env194) hK (lq hr rfl) rfl rfl rfl rfl rfl (ps := ["row", "number"]) (fun cs hl => by obtain ⟨c1, c2, rfl⟩ := two_of hl; rfl) rfl (by intro p hp; rcases List.mem_cons.mp hp with rfl | hp; exact .inl rfl; rcases List.mem_cons.mp hp with rfl | hp; exact .inr ⟨rfl, fun n => rfl⟩; cases hp) (by intro n p hp; rcases List.mem_cons.mp hp with rfl | hp; exact rfl; cases hp) rfl rfl rfl (fun _ => rfl) fun hC L hL => ?_
  simp only [locs]
  repeat wtm_at "w1"
  refine Ev_CompMF (put noLoc "number" (.int n)) (numF n) (fun _ => true) (Itb_range (nr hK) ?_ rfl rfl rfl rfl rfl) rfl (fun p hp => hp) (one_mC put_eq (by show some NameKind.cell ≠ some NameKind.local; decide) (by show some NameKind.cell ≠ some NameKind.local; decide) rfl) rfl (by decide) (by decide) rfl rfl (by decide) (fun _ => rfl)
  repeat wtm_at "w1"
  refine ⟨by lia, ⟨by simp [Src.items, sizeLine]; lia, fun _ _ _ => trivial, fun C D o i v hv hD => ⟨rfl, rfl⟩, fun C D o i v hv _ hD => ?_⟩, fun D hD => ?_⟩
  · obtain ⟨hi, rfl⟩ : i < b.length ∧ v = .int (i : Int) := by
      simp only [Src.items, List.getElem?_map] at hv
      obtain ⟨k, h1, h2⟩ := Option.map_eq_some_iff.mp hv
      obtain ⟨h3, h4⟩ := List.getElem?_eq_some_iff.mp h1
      simp at h3 h4
      subst h4
      exact ⟨h3, h2.symm⟩
    repeat wtm_at "w1"
    exact ⟨by simp [sizeLine], rfl, rfl⟩
  · repeat wtm_at "w1"
    refine c_Line hK (lr hr rfl) fun x dx hx hd hne => ?_
    have xD : D ≠ x := fun z => by rw [← z, upd_eq] at hx; cases hx
    have dD : D ≠ dx := fun z => by rw [← z, upd_eq] at hd; cases hd
    have hx0 : H x = none := by rw [upd_ne xD.symm] at hx; exact hx
    refine RetQ.now (h x D dx _ _ (((Ext.upd hD).trans (Ext.upd hd)).updT (by rw [upd_ne hne]; exact hx)) hx0 hD upd_eq (by rw [upd_ne xD, upd_ne dD, upd_eq]) ?_ TupI.map)
    rw [List.length_map, List.filter_eq_self.mpr (by simp)]
    simp [Src.items]

theorem rstripL_len (c : Nat) (l : List Nat) : (rstripL c l).length ≤ l.length := by
  unfold rstripL
  rw [List.length_reverse]
  refine Nat.le_trans (List.dropWhile_sublist _).length_le ?_
  simp
theorem cut_to {α : Type} {l : List α} {n : Nat} : cut l none (some n) = l.take n := by simp [cut]
/-- a line without the blanks at its end -/
theorem c_without_end (hK : GK G) (hr : 8 ≤ r) {b : List Nat} {ps : List V} (hx : H a = some (.inst 145 dx (lineF b pl))) (hpl : H pl = some (.list ps)) (hl : b.length ≤ 1000) (hps : ps.length = b.length) (ht : ∀ v ∈ ps, TupI v)
    (h : ∀ x pl dx ps H', Ext H H' → H x = none → H pl = none → H' x = some (.inst 145 dx (lineF (rstripL 32 b) pl)) → H' pl = some (.list ps) → ps.length = (rstripL 32 b).length → (∀ v ∈ ps, TupI v) → Q (.ref x) H') :
    CC G fs r (.ref 201) [.ref a] H Q E := by
  have hs := rstripL_len 32 b
  refine FN (env := env201) hK (lq hr rfl) rfl rfl rfl rfl rfl (ps := ["line"]) (fun cs hl => by obtain ⟨c1, rfl⟩ := one_of hl; rfl) (by decide) (by decide) rfl rfl rfl (fun _ => rfl) fun hC L hL => ?_
  simp only [locs]
  repeat wtm_at "w1"
  refine Mt_rstrip ?_
  repeat wtm_at "w1"
  refine Cl_rstrip (by rw [sz24]; lia) ?_
  repeat wtm_at "w1"
  refine Sl_list hpl (by rw [sizeLine]; lia) fun D hD => ?_
  repeat wtm_at "w1"
  refine c_Line hK (lr hr rfl) fun x dx hx hd hne => ?_
  have xD : D ≠ x := fun z => by rw [← z, upd_eq] at hx; cases hx
  have dD : D ≠ dx := fun z => by rw [← z, upd_eq] at hd; cases hd
  have hx0 : H x = none := by rw [upd_ne xD.symm] at hx; exact hx
  refine RetQ.now (h x D dx _ _ (((Ext.upd hD).trans (Ext.upd hd)).updT (by rw [upd_ne hne]; exact hx)) hx0 hD upd_eq (by rw [upd_ne xD, upd_ne dD, upd_eq]) ?_ fun v hv => ?_)
  · rw [cut_to, List.length_take]; lia
  · rw [cut_to] at hv; exact ht v (List.mem_of_mem_take hv)
end
end W8
section W9
open PySem PySem.W PyProof.Rows
set_option maxHeartbeats 2000000

section
variable {G : Ctx} {fs : List Env} {r : Nat} {H : AH} {Q : V → AH → Prop} {E : AH → Prop} {l : List Nat} {a dx pl la : Addr}

/-- a text of rows -/
def rowsOf (ls : List (List Nat)) : List Nat := ls.flatMap (· ++ [10])
def RowOK (l : List Nat) : Prop := A3 (∀ c ∈ l, 32 ≤ c ∧ c < 127) (l.length ≤ 80) ((l ++ List.replicate (80 - l.length) 32)[6]? = some 32)
theorem joinL_rows (ls : List (List Nat)) : joinL [10] (ls ++ [[]]) = rowsOf ls := by
  induction ls with
  | nil => rfl
  | cons x r ih => cases r with
    | nil => simp [rowsOf, joinL]
    | cons y r =>
      show x ++ [10] ++ joinL [10] (y :: r ++ [[]]) = _
      rw [ih]; rfl

theorem c_read_rows (hK : GK G) (hr : 10 ≤ r) {ls : List (List Nat)} (hz : (rowsOf ls).length + 2 ≤ 1000000) (hn : ls.length ≤ 100000) (hok : ∀ l ∈ ls, RowOK l)
    (h : ∀ D H' (as : List Addr), Ext H H' → H D = none → H' D = some (.list (as.map .ref)) → as.length = ls.length → (∀ (i : Nat) a l, as[i]? = some a → ls[i]? = some l → RowAt H' a (bodyOf l)) → Q (.ref D) H') :
    CC G fs r (.ref 168) [.str (rowsOf ls)] H Q E := by
  refine FC (env := env168) hK (lq hr rfl) rfl rfl rfl rfl rfl (ps := ["text"]) (fun cs hl => by obtain ⟨c1, rfl⟩ := one_of hl; rfl) rfl (by intro p hp; rcases List.mem_cons.mp hp with rfl | hp; exact .inl rfl; cases hp) (by intro n p hp; rcases List.mem_cons.mp hp with rfl | hp; exact rfl; cases hp) rfl rfl rfl (fun _ => rfl) fun hC L hL => ?_
  simp only [locs]
  repeat wtm_at "w1"
  refine Mt_split ?_
  repeat wtm_at "w1"
  refine Cl_split (by rw [sz24]; lia) fun D ps hD hne hfr hj => ?_
  have eps : ps = ls ++ [[]] := joinL_uniq hne (by simp) hfr (by
    intro p hp
    rcases List.mem_append.mp hp with h1 | h1
    · intro h2
      have := (hok p h1).1 10 h2
      lia
    · cases List.mem_singleton.mp h1; simp) (by rw [hj, joinL_rows])
  subst eps
  repeat wtm_at "w1"
  have hDl : upd H D (.list ((ls ++ [[]]).map .str)) D = some (.list ((ls ++ [[]]).map .str)) := upd_eq
  refine Cl_len_list hDl (by simp; lia) ?_
  repeat wtm_at "w1"
  refine GetI_list hDl ⟨by simp, by simp; lia⟩ (n := ls.length) (by simp) (v := .str []) (by simp) ?_
  repeat wtm_at "w1"
  refine ite_t rfl ?_
  repeat wtm_at "w1"
  refine Cl_len_list hDl (by simp; lia) ?_
  repeat wtm_at "w1"
  refine ⟨ls.length, by simp, ?_⟩
  refine Sl_list hDl (by rw [sizeLine]; simp; lia) fun D2 hD2 => ?_
  rw [cut_to, List.map_append, List.take_left' (by simp)]
  have e1 : Ext H (upd (upd H D (.list (ls.map V.str ++ [[]].map V.str))) D2 (.list (ls.map .str))) := by
    rw [List.map_append] at hD2
    exact (Ext.upd hD).trans (Ext.upd hD2)
  rw [List.map_append] at hD2
  have h2 : H D2 = none := by
    by_cases z : D2 = D
    · rw [z]; exact hD
    · rw [upd_ne z] at hD2; exact hD2
  generalize hH1 : upd (upd H D (.list (ls.map V.str ++ [[]].map V.str))) D2 (.list (ls.map .str)) = H1 at e1
  have hp : H1 D2 = some (.list (ls.map .str)) := by rw [← hH1]; exact upd_eq
  repeat wtm_at "w1"
  refine Ev_CompMake (put noLoc "pieces" (.ref D2)) (fun D i H a => a ≠ D ∧ ∀ l, ls[i]? = some l → RowAt H a (bodyOf l)) (fun D i H H' a e hh => ⟨hh.1, fun l hl => ?_⟩) (fun D i H o a hh => ⟨hh.1, fun l hl => ?_⟩)
    (Itb_range (nr hK) ?_ rfl rfl rfl rfl rfl) rfl (fun p hp => hp) (one_mC put_eq (by show some NameKind.cell ≠ some NameKind.local; decide) (by show some NameKind.cell ≠ some NameKind.local; decide) rfl) rfl (by decide) rfl rfl (by decide) (fun _ => rfl)
  · refine byc fun hnn => ?_
    obtain ⟨dx, s, k, hx⟩ := hh.2 l hl
    refine hnn ?_; clear hnn
    exact ⟨dx, s, k, e _ _ hx⟩
  · refine byc fun hnn => ?_
    obtain ⟨dx, s, k, hx⟩ := hh.2 l hl
    refine hnn ?_; clear hnn
    exact ⟨dx, s, k, by rw [upd_ne hh.1]; exact hx⟩
  repeat wtm_at "w1"
  refine Cl_len_list hp (by simp; lia) ?_
  refine ⟨_, rfl, by simp; lia, by simp [Src.items, sizeLine]; lia, fun _ _ _ _ => trivial, fun C D' acc H' i v hv hD' eB hl => ?_, fun D' H' as hD' eB hl hn' hrow => ?_⟩
  · have D2D' : D2 ≠ D' := fun z => by rw [← z, hp] at hD'; cases hD'
    have hp' : H' D2 = some (.list (ls.map .str)) := eB _ _ D2D' hp
    obtain ⟨hi, rfl⟩ : i < ls.length ∧ v = .int (i : Int) := by
      simp only [Src.items, List.getElem?_map, List.length_map] at hv
      refine byc fun hnn => ?_
      obtain ⟨k, h1, h2⟩ := Option.map_eq_some_iff.mp hv
      refine hnn ?_; clear hnn
      obtain ⟨h3, h4⟩ := List.getElem?_eq_some_iff.mp h1
      simp at h3 h4
      subst h4
      exact ⟨h3, h2.symm⟩
    repeat wtm_at "w1"
    refine GetI_list hp' (idx (by lia)) (n := i) (by simp) (v := .str ls[i]) (by simp [List.getElem?_eq_getElem hi]) ?_
    repeat wtm_at "w1"
    refine byc fun hnn => ?_
    obtain ⟨o1, o2, o3⟩ := hok _ (List.getElem_mem hi)
    refine hnn ?_; clear hnn
    refine (c_cut_row hK (lr hr rfl) o1 o2 o3 fun x H3 e3 hx hr => ⟨x, rfl, e3, fun z => ?_, fun l hl' => ?_⟩).cl
    · rw [z, hl] at hx; cases hx
    · rw [List.getElem?_eq_getElem hi] at hl'; cases hl'; exact hr
  · have hD'0 : H D' = none := by
      cases hq : H D' with
      | none => rfl
      | some o => rw [e1 _ _ hq] at hD'; cases hD'
    repeat wtm_at "w1"
    refine RetQ.now (h D' H' as (fun b o hb => eB b o (fun z => by rw [z, hD'0] at hb; cases hb) (e1 b o hb)) hD'0 hl (by rw [hn']; simp [Src.items]) fun i a l ha hl' => (hrow i a ha).2 l hl')
end
end W9
section W10
open PySem PySem.W PyProof.Rows
set_option maxHeartbeats 2000000

section
variable {G : Ctx} {fs : List Env} {r : Nat} {H : AH} {Q : V → AH → Prop} {E : AH → Prop} {l : List Nat} {a dx pl la : Addr}

/-- a line that stays, whatever happens at D -/
def LineS (D : Addr) (H : AH) (a : Addr) (t : List Nat) : Prop := ∀ H', ExtB D H H' → LineP H' a t
theorem LineS.p {D : Addr} {t : List Nat} (h : LineS D H a t) : LineP H a t := h _ ExtB.refl
theorem LineS.b {D : Addr} {t : List Nat} {H' : AH} (h : LineS D H a t) (e : ExtB D H H') : LineS D H' a t := fun H'' e' => h H'' (e.trans e')
theorem LineS.of {D : Addr} {t : List Nat} {ps : List V} (ha : H a = some (.inst 145 dx (lineF t pl))) (hp : H pl = some (.list ps)) (hl : ps.length = t.length) (ht : ∀ v ∈ ps, TupI v) (n1 : a ≠ D) (n2 : pl ≠ D) : LineS D H a t :=
  fun H' e => ⟨dx, pl, ps, e _ _ n1 ha, e _ _ n2 hp, hl, ht⟩

theorem c_logical_lines (hK : GK G) (hr : 12 ≤ r) {rows : List Addr} {bs : List (List Nat)} (hla : H la = some (.list (rows.map .ref))) (hls : rows.length = bs.length) (hz : bs.length ≤ 100000)
    (hrow : ∀ (i : Nat) a b, rows[i]? = some a → bs[i]? = some b → RowAt H a b) (hb : ∀ b ∈ bs, b.length ≤ 1000 ∧ stripL 32 b ≠ [])
    (h : ∀ D H' (as : List Addr), Ext H H' → H D = none → H' D = some (.list (as.map .ref)) → as.length = bs.length → (∀ (i : Nat) a b, as[i]? = some a → bs[i]? = some b → LineP H' a (rstripL 32 b)) → Q (.ref D) H') :
    CC G fs r (.ref 221) [.ref la, .bool false] H Q E := by
  refine FD (env := env221) (dvals := []) (dcs := []) hK (lq hr rfl) rfl rfl rfl rfl rfl (ps := ["rows", "is_debugging"]) (fun s X cs hl => by obtain ⟨c1, c2, rfl⟩ := two_of hl; exact binds_K X rfl rfl rfl rfl rfl) (fun _ _ _ _ => .nil) (by decide) (by decide) rfl rfl rfl (fun _ => rfl) fun hC L hL => ?_
  simp only [locs, List.append_nil, List.cons_append, List.nil_append]
  repeat wtm_at "w1"
  refine ⟨by rw [sz24]; simp, fun D hD => ?_⟩
  have laD : la ≠ D := fun z => by rw [z, hD] at hla; cases hla
  repeat wtm_at "w1"
  refine Ex_For (L := L) rfl ?_
  refine Itb_range (nr hK) ?_ rfl rfl rfl rfl rfl
  repeat wtm_at "w1"
  refine Cl_len_list (upd_of hla hD) (by simp; lia) ?_
  refine ⟨_, rfl, by simp; lia, fun i m' H' => A5 (ExtB D H H') (m' "rows" = some (.ref la)) (m' "is_debugging" = some (.bool false)) (m' "found" = some (.ref D)) (∃ as : List Addr, A3 (H' D = some (.list (as.map .ref))) (as.length = i) (∀ (j : Nat) a b, as[j]? = some a → bs[j]? = some b → LineS D H' a b)),
    ⟨⟨(Ext.upd hD).b, put_ne (by decide) (put_ne (by decide) put_eq), put_ne (by decide) put_eq, put_eq, [], upd_eq, rfl, fun j a b ha => by simp at ha⟩, fun _ _ _ _ => trivial, fun i x m' H' B hB1 hB2 hB3 hB4 hx ⟨eB, m1, m2, m3, as, q1, q2, q3⟩ => ?_, fun m' H' ⟨eB, m1, m2, m3, as, q1, q2, q3⟩ => ?_⟩⟩
  · obtain ⟨hi, rfl⟩ : i < rows.length ∧ x = .int (i : Int) := by
      simp only [Src.items, List.getElem?_map, List.length_map] at hx
      refine byc fun hnn => ?_
      obtain ⟨k, h1, h2⟩ := Option.map_eq_some_iff.mp hx
      refine hnn ?_; clear hnn
      obtain ⟨h3, h4⟩ := List.getElem?_eq_some_iff.mp h1
      simp at h3 h4
      subst h4
      exact ⟨h3, h2.symm⟩
    have hla' := eB _ _ laD hla
    have hib : i < bs.length := by lia
    obtain ⟨b1, b2⟩ := hb _ (List.getElem_mem hib)
    have hr0 : RowAt H' rows[i] bs[i] := by
      refine byc fun hnn => ?_
      obtain ⟨dx, s, k, hx⟩ := hrow i _ _ (List.getElem?_eq_getElem hi) (List.getElem?_eq_getElem hib)
      refine hnn ?_; clear hnn
      exact ⟨dx, s, k, eB _ _ (fun z => by rw [z, hD] at hx; cases hx) hx⟩
    repeat wtm_at "w1"
    refine GetI_list hla' (idx (by lia)) (n := i) (by simp) (v := .ref rows[i]) (by simp [List.getElem?_eq_getElem hi]) ?_
    repeat wtm_at "w1"
    refine (c_row_counts hK (lr hr rfl) hr0 b1 b2 ?_).cl
    repeat wtm_at "w1"
    refine ite_f rfl ?_
    refine byc fun hnn => ?_
    obtain ⟨dx, s, k, hx⟩ := hr0
    refine hnn ?_; clear hnn
    repeat wtm_at "w1"
    refine ite_t rfl ?_
    repeat wtm_at "w1"
    refine Mt_append q1 ?_
    repeat wtm_at "w1"
    refine (c_body_line hK (lr hr rfl) ⟨dx, s, k, hx⟩ b1 fun x pl dx' ps H2 e2 hx0 hp0 hx2 hp2 hl2 ht2 => ?_).cl
    have xD : x ≠ D := fun z => by rw [z, q1] at hx0; cases hx0
    have pD : pl ≠ D := fun z => by rw [z, q1] at hp0; cases hp0
    have hD2 := e2 _ _ q1
    repeat wtm_at "w1"
    refine Cl_append hD2 (by rw [sz24, List.length_map]; lia) ?_
    repeat wtm_at "w1"
    first | refine hB1 _ _ ?_ | refine hB2 _ _ ?_
    refine ⟨eB.trans (e2.b.trans ExtB.upd), put_ne (by decide) (put_ne (by decide) m1), put_ne (by decide) (put_ne (by decide) m2), put_ne (by decide) (put_ne (by decide) m3), as ++ [x], by rw [upd_eq]; simp, by simp [q2], fun j a b ha hb' => ?_⟩
    rcases Nat.lt_trichotomy j as.length with z | z | z
    · rw [List.getElem?_append_left z] at ha
      exact (q3 j a b ha hb').b (e2.b.trans ExtB.upd)
    · rw [z, List.getElem?_concat_length] at ha; cases ha
      rw [z, q2, List.getElem?_eq_getElem hib] at hb'; cases hb'
      exact (LineS.of hx2 hp2 hl2 ht2 xD pD).b ExtB.upd
    · rw [List.getElem?_eq_none (by simp; lia)] at ha; cases ha
  · repeat wtm_at "w1"
    refine Ev_CompMake noLoc (fun D2 i H a => ∀ b, bs[i]? = some b → LineS D2 H a (rstripL 32 b)) (fun D i H H' a e hh b hb => (hh b hb).b e.b) (fun D i H o a hh b hb => (hh b hb).b ExtB.upd)
      (Itb_list ?_) rfl no_cl no_mC rfl (by decide) rfl rfl (by decide) (fun _ => rfl)
    have hq2 : as.length = bs.length := by rw [q2]; simp [Src.items, hls]
    repeat wtm_at "w1"
    refine ⟨D, _, rfl, q1, by simp [Src.items, sizeLine]; lia, fun D2 H2 hD2 e2 => e2 D _ (fun z => by rw [← z, q1] at hD2; cases hD2) q1, fun C D2 acc H2 i v hv hD2 e2 hl2 => ?_, fun D2 H2 as2 hD2 e2 hl2 hn2 hp2 => ?_⟩
    · obtain ⟨a, ha, rfl⟩ : ∃ a, as[i]? = some a ∧ v = .ref a := by
        simp only [Src.items, List.getElem?_map] at hv
        refine byc fun hnn => ?_
        obtain ⟨a, h1, h2⟩ := Option.map_eq_some_iff.mp hv
        refine hnn ?_; clear hnn
        exact ⟨a, h1, h2.symm⟩
      have hib : i < bs.length := by rw [← hq2]; exact (List.getElem?_eq_some_iff.mp ha).1
      refine byc fun hnn => ?_
      obtain ⟨dx, pl, ps, h1, h2, h3, h4⟩ := (q3 i a _ ha (List.getElem?_eq_getElem hib)).p
      refine hnn ?_; clear hnn
      have h1' := e2 _ _ (fun z => by rw [z, hD2] at h1; cases h1) h1
      have h2' := e2 _ _ (fun z => by rw [z, hD2] at h2; cases h2) h2
      repeat wtm_at "w1"
      refine (c_without_end hK (lr hr rfl) h1' h2' (hb _ (List.getElem_mem hib)).1 h3 h4 fun x pl' dx' ps' H3 e3 hx0 hp0 hx3 hp3 hl3 ht3 => ⟨x, rfl, e3, fun b hb' => ?_⟩).cl
      rw [List.getElem?_eq_getElem hib] at hb'; cases hb'
      exact LineS.of hx3 hp3 hl3 ht3 (fun z => by rw [z, hl2] at hx0; cases hx0) (fun z => by rw [z, hl2] at hp0; cases hp0)
    · have hD20 : H D2 = none := by
        cases hq : H D2 with
        | none => rfl
        | some o => rw [eB _ _ (fun z => by rw [z, hD] at hq; cases hq) hq] at hD2; cases hD2
      have e : Ext H H2 := fun b o hb => by
        have z1 : b ≠ D := fun z => by rw [z, hD] at hb; cases hb
        have z2 : b ≠ D2 := fun z => by rw [z, hD20] at hb; cases hb
        exact e2 _ _ z2 (eB _ _ z1 hb)
      refine RetQ.now (h D2 H2 as2 e hD20 hl2 ?_ fun i a b ha hb => (hp2 i a ha b hb).p)
      rw [hn2, ← hq2]; simp [Src.items]

/-- a text's rows, as they count -/
def RowsG (ls : List (List Nat)) : Prop := A3 ((rowsOf ls).length + 2 ≤ 1000000) (ls.length ≤ 100000) (∀ l ∈ ls, RowOK l ∧ stripL 32 (bodyOf l) ≠ [])
theorem bodyOf_len (l : List Nat) : (bodyOf l).length ≤ 1000 := by
  unfold bodyOf cut
  simp; lia
/-- the lines of a text -/
def LinesAt (H : AH) (D : Addr) (ts : List (List Nat)) : Prop := ∃ as : List Addr, A3 (H D = some (.list (as.map .ref))) (as.length = ts.length) (∀ (i : Nat) a t, as[i]? = some a → ts[i]? = some t → LineP H a t)
theorem c_lines_of2 (hK : GK G) (hr : 14 ≤ r) {ls : List (List Nat)} (hok : RowsG ls) (h : ∀ D H', Ext H H' → H D = none → LinesAt H' D (ls.map fun l => rstripL 32 (bodyOf l)) → Q (.ref D) H') :
    CC G fs r (.ref 229) [.str (rowsOf ls), .bool false] H Q E := by
  refine FD (env := env229) (dvals := []) (dcs := []) hK (lq hr rfl) rfl rfl rfl rfl rfl (ps := ["text", "is_debugging"]) (fun s X cs hl => by obtain ⟨c1, c2, rfl⟩ := two_of hl; exact binds_K X rfl rfl rfl rfl rfl) (fun _ _ _ _ => .nil) (by decide) (by decide) rfl rfl rfl (fun _ => rfl) fun hC L hL => ?_
  simp only [locs, List.append_nil, List.cons_append, List.nil_append]
  repeat wtm_at "w1"
  refine (c_read_rows hK (lr hr rfl) hok.1 hok.2 (fun l hl => (hok.3 l hl).1) fun D H1 as e1 hD hl hn hrow => ?_).cl
  repeat wtm_at "w1"
  refine (c_logical_lines hK (lr hr rfl) (bs := ls.map bodyOf) hl (by simp [hn]) (by simpa using hok.2) (fun i a b ha hb => ?_) (fun b hb => ?_) fun D2 H2 as2 e2 hD2 hl2 hn2 hp2 => RetQ.now (h D2 H2 (e1.trans e2) ?_ ⟨as2, hl2, by simpa using hn2, fun i a t ha ht => ?_⟩)).cl
  · rw [List.getElem?_map] at hb
    obtain ⟨l, h1, rfl⟩ := Option.map_eq_some_iff.mp hb
    exact hrow i a l ha h1
  · obtain ⟨l, h1, rfl⟩ := List.mem_map.mp hb
    exact ⟨bodyOf_len l, (hok.3 l h1).2⟩
  · cases hq : H D2 with
    | none => rfl
    | some o => rw [e1 _ _ hq] at hD2; cases hD2
  · rw [List.getElem?_map] at ht
    obtain ⟨l, h1, rfl⟩ := Option.map_eq_some_iff.mp ht
    exact hp2 i a _ ha (by rw [List.getElem?_map, h1]; rfl)
theorem c_lines_of1 (hK : GK G) (hr : 14 ≤ r) {ls : List (List Nat)} (hok : RowsG ls) (h : ∀ D H', Ext H H' → H D = none → LinesAt H' D (ls.map fun l => rstripL 32 (bodyOf l)) → Q (.ref D) H') :
    CC G fs r (.ref 229) [.str (rowsOf ls)] H Q E := by
  refine FD (env := env229) (dvals := [.bool false]) (dcs := [.bool false]) hK (lq hr rfl) rfl rfl rfl rfl rfl (ps := ["text", "is_debugging"]) (fun s X cs hl => by obtain ⟨c1, rfl⟩ := one_of hl; exact binds_K X rfl rfl rfl rfl rfl) (fun _ _ _ _ => .cons (.bool _) .nil) (by decide) (by decide) rfl rfl rfl (fun _ => rfl) fun hC L hL => ?_
  simp only [locs, List.append_nil, List.cons_append, List.nil_append]
  repeat wtm_at "w1"
  refine (c_read_rows hK (lr hr rfl) hok.1 hok.2 (fun l hl => (hok.3 l hl).1) fun D H1 as e1 hD hl hn hrow => ?_).cl
  repeat wtm_at "w1"
  refine (c_logical_lines hK (lr hr rfl) (bs := ls.map bodyOf) hl (by simp [hn]) (by simpa using hok.2) (fun i a b ha hb => ?_) (fun b hb => ?_) fun D2 H2 as2 e2 hD2 hl2 hn2 hp2 => RetQ.now (h D2 H2 (e1.trans e2) ?_ ⟨as2, hl2, by simpa using hn2, fun i a t ha ht => ?_⟩)).cl
  · rw [List.getElem?_map] at hb
    obtain ⟨l, h1, rfl⟩ := Option.map_eq_some_iff.mp hb
    exact hrow i a l ha h1
  · obtain ⟨l, h1, rfl⟩ := List.mem_map.mp hb
    exact ⟨bodyOf_len l, (hok.3 l h1).2⟩
  · cases hq : H D2 with
    | none => rfl
    | some o => rw [e1 _ _ hq] at hD2; cases hD2
  · rw [List.getElem?_map] at ht
    obtain ⟨l, h1, rfl⟩ := Option.map_eq_some_iff.mp ht
    exact hp2 i a _ ha (by rw [List.getElem?_map, h1]; rfl)
end
end W10
section W11
open PySem PySem.W PyProof.Rows
set_option maxHeartbeats 2000000

section
variable {G : Ctx} {fs : List Env} {r : Nat} {H : AH} {Q : V → AH → Prop} {E : AH → Prop} {l : List Nat} {a dx w la : Addr}

theorem TokL.to5 {H H' : AH} {x : Addr} (e : ExtB x H H') (hx : ∀ dx fm, H x ≠ some (.inst 255 dx fm)) {as : List Addr} {ts : List (List Nat × List Nat)} (r : TokL H as ts) : TokL H' as ts :=
  r.mono fun a t q => by obtain ⟨dx, p, b, q⟩ := q; exact ⟨dx, p, b, e _ _ (fun z => hx _ _ (z ▸ q)) q⟩

abbrev walkF (la : Addr) (n : Nat) : List (Str × V) := [("tokens", .ref la), ("at", .int n)]
/-- a Walk, its tokens and where it stands -/
structure WalkAt (H : AH) (w dx la : Addr) (as : List Addr) (ts : List (List Nat × List Nat)) (n : Nat) : Prop where
  w : H w = some (.inst 469 dx (walkF la n))
  l : H la = some (.list (as.map .ref))
  t : TokL H as ts
  z : ts.length ≤ 1000000
theorem WalkAt.go {as : List Addr} {ts : List (List Nat × List Nat)} {n m : Nat} (h : WalkAt H w dx la as ts n) : WalkAt (upd H w (.inst 469 dx (walkF la m))) w dx la as ts m where
  w := upd_eq
  l := by rw [upd_ne (fun z => by have := h.l; rw [z, h.w] at this; cases this)]; exact h.l
  t := h.t.to5 ExtB.upd fun dx fm z => by rw [h.w] at z; cases z
  z := h.z
theorem WalkAt.ext {H' : AH} {as : List Addr} {ts : List (List Nat × List Nat)} {n : Nat} (h : WalkAt H w dx la as ts n) (e : Ext H H') : WalkAt H' w dx la as ts n := ⟨e _ _ h.w, e _ _ h.l, h.t.ext e, h.z⟩
theorem WalkAt.b {H' : AH} {D : Addr} {vs : List V} {as : List Addr} {ts : List (List Nat × List Nat)} {n : Nat} (h : WalkAt H w dx la as ts n) (hD : H D = some (.list vs)) (hne : la ≠ D) (e : ExtB D H H') : WalkAt H' w dx la as ts n :=
  ⟨e _ _ (fun z => by have := h.w; rw [z, hD] at this; cases this) h.w, e _ _ hne h.l, h.t.to5 e (fun dx fm z => by rw [hD] at z; cases z), h.z⟩

theorem c_Walk_init (hK : GK G) (hr : 1 ≤ r) (hx : H w = some (.inst 469 dx [])) (h : Q .none (upd H w (.inst 469 dx (walkF la 0)))) :
    CC G fs r (.ref 417) [.ref w, .ref la] H Q E := by
  refine FD (env := env417) (dvals := [.int 0]) (dcs := [.int 0 755]) hK (lq hr rfl) rfl rfl rfl rfl rfl (ps := ["self", "tokens", "at"]) (fun s X cs hl => by obtain ⟨c1, c2, rfl⟩ := two_of hl; exact binds_K X rfl rfl rfl rfl rfl) (fun _ _ _ _ => .cons (.int _ _) .nil) (by decide) (by decide) rfl rfl rfl (fun _ => rfl) fun hC L hL => ?_
  simp only [locs, List.append_nil, List.cons_append, List.nil_append]
  repeat wtm_at "w1"
  refine SaK hK hx (by simp) ?_ rfl rfl rfl rfl
  repeat wtm_at "w1"
  refine SaK hK upd_eq (Nat.le_of_ble_eq_true rfl) ?_ rfl rfl rfl rfl
  rw [upd_upd]
  repeat wtm_at "w1"
  exact RetQ.nil h
theorem c_Walk (hK : GK G) (hr : 6 ≤ r) {as : List Addr} {ts : List (List Nat × List Nat)} (hl : H la = some (.list (as.map .ref))) (ht : TokL H as ts) (hz : ts.length ≤ 1000000)
    (h : ∀ w dx H', Ext H H' → H w = none → WalkAt H' w dx la as ts 0 → Q (.ref w) H') : Cl G fs r (.ref 469) [.ref la] H Q E := by
  refine MakeK hK (lq hr rfl) (fun x dx hx hd hne => ?_) rfl rfl rfl
  refine c_Walk_init hK (by lia) upd_eq ⟨rfl, ?_⟩
  rw [upd_upd]
  have e : Ext H (upd (upd H dx (.aux x)) x (.inst 469 dx (walkF la 0))) := (Ext.upd hd).updT (by rw [upd_ne hne]; exact hx)
  exact h x dx _ e hx ⟨upd_eq, e _ _ hl, ht.ext e, hz⟩

variable {as : List Addr} {ts : List (List Nat × List Nat)} {n : Nat}
theorem c_is_done (hK : GK G) (hr : 1 ≤ r) (hw : WalkAt H w dx la as ts n) (h : Q (.bool (decide (ts.length ≤ n))) H) : CC G fs r (.ref 424) [.ref w] H Q E := by
  obtain ⟨hx, hl, ht, hz⟩ := hw
  have ha := ht.length
  refine FN (env := env424) hK (lq hr rfl) rfl rfl rfl rfl rfl (ps := ["self"]) (fun cs hl => by obtain ⟨c1, rfl⟩ := one_of hl; rfl) (by decide) (by decide) rfl rfl rfl (fun _ => rfl) fun hC L hL => ?_
  simp only [locs]
  repeat wtm_at "w1"
  refine Cl_len_list hl (by simp; lia) ?_
  repeat wtm_at "w1"
  refine RetQ.now ?_
  have : decide (((as.map V.ref).length : Int) ≤ (n : Int)) = decide (ts.length ≤ n) := by simp [ha]
  rw [this]; exact h
theorem c_peek (hK : GK G) (hr : 3 ≤ r) (hw : WalkAt H w dx la as ts n) (h : Q (match as[n]? with | some a => .ref a | none => .none) H) : CC G fs r (.ref 431) [.ref w] H Q E := by
  have hw0 := hw
  obtain ⟨hx, hl, ht, hz⟩ := hw
  have ha := ht.length
  refine FN (env := env431) hK (lq hr rfl) rfl rfl rfl rfl rfl (ps := ["self"]) (fun cs hl => by obtain ⟨c1, rfl⟩ := one_of hl; rfl) (by decide) (by decide) rfl rfl rfl (fun _ => rfl) fun hC L hL => ?_
  simp only [locs]
  repeat wtm_at "w1"
  refine (c_is_done hK (lr hr rfl) hw0 ?_).cl
  repeat wtm_at "w1"
  refine ite_b (fun h1 => ?_) fun h1 => ?_
  · have : as[n]? = none := List.getElem?_eq_none (by simp at h1; lia)
    rw [this] at h
    repeat wtm_at "w1"
    exact RetQ.now h
  · have hn : n < as.length := by simp at h1; lia
    rw [List.getElem?_eq_getElem hn] at h
    repeat wtm_at "w1"
    refine GetI_list hl (idx (by lia)) (n := n) (by simp) (v := .ref as[n]) (by simp [List.getElem?_eq_getElem hn]) ?_
    exact RetQ.now h
theorem TokL.at {as : List Addr} {ts : List (List Nat × List Nat)} {n : Nat} {a : Addr} (r : TokL H as ts) (e : as[n]? = some a) : ∃ t, ts[n]? = some t ∧ TokAt H a t := L2.get r e
theorem c_stands (hK : GK G) (hr : 5 ≤ r) {k v : List Nat} (hw : WalkAt H w dx la as ts n) (h : Q (.bool (decide (ts[n]? = some (k, v)))) H) : CC G fs r (.ref 438) [.ref w, .str k, .str v] H Q E := by
  have hw0 := hw
  refine byc fun hnn => ?_
  obtain ⟨hx, hl, ht, hz⟩ := hw
  refine hnn ?_; clear hnn
  have ha := ht.length
  refine FN (env := env438) hK (lq hr rfl) rfl rfl rfl rfl rfl (ps := ["self", "kind", "worth"]) (fun cs hl => by obtain ⟨c1, c2, c3, rfl⟩ := three_of hl; rfl) (by decide) (by decide) rfl rfl rfl (fun _ => rfl) fun hC L hL => ?_
  simp only [locs]
  repeat wtm_at "w1"
  refine (c_peek hK (lr hr rfl) hw0 ?_).cl
  cases hn : as[n]? with
  | none =>
    have : ts[n]? = none := List.getElem?_eq_none (by rw [← ha]; exact List.getElem?_eq_none_iff.mp hn)
    rw [this] at h
    repeat wtm_at "w1"
    refine ite_f rfl ?_
    exact RetQ.now h
  | some a =>
    refine byc fun hnn => ?_
    obtain ⟨⟨k', v'⟩, e, dx', p, b, q⟩ := ht.at hn
    refine hnn ?_; clear hnn
    rw [e] at h
    repeat wtm_at "w1"
    refine ite_t rfl ?_
    repeat wtm_at "w1"
    refine ite_b (fun h1 => ?_) fun h1 => ?_
    · repeat wtm_at "w1"
      have e1 : k' = k := by simpa using h1
      refine RetQ.now ?_
      have : (v' == v) = decide ((some (k', v') : Option (List Nat × List Nat)) = some (k, v)) := by simp only [Option.some.injEq, Prod.mk.injEq, e1, true_and]; exact Bool.eq_iff_iff.mpr (by simp)
      rw [this]; exact h
    · refine RetQ.now ?_
      have e1 : ¬ k' = k := by simpa using h1
      have : (k' == k) = decide ((some (k', v') : Option (List Nat × List Nat)) = some (k, v)) := by simp [e1]
      rw [this]; exact h
theorem c_skip (hK : GK G) (hr : 7 ≤ r) {k v : List Nat} (hw : WalkAt H w dx la as ts n) (h1 : ts[n]? = some (k, v) → Q (.bool true) (upd H w (.inst 469 dx (walkF la (n + 1))))) (h2 : ts[n]? ≠ some (k, v) → Q (.bool false) H) :
    CC G fs r (.ref 445) [.ref w, .str k, .str v] H Q E := by
  have hw0 := hw
  obtain ⟨hx, hl, ht, hz⟩ := hw
  refine FN (env := env445) hK (lq hr rfl) rfl rfl rfl rfl rfl (ps := ["self", "kind", "worth"]) (fun cs hl => by obtain ⟨c1, c2, c3, rfl⟩ := three_of hl; rfl) (by decide) (by decide) rfl rfl rfl (fun _ => rfl) fun hC L hL => ?_
  simp only [locs]
  repeat wtm_at "w1"
  refine (c_stands hK (lr hr rfl) hw0 ?_).cl
  repeat wtm_at "w1"
  refine ite_b (fun h3 => ?_) fun h3 => ?_
  · repeat wtm_at "w1"
    exact RetQ.now (h2 (by simpa using h3))
  · repeat wtm_at "w1"
    refine SaK hK hx (Nat.le_of_ble_eq_true rfl) ?_ rfl rfl rfl rfl
    repeat wtm_at "w1"
    exact RetQ.now (h1 (by simpa using h3))
theorem c_take (hK : GK G) (hr : 3 ≤ r) {what : V} (hw : WalkAt H w dx la as ts n) {x : Addr} (hn : as[n]? = some x) (h : Q (.ref x) (upd H w (.inst 469 dx (walkF la (n + 1))))) :
    CC G fs r (.ref 459) [.ref w, what] H Q E := by
  have hw0 := hw
  obtain ⟨hx, hl, ht, hz⟩ := hw
  have ha := ht.length
  have hlt := (List.getElem?_eq_some_iff.mp hn).1
  refine FN (env := env459) hK (lq hr rfl) rfl rfl rfl rfl rfl (ps := ["self", "what"]) (fun cs hl => by obtain ⟨c1, c2, rfl⟩ := two_of hl; rfl) (by decide) (by decide) rfl rfl rfl (fun _ => rfl) fun hC L hL => ?_
  simp only [locs]
  repeat wtm_at "w1"
  refine (c_is_done hK (lr hr rfl) hw0 ?_).cl
  repeat wtm_at "w1"
  refine ite_f (by simp; lia) ?_
  repeat wtm_at "w1"
  refine SaK hK hx (Nat.le_of_ble_eq_true rfl) ?_ rfl rfl rfl rfl
  have hw1 := hw0.go (m := n + 1)
  have hx1 := hw1.w
  repeat wtm_at "w1"
  refine GetI_list hw1.l ⟨by lia, by lia⟩ (n := n) (by lia) (v := .ref x) (by rw [List.getElem?_map, hn]; rfl) ?_
  exact RetQ.now h
theorem c_need (hK : GK G) (hr : 9 ≤ r) {k v : List Nat} {what : V} (hw : WalkAt H w dx la as ts n) (hn : ts[n]? = some (k, v)) (h : Q .none (upd H w (.inst 469 dx (walkF la (n + 1))))) :
    CC G fs r (.ref 466) [.ref w, .str k, .str v, what] H Q E := by
  have hw0 := hw
  obtain ⟨hx, hl, ht, hz⟩ := hw
  refine FN (env := env466) hK (lq hr rfl) rfl rfl rfl rfl rfl (ps := ["self", "kind", "worth", "what"]) (fun cs hl => by obtain ⟨c1, c2, c3, c4, rfl⟩ := four_of hl; rfl) (by decide) (by decide) rfl rfl rfl (fun _ => rfl) fun hC L hL => ?_
  simp only [locs]
  repeat wtm_at "w1"
  refine (c_skip hK (lr hr rfl) hw0 (fun _ => ?_) fun z => absurd hn z).cl
  repeat wtm_at "w1"
  refine ite_f rfl ?_
  repeat wtm_at "w1"
  exact RetQ.nil h
end
end W11
section W12
open PySem PySem.W PyProof.Rows
set_option maxHeartbeats 2000000

section
variable {G : Ctx} {fs : List Env} {r : Nat} {H : AH} {Q : V → AH → Prop} {E : AH → Prop} {l : List Nat} {a dx w la lo ln : Addr}

/-- a word in capital letters -/
def UW (w : List Nat) : Prop := (∀ c ∈ w, c < 128) ∧ w.length ≤ 1000 ∧ w.map up1 = w
abbrev wt (w : List Nat) : List Nat × List Nat := (kWord, w)
/-- a list of word tokens -/
def Wds (H : AH) (la : Addr) (ws : List (List Nat)) : Prop := A3 (Toks H la (ws.map wt)) (∀ w ∈ ws, UW w) (ws.length ≤ 100000)
theorem Wds.ext {H' : AH} {ws} (h : Wds H la ws) (e : Ext H H') : Wds H' la ws := ⟨by obtain ⟨⟨as, q1, q2⟩, _⟩ := h; exact ⟨as, e _ _ q1, q2.ext e⟩, h.2, h.3⟩
theorem Wds.b {H' : AH} {D : Addr} {vs : List V} {ws} (h : Wds H la ws) (hD : H D = some (.list vs)) (hne : la ≠ D) (e : ExtB D H H') : Wds H' la ws :=
  ⟨by obtain ⟨⟨as, q1, q2⟩, _⟩ := h; exact ⟨as, e _ _ hne q1, q2.to5 e fun dx fm z => by rw [hD] at z; cases z⟩, h.2, h.3⟩
theorem Wds.get {ws : List (List Nat)} {i : Nat} {x : List Nat} (h : Wds H la ws) (hi : ws[i]? = some x) : ∃ (as : List Addr) (a : Addr), H la = some (.list (as.map .ref)) ∧ as.length = ws.length ∧ as[i]? = some a ∧ TokAt H a (wt x) ∧ UW x := by
  refine byc fun hnn => ?_
  obtain ⟨⟨as, q1, q2⟩, q3, _⟩ := h
  refine hnn ?_; clear hnn
  obtain ⟨a, e1, e2⟩ := q2.get (i := i) (t := wt x) (by rw [List.getElem?_map, hi]; rfl)
  exact ⟨as, a, q1, by rw [q2.length]; simp, e1, e2, q3 _ (List.mem_of_getElem? hi)⟩

theorem c_token_key (hK : GK G) (hr : 1 ≤ r) {x : List Nat} (ht : TokAt H a (wt x)) (hu : UW x) (h : Q (.tup [.str kWord, .str x]) H) : CC G fs r (.ref 480) [.ref a] H Q E := by
  refine byc fun hnn => ?_
  obtain ⟨dx, p, b, hx⟩ := ht
  refine hnn ?_; clear hnn
  refine FN (env := env480) hK (lq hr rfl) rfl rfl rfl rfl rfl (ps := ["token"]) (fun cs hl => by obtain ⟨c1, rfl⟩ := one_of hl; rfl) (by decide) (by decide) rfl rfl rfl (fun _ => rfl) fun hC L hL => ?_
  simp only [locs]
  repeat wtm_at "w1"
  refine ite_f rfl ?_
  repeat wtm_at "w1"
  refine Mt_upper ?_
  repeat wtm_at "w1"
  refine Cl_upper hu.1 (by have := hu.2.1; rw [sz24]; show x.length ≤ _; lia) ?_
  repeat wtm_at "w1"
  refine ⟨by rw [sz24]; simp, ?_⟩
  rw [hu.2.2]
  exact RetQ.now h

def standsB (ws : List (List Nat)) (n : Nat) (os : List (List Nat)) : Bool := (ws.drop n).take os.length == os
theorem standsB_iff {ws os : List (List Nat)} {n : Nat} (h : n + os.length ≤ ws.length) : standsB ws n os = true ↔ ∀ i < os.length, ws[n + i]? = os[i]? := by
  unfold standsB
  rw [beq_iff_eq]
  constructor
  · intro e i hi
    have := congrArg (·[i]?) e
    simp only [List.getElem?_take, List.getElem?_drop, if_pos hi] at this
    exact this
  · intro e
    refine List.ext_getElem? fun i => ?_
    by_cases hi : i < os.length
    · simp only [List.getElem?_take, List.getElem?_drop, if_pos hi]; exact e i hi
    · simp only [List.getElem?_take, if_neg hi]; rw [List.getElem?_eq_none (by lia)]
theorem c_stands_at (hK : GK G) (hr : 3 ≤ r) {ws os : List (List Nat)} {n : Nat} (hw : Wds H la ws) (ho : Wds H lo os) (hn : n ≤ ws.length) (h : Q (.bool (standsB ws n os)) H) :
    CC G fs r (.ref 487) [.ref la, .int n, .ref lo] H Q E := by
  refine byc fun hnn => ?_
  obtain ⟨⟨as, q1, q2⟩, q3, q4⟩ := id hw
  refine hnn ?_; clear hnn
  refine byc fun hnn => ?_
  obtain ⟨⟨os', p1, p2⟩, p3, p4⟩ := id ho
  refine hnn ?_; clear hnn
  have z1 : as.length = ws.length := by rw [q2.length]; simp
  have z2 : os'.length = os.length := by rw [p2.length]; simp
  refine FN (env := env487) hK (lq hr rfl) rfl rfl rfl rfl rfl (ps := ["tokens", "at", "old"]) (fun cs hl => by obtain ⟨c1, c2, c3, rfl⟩ := three_of hl; rfl) (by decide) (by decide) rfl rfl rfl (fun _ => rfl) fun hC L hL => ?_
  simp only [locs]
  repeat wtm_at "w1"
  refine Cl_len_list p1 (by simp; lia) ?_
  repeat wtm_at "w1"
  refine Cl_len_list q1 (by simp; lia) ?_
  repeat wtm_at "w1"
  refine ite_b (fun h1 => ?_) fun h1 => ?_
  · have h1 : ws.length < n + os.length := by simp only [List.length_map, z1, z2, decide_eq_true_eq] at h1; lia
    repeat wtm_at "w1"
    have : standsB ws n os = false := by
      unfold standsB
      rw [beq_eq_false_iff_ne]
      intro e
      have := congrArg List.length e
      simp at this; lia
    rw [this] at h
    exact RetQ.now h
  · have h1 : n + os.length ≤ ws.length := by simp only [List.length_map, z1, z2, decide_eq_false_iff_not] at h1; lia
    repeat wtm_at "w1"
    refine Ex_For (L := L) rfl ?_
    refine Itb_range (nr hK) ?_ rfl rfl rfl rfl rfl
    repeat wtm_at "w1"
    refine Cl_len_list p1 (by simp; lia) ?_
    refine ⟨_, rfl, by simp; lia, fun i m' H' => A5 (H = H') (m' "tokens" = some (.ref la)) (m' "at" = some (.int n)) (m' "old" = some (.ref lo)) (∀ j < i, ws[n + j]? = os[j]?),
      ⟨⟨rfl, put_ne (by decide) (put_ne (by decide) put_eq), put_ne (by decide) put_eq, put_eq, fun j hj => by lia⟩, fun _ _ _ _ => trivial, fun i x m' H' B hB1 hB2 hB3 hB4 hx ⟨e, m1, m2, m3, q⟩ => ?_, fun m' H' ⟨e, m1, m2, m3, q⟩ => ?_⟩⟩
    · subst e
      obtain ⟨hi, rfl⟩ : i < os.length ∧ x = .int (i : Int) := by
        simp only [Src.items, List.getElem?_map, List.length_map] at hx
        refine byc fun hnn => ?_
        obtain ⟨k, h1, h2⟩ := Option.map_eq_some_iff.mp hx
        refine hnn ?_; clear hnn
        obtain ⟨h3, h4⟩ := List.getElem?_eq_some_iff.mp h1
        simp at h3 h4
        subst h4
        exact ⟨by lia, h2.symm⟩
      refine byc fun hnn => ?_
      obtain ⟨as1, a1, g1, g2, g3, g4, g5⟩ := hw.get (i := n + i) (List.getElem?_eq_getElem (by lia))
      refine hnn ?_; clear hnn
      refine byc fun hnn => ?_
      obtain ⟨as2, a2, k1, k2, k3, k4, k5⟩ := ho.get (i := i) (List.getElem?_eq_getElem hi)
      refine hnn ?_; clear hnn
      repeat wtm_at "w1"
      refine GetI_list g1 (idx (by lia)) (n := n + i) (by lia) (v := .ref a1) (by rw [List.getElem?_map, g3]; rfl) ?_
      repeat wtm_at "w1"
      refine (c_token_key hK (lr hr rfl) g4 g5 ?_).cl
      repeat wtm_at "w1"
      refine GetI_list k1 (idx (by lia)) (n := i) (by lia) (v := .ref a2) (by rw [List.getElem?_map, k3]; rfl) ?_
      repeat wtm_at "w1"
      refine (c_token_key hK (lr hr rfl) k4 k5 ?_).cl
      refine COp_ne_tup rfl rfl rfl ?_
      repeat wtm_at "w1"
      refine ite_b (fun h2 => ?_) fun h2 => ?_
      · repeat wtm_at "w1"
        have : standsB ws n os = false := by
          rw [Bool.eq_false_iff]
          intro z
          have := (standsB_iff h1).mp z i hi
          rw [List.getElem?_eq_getElem (by lia), List.getElem?_eq_getElem hi] at this
          simp [eqL_cons, eqL_nil, feq_str, Option.some.inj this] at h2
        rw [this] at h
        exact hB3 _ _ _ (RetQ.now h)
      · repeat wtm_at "w1"
        first | refine hB1 _ _ ?_ | refine hB2 _ _ ?_
        refine ⟨rfl, put_ne (by decide) m1, put_ne (by decide) m2, put_ne (by decide) m3, fun j hj => ?_⟩
        by_cases z : j = i
        · rw [z, List.getElem?_eq_getElem (by lia), List.getElem?_eq_getElem hi]
          simp [eqL_cons, eqL_nil, feq_str] at h2
          exact congrArg some h2
        · exact q j (by lia)
    · subst e
      repeat wtm_at "w1"
      have : standsB ws n os = true := (standsB_iff h1).mpr fun i hi => q i (by simp [Src.items]; lia)
      rw [this] at h
      exact RetQ.now h
end
end W12
section W13
open PySem PySem.W PyProof.Rows
set_option maxHeartbeats 2000000

section
variable {G : Ctx} {fs : List Env} {r : Nat} {H : AH} {Q : V → AH → Prop} {E : AH → Prop} {l : List Nat} {a dx w la lo ln : Addr}
abbrev Wp := List (List Nat) × List (List Nat)
/-- a pair of lists of words -/
def PrAt (H : AH) (v : V) (p : Wp) : Prop := (X2 fun o n => A3 (v = .tup [.ref o, .ref n]) (Wds H o p.1) (Wds H n p.2))
abbrev PrL (H : AH) : List V → List Wp → Prop := L2 (PrAt H)
theorem PrAt.ext {H' : AH} {v p} (h : PrAt H v p) (e : Ext H H') : PrAt H' v p := by
  obtain ⟨o, n, rfl, h1, h2⟩ := h; exact ⟨o, n, rfl, h1.ext e, h2.ext e⟩
theorem PrL.ext {H' : AH} (e : Ext H H') {vs ps} (r : PrL H vs ps) : PrL H' vs ps := r.mono fun a b q => q.ext e
theorem find_take {α : Type} {p : α → Bool} {l : List α} {i : Nat} (h : ∀ j < i, ∀ x, l[j]? = some x → p x = false) {x} (e : l[i]? = some x) (hp : p x = true) : l.find? p = some x := by
  induction l generalizing i with
  | nil => cases e
  | cons y r ih => cases i with
    | zero => cases e; rw [List.find?_cons, hp]
    | succ i =>
      rw [List.find?_cons, h 0 (Nat.succ_pos i) y rfl]
      exact ih (fun j hj x hx => h (j + 1) (Nat.succ_lt_succ hj) x hx) e
theorem c_first_pair (hK : GK G) (hr : 5 ≤ r) {ws : List (List Nat)} {vs : List V} {ps : List Wp} {n : Nat} (hw : Wds H la ws) (hn : n ≤ ws.length) (hl : H lo = some (.list vs)) (hp : PrL H vs ps)
    (h1 : ∀ v p, v ∈ vs → PrAt H v p → ps.find? (fun p => standsB ws n p.1) = some p → Q v H) (h2 : ps.find? (fun p => standsB ws n p.1) = none → Q .none H) :
    CC G fs r (.ref 494) [.ref la, .int n, .ref lo] H Q E := by
  refine FN (env := env494) hK (lq hr rfl) rfl rfl rfl rfl rfl (ps := ["tokens", "at", "pairs"]) (fun cs hl => by obtain ⟨c1, c2, c3, rfl⟩ := three_of hl; rfl) (by decide) (by decide) rfl rfl rfl (fun _ => rfl) fun hC L hL => ?_
  simp only [locs]
  repeat wtm_at "w1"
  refine Ex_For (L := L) rfl ?_
  refine Itb_list ?_
  repeat wtm_at "w1"
  refine ⟨lo, _, rfl, hl, ?_⟩
  refine ⟨fun i m' H' => A4 (H = H') (m' "tokens" = some (.ref la)) (m' "at" = some (.int n)) (∀ j < i, ∀ x, ps[j]? = some x → standsB ws n x.1 = false),
    ⟨⟨rfl, put_ne (by decide) (put_ne (by decide) put_eq), put_ne (by decide) put_eq, fun j hj => by lia⟩, fun i m' H' q => q.1 ▸ hl, fun i x m' H' B hB1 hB2 hB3 hB4 hx ⟨e, m1, m2, q⟩ => ?_, fun m' H' ⟨e, m1, m2, q⟩ => ?_⟩⟩
  · subst e
    obtain ⟨p, hpi, hpa⟩ := hp.get (i := i) (a := x) hx
    obtain ⟨o, nn, rfl, k1, k2⟩ := id hpa
    repeat wtm_at "w1"
    refine GetI_tup (n := 0) ⟨by decide, by decide⟩ rfl rfl ?_
    repeat wtm_at "w1"
    refine (c_stands_at hK (lr hr rfl) hw k1 hn ?_).cl
    repeat wtm_at "w1"
    refine ite_b (fun z => ?_) fun z => ?_
    · repeat wtm_at "w1"
      refine hB3 _ _ _ ?_
      exact RetQ.now (h1 _ _ (List.mem_of_getElem? hx) hpa (find_take q hpi z))
    · repeat wtm_at "w1"
      first | refine hB1 _ _ ?_ | refine hB2 _ _ ?_
      refine ⟨rfl, put_ne (by decide) m1, put_ne (by decide) m2, fun j hj x hxx => ?_⟩
      by_cases zz : j = i
      · rw [zz, hpi] at hxx; cases hxx; exact z
      · exact q j (by lia) x hxx
  · subst e
    repeat wtm_at "w1"
    refine RetQ.now (h2 (List.find?_eq_none.mpr fun x hx => ?_))
    obtain ⟨j, hj, hj2⟩ := List.mem_iff_getElem.mp hx
    have := q j (by simp only [Src.items]; rw [hp.length]; exact hj) x (by rw [List.getElem?_eq_getElem hj, hj2])
    simp [this]

theorem c_standing_in (hK : GK G) (hr : 8 ≤ r) {ws : List (List Nat)} {t : List Nat × List Nat} (hw : Wds H la ws) (ht : TokAt H a t) (h : ∀ D H', Ext H H' → H D = none → Wds H' D ws → Q (.ref D) H') :
    CC G fs r (.ref 501) [.ref la, .ref a] H Q E := by
  refine byc fun hnn => ?_
  obtain ⟨⟨as, q1, q2⟩, q3, q4⟩ := id hw
  refine hnn ?_; clear hnn
  have z1 : as.length = ws.length := by rw [q2.length]; simp
  refine byc fun hnn => ?_
  obtain ⟨dx, pp, b, hx⟩ := ht
  refine hnn ?_; clear hnn
  refine FN (env := env501) hK (lq hr rfl) rfl rfl rfl rfl rfl (ps := ["new", "first"]) (fun cs hl => by obtain ⟨c1, c2, rfl⟩ := two_of hl; rfl) (by decide) (by decide) rfl rfl rfl (fun _ => rfl) fun hC L hL => ?_
  simp only [locs]
  repeat wtm_at "w1"
  refine ⟨by rw [sz24]; simp, fun D hD => ?_⟩
  have laD : la ≠ D := fun z => by rw [z, hD] at q1; cases q1
  have aD : a ≠ D := fun z => by rw [z, hD] at hx; cases hx
  repeat wtm_at "w1"
  refine Ex_For (L := L) rfl ?_
  refine Itb_list ?_
  repeat wtm_at "w1"
  refine ⟨la, _, rfl, upd_of q1 hD, ?_⟩
  refine ⟨fun i m' H' => A4 (ExtB D H H') (m' "first" = some (.ref a)) (m' "found" = some (.ref D)) (∃ as' : List Addr, H' D = some (.list (as'.map .ref)) ∧ TokL H' as' ((ws.take i).map wt)),
    ⟨⟨(Ext.upd hD).b, put_ne (by decide) put_eq, put_eq, [], upd_eq, .nil⟩, fun i m' H' q => q.1 _ _ laD q1, fun i x m' H' B hB1 hB2 hB3 hB4 hx' ⟨e, m1, m2, as', g1, g2⟩ => ?_, fun m' H' ⟨e, m1, m2, as', g1, g2⟩ => ?_⟩⟩
  · obtain ⟨y, hy, rfl⟩ : ∃ y, as[i]? = some y ∧ x = .ref y := by
      simp only [Src.items, List.getElem?_map] at hx'
      refine byc fun hnn => ?_
      obtain ⟨a, h1, h2⟩ := Option.map_eq_some_iff.mp hx'
      refine hnn ?_; clear hnn
      exact ⟨a, h1, h2.symm⟩
    have hiw : i < ws.length := by rw [← z1]; exact (List.getElem?_eq_some_iff.mp hy).1
    refine byc fun hnn => ?_
    obtain ⟨t', ht', dy, py, by', ty⟩ := q2.at hy
    refine hnn ?_; clear hnn
    rw [List.getElem?_map, List.getElem?_eq_getElem hiw] at ht'
    cases ht'
    have ty' := e _ _ (fun z => by rw [z, hD] at ty; cases ty) ty
    have hx'' := e _ _ aD hx
    repeat wtm_at "w1"
    refine Mt_append g1 ?_
    repeat wtm_at "w1"
    refine ite_b (fun z => ?_) fun z => ?_
    all_goals
      repeat wtm_at "w1"
      try refine Cl_len_list g1 (by rw [List.length_map, g2.length, List.length_map, List.length_take]; lia) ?_
      repeat wtm_at "w1"
      refine c_Token hK (lr hr rfl) fun x dxx hxn hdn hxd => ?_
      generalize hH2 : upd (upd H' dxx (.aux x)) x (.inst 255 dxx (tokF _ _ (.tup [.int pp.1, .int pp.2]) _)) = H2
      have hx0 : upd H' dxx (.aux x) x = none := by rw [upd_ne hxd]; exact hxn
      have e1 : Ext H' H2 := hH2 ▸ (Ext.upd hdn).updT hx0
      have hla2 := e1 _ _ g1
      have hx2 : TokAt H2 x (wt ws[i]) := ⟨dxx, pp, _, hH2 ▸ upd_eq⟩
      repeat wtm_at "w1"
      refine Cl_append hla2 (by rw [sz24, List.length_map, g2.length, List.length_map, List.length_take]; lia) ?_
      repeat wtm_at "w1"
      first | refine hB1 _ _ ?_ | refine hB2 _ _ ?_
      refine ⟨e.trans (e1.b.trans ExtB.upd), put_ne (by decide) m1, put_ne (by decide) m2, as' ++ [x], by rw [upd_eq]; simp, ?_⟩
      rw [List.take_add_one, List.getElem?_eq_getElem hiw, List.map_append]
      exact TokL.to ExtB.upd (list_ne_inst hla2) ((g2.ext e1).append (.cons hx2 .nil))
  · repeat wtm_at "w1"
    refine RetQ.now (h D H' (fun b o hb => e b o (fun z => by rw [z, hD] at hb; cases hb) hb) hD ⟨⟨as', g1, ?_⟩, q3, q4⟩)
    simp only [Src.items, List.length_map] at g2
    rw [z1, List.take_length] at g2
    exact g2

/-- the exchanges of pairs over words -/
inductive Exch (ps : List Wp) : List (List Nat) → List (List Nat) → Prop
  | nil : Exch ps [] []
  | keep {w ws out} : ps.find? (fun p => standsB (w :: ws) 0 p.1) = none → Exch ps ws out → Exch ps (w :: ws) (w :: out)
  | swap {w ws out p} : ps.find? (fun p => standsB (w :: ws) 0 p.1) = some p → p.1 ≠ [] → Exch ps ((w :: ws).drop p.1.length) out → Exch ps (w :: ws) (p.2 ++ out)
theorem standsB_drop {ws os : List (List Nat)} {n : Nat} : standsB (ws.drop n) 0 os = standsB ws n os := by unfold standsB; simp
theorem ExtB.ext {D : Addr} {H' : AH} (hD : H D = none) (e : ExtB D H H') : Ext H H' := fun b o hb => e b o (fun z => by rw [z, hD] at hb; cases hb) hb
theorem Wds.push {ws : List (List Nat)} {as : List Addr} {x : List Nat} (h : Wds H la ws) (hl : H la = some (.list (as.map .ref))) (ha : TokAt H a (wt x)) (hu : UW x) (hz : (ws ++ [x]).length ≤ 100000) :
    Wds (upd H la (.list (as.map V.ref ++ [.ref a]))) la (ws ++ [x]) := by
  refine byc fun hnn => ?_
  obtain ⟨⟨as', q1, q2⟩, q3, q4⟩ := h
  refine hnn ?_; clear hnn
  rw [hl] at q1
  have e : as.map V.ref = as'.map .ref := by simpa using q1
  refine ⟨⟨as' ++ [a], by rw [upd_eq, e]; simp, ?_⟩, fun w hw => ?_, hz⟩
  · rw [List.map_append]
    exact TokL.to5 ExtB.upd (fun dx fm z => by rw [hl] at z; cases z) (q2.append (.cons ha .nil))
  · rcases List.mem_append.mp hw with z | z
    · exact q3 w z
    · cases List.mem_singleton.mp z; exact hu
theorem Wds.more {ws us : List (List Nat)} {as bs : List Addr} {lb : Addr} (h : Wds H la ws) (hl : H la = some (.list (as.map .ref))) (h' : Wds H lb us) (hl' : H lb = some (.list (bs.map .ref))) (hz : (ws ++ us).length ≤ 100000) :
    Wds (upd H la (.list (as.map V.ref ++ bs.map V.ref))) la (ws ++ us) := by
  refine byc fun hnn => ?_
  obtain ⟨⟨as', q1, q2⟩, q3, q4⟩ := h
  refine hnn ?_; clear hnn
  refine byc fun hnn => ?_
  obtain ⟨⟨bs', p1, p2⟩, p3, p4⟩ := h'
  refine hnn ?_; clear hnn
  rw [hl] at q1
  rw [hl'] at p1
  have e : as.map V.ref = as'.map .ref := by simpa using q1
  have e' : bs.map V.ref = bs'.map .ref := by simpa using p1
  refine ⟨⟨as' ++ bs', by rw [upd_eq, e, e']; simp, ?_⟩, fun w hw => ?_, hz⟩
  · rw [List.map_append]
    exact TokL.to5 ExtB.upd (fun dx fm z => by rw [hl] at z; cases z) (q2.append p2)
  · rcases List.mem_append.mp hw with z | z
    · exact q3 w z
    · exact p3 w z
theorem Wds.list {ws : List (List Nat)} (h : Wds H la ws) : ∃ as : List Addr, H la = some (.list (as.map .ref)) ∧ as.length = ws.length ∧ TokL H as (ws.map wt) := by
  refine byc fun hnn => ?_
  obtain ⟨⟨as, q1, q2⟩, _⟩ := h
  refine hnn ?_; clear hnn
  exact ⟨as, q1, by rw [q2.length]; simp, q2⟩
theorem Exch.ends {ps : List Wp} {ws o2 : List (List Nat)} {i : Nat} (h : Exch ps (ws.drop i) o2) (hi : ws.length ≤ i) : o2 = [] := by
  rw [List.drop_of_length_le hi] at h
  cases h; rfl
theorem Exch.kept {ps : List Wp} {ws o2 : List (List Nat)} {i : Nat} (h : Exch ps (ws.drop i) o2) (hil : i < ws.length) (hf : ps.find? (fun p => standsB ws i p.1) = none) : ∃ out', o2 = ws[i] :: out' ∧ Exch ps (ws.drop (i + 1)) out' := by
  have hxi : ws.drop i = ws[i] :: ws.drop (i + 1) := List.drop_eq_getElem_cons hil
  have hf' : ps.find? (fun p => standsB (ws[i] :: ws.drop (i + 1)) 0 p.1) = none := by rw [← hxi]; simp only [standsB_drop]; exact hf
  rw [hxi] at h
  cases h with
  | keep hk hr => exact ⟨_, rfl, hr⟩
  | swap hk hne hr => rw [hf'] at hk; cases hk
theorem Exch.swapped {ps : List Wp} {ws o2 : List (List Nat)} {i : Nat} {p : Wp} (h : Exch ps (ws.drop i) o2) (hil : i < ws.length) (hf : ps.find? (fun p => standsB ws i p.1) = some p) :
    ∃ out', o2 = p.2 ++ out' ∧ Exch ps (ws.drop (i + p.1.length)) out' ∧ i + p.1.length ≤ ws.length ∧ 1 ≤ p.1.length := by
  have hxi : ws.drop i = ws[i] :: ws.drop (i + 1) := List.drop_eq_getElem_cons hil
  have hf' : ps.find? (fun p => standsB (ws[i] :: ws.drop (i + 1)) 0 p.1) = some p := by rw [← hxi]; simp only [standsB_drop]; exact hf
  have hs := List.find?_some hf
  rw [hxi] at h
  cases h with
  | keep hk hr => rw [hf'] at hk; cases hk
  | @swap w ws' out' p' hk hne hr =>
    rw [hf'] at hk; cases hk
    refine ⟨out', rfl, by rw [← List.drop_drop, hxi]; exact hr, ?_, List.length_pos_iff.mpr hne⟩
    have := congrArg List.length (beq_iff_eq.mp hs)
    rw [List.length_take, List.length_drop] at this
    lia
theorem c_substituted (hK : GK G) (hr : 10 ≤ r) {ws out : List (List Nat)} {vs : List V} {ps : List Wp} (hw : Wds H la ws) (hl : H lo = some (.list vs)) (hp : PrL H vs ps) (hx : Exch ps ws out) (hz : out.length ≤ 100000)
    (h : ∀ D H', Ext H H' → H D = none → Wds H' D out → Q (.ref D) H') :
    CC G fs r (.ref 508) [.ref la, .ref lo] H Q E := by
  refine byc fun hnn => ?_
  obtain ⟨⟨as, q1, q2⟩, q3, q4⟩ := id hw
  refine hnn ?_; clear hnn
  have z1 : as.length = ws.length := by rw [q2.length]; simp
  refine FN (env := env508) hK (lq hr rfl) rfl rfl rfl rfl rfl (ps := ["tokens", "pairs"]) (fun cs hl => by obtain ⟨c1, c2, rfl⟩ := two_of hl; rfl) (by decide) (by decide) rfl rfl rfl (fun _ => rfl) fun hC L hL => ?_
  simp only [locs]
  repeat wtm_at "w1"
  refine ⟨by rw [sz24]; simp, fun D hD => ?_⟩
  have laD : la ≠ D := fun z => by rw [z, hD] at q1; cases q1
  have loD : lo ≠ D := fun z => by rw [z, hD] at hl; cases hl
  repeat wtm_at "w1"
  refine Ex_While (L := L) rfl (fun k m' H' => ExtB D H H' ∧ (X3 fun i o1 o2 => A9 (k = ws.length - i) (i ≤ ws.length) (m' "tokens" = some (.ref la)) (m' "pairs" = some (.ref lo)) (m' "found" = some (.ref D)) (m' "at" = some (.int (i : Nat))) (Exch ps (ws.drop i) o2) (out = o1 ++ o2) (Wds H' D o1))) ?_ _
    ⟨(Ext.upd hD).b, 0, [], out, rfl, Nat.zero_le _, put_ne (by decide) (put_ne (by decide) (put_ne (by decide) put_eq)), put_ne (by decide) (put_ne (by decide) put_eq), put_ne (by decide) put_eq, put_eq, hx, rfl, ⟨[], upd_eq, .nil⟩, by simp, by simp⟩
  rintro k m' H' B hB1 hB2 hB3 hB4 hqq
  refine byc fun hnn => ?_
  obtain ⟨eB, i, o1, o2, hk, hi, m1, m2, m3, m4, hex, hout, hD'⟩ := hqq
  refine hnn ?_; clear hnn
  have q1' := eB _ _ laD q1
  have e := eB.ext hD
  have hl' := e _ _ hl
  repeat wtm_at "w1"
  refine Cl_len_list q1' (by simp; lia) ?_
  repeat wtm_at "w1"
  refine ite_b (fun h1 => ?_) fun h1 => ?_
  · have hil : i < ws.length := by simp [z1] at h1; exact h1
    refine byc fun hnn => ?_
    obtain ⟨as1, a1, g1, g2, g3, g4, g5⟩ := (hw.ext e).get (i := i) (List.getElem?_eq_getElem hil)
    refine hnn ?_; clear hnn
    repeat wtm_at "w1"
    refine (c_first_pair hK (lr hr rfl) (hw.ext e) (by lia) hl' (hp.ext e) (fun v p hv hpa hf => ?_) fun hf => ?_).cl
    · obtain ⟨o, nn, rfl, k1, k2⟩ := hpa
      have oD : o ≠ D := by
        refine byc fun hnn => ?_
        obtain ⟨j, hj, hj2⟩ := List.mem_iff_getElem.mp hv
        refine hnn ?_; clear hnn
        refine byc fun hnn => ?_
        obtain ⟨p', _, o', n', hv', k1', _⟩ := hp.get (i := j) (by rw [List.getElem?_eq_getElem hj, hj2])
        refine hnn ?_; clear hnn
        cases hv'
        refine byc fun hnn => ?_
        obtain ⟨as', z', _⟩ := k1'.list
        refine hnn ?_; clear hnn
        intro z; rw [z, hD] at z'; cases z'
      repeat wtm_at "w1"
      refine ite_f rfl ?_
      refine byc fun hnn => ?_
      obtain ⟨ds, d1, d2, d3⟩ := hD'.list
      refine hnn ?_; clear hnn
      repeat wtm_at "w1"
      refine Mt_extend d1 ?_
      repeat wtm_at "w1"
      refine GetI_tup (n := 1) ⟨by decide, by decide⟩ rfl rfl ?_
      repeat wtm_at "w1"
      refine GetI_list g1 (idx (by lia)) (n := i) (by lia) (v := .ref a1) (by rw [List.getElem?_map, g3]; rfl) ?_
      repeat wtm_at "w1"
      refine (c_standing_in hK (lr hr rfl) k2 g4 fun D2 H2 e2 hD2 w2 => ?_).cl
      repeat wtm_at "w1"
      refine byc fun hnn => ?_
      obtain ⟨bs, b1, b2, b3⟩ := w2.list
      refine hnn ?_; clear hnn
      refine byc fun hnn => ?_
      obtain ⟨out', ho, hr', hsz, hp1⟩ := hex.swapped hil hf
      refine hnn ?_; clear hnn
      have hzz : (o1 ++ p.2).length ≤ 100000 := by rw [hout, ho, ← List.append_assoc, List.length_append] at hz; exact Nat.le_of_add_right_le hz
      refine Cl_extend (e2 _ _ d1) b1 (by rw [sizeLine]; rw [List.length_map, List.length_map, d2, b2, ← List.length_append]; lia) ?_
      repeat wtm_at "w1"
      refine GetI_tup (n := 0) ⟨by decide, by decide⟩ rfl rfl ?_
      repeat wtm_at "w1"
      refine byc fun hnn => ?_
      obtain ⟨oo, p1, p2, _⟩ := k1.list
      refine hnn ?_; clear hnn
      refine Cl_len_list (vs := oo.map .ref) (by rw [upd_ne oD]; exact e2 _ _ p1) (by simp [p2]; lia) ?_
      repeat wtm_at "w1"
      rw [List.length_map, p2]
      first | refine hB1 _ _ ?_ | refine hB2 _ _ ?_
      refine ⟨ws.length - (i + p.1.length), by lia, eB.trans (e2.b.trans ExtB.upd), i + p.1.length, o1 ++ p.2, out', rfl, hsz, put_ne (by decide) (put_ne (by decide) m1), put_ne (by decide) (put_ne (by decide) m2), put_ne (by decide) (put_ne (by decide) m3), put_eq, hr', by rw [hout, ho, List.append_assoc], (hD'.ext e2).more (e2 _ _ d1) w2 b1 hzz⟩
    · repeat wtm_at "w1"
      refine ite_t rfl ?_
      refine byc fun hnn => ?_
      obtain ⟨ds, d1, d2, d3⟩ := hD'.list
      refine hnn ?_; clear hnn
      repeat wtm_at "w1"
      refine Mt_append d1 ?_
      repeat wtm_at "w1"
      refine GetI_list g1 (idx (by lia)) (n := i) (by lia) (v := .ref a1) (by rw [List.getElem?_map, g3]; rfl) ?_
      repeat wtm_at "w1"
      refine byc fun hnn => ?_
      obtain ⟨out', ho, hr'⟩ := hex.kept hil hf
      refine hnn ?_; clear hnn
      have hzz : (o1 ++ [ws[i]]).length ≤ 100000 := by rw [hout, ho, List.append_cons, List.length_append] at hz; exact Nat.le_of_add_right_le hz
      refine Cl_append d1 (by rw [sz24]; rw [List.length_map, d2]; rw [List.length_append] at hzz; lia) ?_
      repeat wtm_at "w1"
      first | refine hB1 _ _ ?_ | refine hB2 _ _ ?_
      refine ⟨_, by lia, eB.trans ExtB.upd, i + 1, o1 ++ [ws[i]], out', rfl, hil, put_ne (by decide) (put_ne (by decide) m1), put_ne (by decide) (put_ne (by decide) m2), put_ne (by decide) (put_ne (by decide) m3), put_eq, hr', by rw [hout, ho, List.append_assoc]; rfl, hD'.push d1 g4 g5 hzz⟩
  · have hd : ws.length ≤ i := by simp [z1] at h1; exact h1
    repeat wtm_at "w1"
    exact RetQ.now (h D H' e hD (by rw [hout, hex.ends hd, List.append_nil]; exact hD'))
end
end W13
section W14
open PySem PySem.W PyProof.Rows
set_option maxHeartbeats 2000000

section
variable {G : Ctx} {fs : List Env} {r : Nat} {H : AH} {Q : V → AH → Prop} {E : AH → Prop} {l : List Nat} {a dx w la lo ln : Addr} {as : List Addr} {ts : List (List Nat × List Nat)} {n : Nat}
abbrev Tk := List Nat × List Nat
abbrev tPs : Tk := (kPseudo, [61, 61])
abbrev COPYw : List Nat := [67, 79, 80, 89]
theorem Wds.bw {H' : AH} {fm} {ws} (h : Wds H la ws) (hw : H w = some (.inst 469 dx fm)) (e : ExtB w H H') : Wds H' la ws :=
  ⟨by obtain ⟨⟨as, q1, q2⟩, _⟩ := h; exact ⟨as, e _ _ (fun z => by rw [z, hw] at q1; cases q1) q1, q2.to5 e fun dx fm z => by rw [hw] at z; cases z⟩, h.2, h.3⟩
theorem WalkAt.tok {t : Tk} (h : WalkAt H w dx la as ts n) (ht : ts[n]? = some t) : ∃ x, as[n]? = some x ∧ TokAt H x t := h.t.get ht
theorem TokAt.bw {H' : AH} {fm} {x : Addr} {t : Tk} (h : TokAt H x t) (hw : H w = some (.inst 469 dx fm)) (e : ExtB w H H') : TokAt H' x t := by
  refine byc fun hnn => ?_
  obtain ⟨d, p, b, q⟩ := h
  refine hnn ?_; clear hnn
  exact ⟨d, p, b, e _ _ (fun z => by rw [z, hw] at q; cases q) q⟩
theorem drop_at {α : Type} {l : List α} {n k : Nat} {xs ys : List α} (h : l.drop n = xs ++ ys) (hk : k < xs.length) : l[n + k]? = some xs[k] := by
  have := congrArg (·[k]?) h
  simp only [List.getElem?_drop] at this
  rw [this, List.getElem?_append_left hk, List.getElem?_eq_getElem hk]
theorem drop_past {α : Type} {l : List α} {n : Nat} {xs ys : List α} (h : l.drop n = xs ++ ys) : l.drop (n + xs.length) = ys := by
  rw [← List.drop_drop, h, List.drop_left]

theorem c_read_pseudo (hK : GK G) (hr : 11 ≤ r) {ws : List (List Nat)} {rest : List Tk} (hw : WalkAt H w dx la as ts n) (hd : ts.drop n = tPs :: (ws.map wt ++ tPs :: rest)) (hu : ∀ x ∈ ws, UW x ∧ x ≠ COPYw) (hz : ws.length ≤ 100000)
    (h : ∀ D H', ExtB w H H' → H D = none → Wds H' D ws → WalkAt H' w dx la as ts (n + (ws.length + 2)) → Q (.ref D) H') : CC G fs r (.ref 515) [.ref w] H Q E := by
  have h0 : ts[n]? = some tPs := by simpa using drop_at (k := 0) (xs := [tPs]) hd (by simp)
  have hd1 : ts.drop (n + 1) = ws.map wt ++ tPs :: rest := drop_past (xs := [tPs]) hd
  have hx := hw.w
  refine FN (env := env515) hK (lq hr rfl) rfl rfl rfl rfl rfl (ps := ["walk"]) (fun cs hl => by obtain ⟨c1, rfl⟩ := one_of hl; rfl) (by decide) (by decide) rfl rfl rfl (fun _ => rfl) fun hC L hL => ?_
  simp only [locs]
  repeat wtm_at "w1"
  refine (c_need hK (lr hr rfl) hw h0 ?_).cl
  have hw1 := hw.go (m := n + 1)
  have hx1 := hw1.w
  have e1 : ExtB w H (upd H w (.inst 469 dx (walkF la (n + 1)))) := ExtB.upd
  generalize upd H w (.inst 469 dx (walkF la (n + 1))) = H1 at hw1 hx1 e1
  repeat wtm_at "w1"
  refine ⟨by rw [sz24]; simp, fun D hD => ?_⟩
  have hD0 : H D = none := by
    cases hq : H D with
    | none => rfl
    | some o =>
      by_cases z : D = w
      · rw [z, hx1] at hD; cases hD
      · rw [e1 _ _ z hq] at hD; cases hD
  have laD : la ≠ D := fun z => by have := hw1.l; rw [z, hD] at this; cases this
  have wD : w ≠ D := fun z => by rw [z, hD] at hx1; cases hx1
  repeat wtm_at "w1"
  refine Ex_While (L := L) rfl (fun k m' H' => A4 (ExtB w H H') (m' "walk" = some (.ref w)) (m' "found" = some (.ref D)) (∃ i, A4 (k = ws.length - i) (i ≤ ws.length) (Wds H' D (ws.take i)) (WalkAt H' w dx la as ts (n + 1 + i)))) ?_ _
    ⟨e1.trans (Ext.upd hD).b, put_ne (by decide) put_eq, put_eq, 0, rfl, Nat.zero_le _, ⟨⟨[], upd_eq, .nil⟩, by simp, by simp⟩, hw1.ext (Ext.upd hD)⟩
  rintro k m' H' B hB1 hB2 hB3 hB4 hqq
  refine byc fun hnn => ?_
  obtain ⟨eB, m1, m2, i, hk, hi, hD', hw'⟩ := hqq
  refine hnn ?_; clear hnn
  have hx' := hw'.w
  repeat wtm_at "w1"
  refine (c_stands hK (lr hr rfl) hw' ?_).cl
  repeat wtm_at "w1"
  by_cases hil : i < ws.length
  · have hti : ts[n + 1 + i]? = some (wt ws[i]) := by
      have := drop_at (k := i) hd1 (by simpa using hil)
      simpa using this
    refine byc fun hnn => ?_
    obtain ⟨x, hx2, hx3⟩ := hw'.tok hti
    refine hnn ?_; clear hnn
    refine ite_t (by rw [hti]; simp; exact .inl (by decide)) ?_
    repeat wtm_at "w1"
    refine (c_take hK (lr hr rfl) hw' hx2 ?_).cl
    have hw2 := hw'.go (m := n + 1 + i + 1)
    have e2 : ExtB w H' (upd H' w (.inst 469 dx (walkF la (n + 1 + i + 1)))) := ExtB.upd
    have hD2 := hD'.bw hx' e2
    have hx3' := hx3.bw hx' e2
    generalize upd H' w (.inst 469 dx (walkF la (n + 1 + i + 1))) = H2 at hw2 e2 hD2 hx3'
    refine byc fun hnn => ?_
    obtain ⟨d, p, b, hq⟩ := id hx3'
    refine hnn ?_; clear hnn
    obtain ⟨u1, u2⟩ := hu _ (List.getElem_mem hil)
    repeat wtm_at "w1"
    refine ite_t rfl ?_
    repeat wtm_at "w1"
    refine ite_f (by rw [beq_eq_false_iff_ne]; exact u2) ?_
    repeat wtm_at "w1"
    refine ite_f rfl ?_
    refine byc fun hnn => ?_
    obtain ⟨ds, d1, d2, d3⟩ := hD2.list
    refine hnn ?_; clear hnn
    repeat wtm_at "w1"
    refine Mt_append d1 ?_
    repeat wtm_at "w1"
    refine Cl_append d1 (by rw [sz24, List.length_map, d2, List.length_take]; lia) ?_
    repeat wtm_at "w1"
    first | refine hB1 _ _ ?_ | refine hB2 _ _ ?_
    refine ⟨ws.length - (i + 1), by lia, (fun b o nb hb => by rw [upd_ne (fun z => by rw [z, hD0] at hb; cases hb)]; exact e2 b o nb (eB b o nb hb)), put_ne (by decide) m1, put_ne (by decide) m2, i + 1, rfl, hil, ?_, hw2.b d1 laD ExtB.upd⟩
    have := hD2.push d1 hx3' u1 (by simp; lia)
    rw [List.take_add_one, List.getElem?_eq_getElem hil]
    exact this
  · have : i = ws.length := by lia
    clear hk hB1 hB2 hi hil; subst this
    have hti : ts[n + 1 + ws.length]? = some tPs := by
      have h2 : ts.drop (n + 1 + (ws.map wt).length) = [tPs] ++ rest := drop_past hd1
      have := drop_at (k := 0) h2 (by simp)
      simpa using this
    refine ite_f (by rw [hti]; rfl) ?_
    repeat wtm_at "w1"
    refine SaK hK hx' (Nat.le_of_ble_eq_true rfl) ?_ rfl rfl rfl rfl
    have hw2 := hw'.go (m := n + 1 + ws.length + 1)
    have hD2 := hD'.bw hx' (ExtB.upd (o := .inst 469 dx (walkF la (n + 1 + ws.length + 1))))
    repeat wtm_at "w1"
    rw [List.take_length] at hD2
    refine RetQ.now (h D _ (eB.trans ExtB.upd) hD0 hD2 ?_)
    rw [show n + (ws.length + 2) = n + 1 + ws.length + 1 by lia]
    exact hw2
end
end W14
section W15
open PySem PySem.W PyProof.Rows
set_option maxHeartbeats 2000000

section
variable {G : Ctx} {fs : List Env} {r : Nat} {H : AH} {Q : V → AH → Prop} {E : AH → Prop} {l : List Nat} {a dx w la lo ln : Addr} {as : List Addr} {ts : List (List Nat × List Nat)} {n : Nat}
/-- the tokens of one side of a pair -/
inductive SideT : List Tk → List (List Nat) → Prop
  | bare {x} : UW x → SideT [wt x] [x]
  | pseudo {ws} : (∀ x ∈ ws, UW x ∧ x ≠ COPYw) → ws.length ≤ 1000 → SideT (tPs :: (ws.map wt ++ [tPs])) ws
abbrev BYw : List Nat := [66, 89]
inductive PairT : List Tk → Wp → Prop
  | mk {s1 s2 p} : SideT s1 p.1 → SideT s2 p.2 → p.1 ≠ [] → PairT (s1 ++ wt BYw :: s2) p
inductive PairsT : List Tk → List Wp → Prop
  | nil : PairsT [] []
  | cons {t p ts ps} : PairT t p → PairsT ts ps → PairsT (t ++ ts) (p :: ps)
theorem ExtB.nn {D : Addr} {H' : AH} (e : ExtB w H H') (hw : H w = some (.inst 469 dx (walkF la n))) (hw' : H' w ≠ none) (hD : H' D = none) : H D = none := by
  cases hq : H D with
  | none => rfl
  | some o =>
    by_cases z : D = w
    · rw [z] at hD; exact absurd hD hw'
    · rw [e _ _ z hq] at hD; cases hD

theorem c_read_side (hK : GK G) (hr : 13 ≤ r) {ws : List (List Nat)} {sd rest : List Tk} (hw : WalkAt H w dx la as ts n) (hd : ts.drop n = sd ++ rest) (hs : SideT sd ws)
    (h : ∀ D H', ExtB w H H' → H D = none → Wds H' D ws → WalkAt H' w dx la as ts (n + sd.length) → Q (.ref D) H') : CC G fs r (.ref 522) [.ref w] H Q E := by
  have hx0 := hw.w
  refine FN (env := env522) hK (lq hr rfl) rfl rfl rfl rfl rfl (ps := ["walk"]) (fun cs hl => by obtain ⟨c1, rfl⟩ := one_of hl; rfl) (by decide) (by decide) rfl rfl rfl (fun _ => rfl) fun hC L hL => ?_
  simp only [locs]
  repeat wtm_at "w1"
  refine (c_stands hK (lr hr rfl) hw ?_).cl
  repeat wtm_at "w1"
  cases hs with
  | @pseudo ws hu hz =>
    have h0 : ts[n]? = some tPs := by simpa using drop_at (k := 0) hd (by simp)
    refine ite_t (by rw [h0]; rfl) ?_
    repeat wtm_at "w1"
    refine (c_read_pseudo hK (lr hr rfl) hw (rest := rest) (by rw [hd]; simp) hu (by lia) fun D H' e hD hD' hw' => RetQ.now (h D H' e hD hD' ?_)).cl
    simpa using hw'
  | @bare x hu =>
    have h0 : ts[n]? = some (wt x) := by simpa using drop_at (k := 0) hd (by simp)
    refine byc fun hnn => ?_
    obtain ⟨y, hy, hy2⟩ := hw.tok h0
    refine hnn ?_; clear hnn
    have hx := hw.w
    refine ite_f (by rw [h0]; simp; exact fun z => absurd z (by decide)) ?_
    repeat wtm_at "w1"
    refine (c_take hK (lr hr rfl) hw hy ?_).cl
    have hw2 := hw.go (m := n + 1)
    have e2 : ExtB w H (upd H w (.inst 469 dx (walkF la (n + 1)))) := ExtB.upd
    have hy3 := hy2.bw hx e2
    generalize upd H w (.inst 469 dx (walkF la (n + 1))) = H2 at hw2 e2 hy3
    refine byc fun hnn => ?_
    obtain ⟨d, p, b, hq⟩ := id hy3
    refine hnn ?_; clear hnn
    repeat wtm_at "w1"
    refine ⟨by rw [sz24]; simp, COp_notin_tup (ks := [kWord, [110, 117, 109, 98, 101, 114], kLit]) ?_⟩
    repeat wtm_at "w1"
    refine ite_f rfl ?_
    repeat wtm_at "w1"
    refine ⟨by rw [sz24]; simp, fun D hD => ?_⟩
    have hD0 := e2.nn hx (by rw [hw2.w]; simp) hD
    refine RetQ.now (h D _ (e2.trans (Ext.upd hD).b) hD0 ⟨⟨[y], upd_eq, .cons ?_ .nil⟩, by simpa using hu, by simp⟩ (hw2.ext (Ext.upd hD)))
    exact ⟨d, p, b, Ext.upd hD _ _ hq⟩

theorem c_read_pair (hK : GK G) (hr : 15 ≤ r) {p : Wp} {pt rest : List Tk} (hw : WalkAt H w dx la as ts n) (hd : ts.drop n = pt ++ rest) (hp : PairT pt p)
    (h : ∀ v H', ExtB w H H' → PrAt H' v p → WalkAt H' w dx la as ts (n + pt.length) → Q v H') : CC G fs r (.ref 529) [.ref w, .ref 522] H Q E := by
  refine byc fun hnn => ?_
  obtain ⟨h1, h2, hne⟩ := hp
  refine hnn ?_; clear hnn
  rename_i s1 s2
  have hx := hw.w
  refine FN (env := env529) hK (lq hr rfl) rfl rfl rfl rfl rfl (ps := ["walk", "read"]) (fun cs hl => by obtain ⟨c1, c2, rfl⟩ := two_of hl; rfl) (by decide) (by decide) rfl rfl rfl (fun _ => rfl) fun hC L hL => ?_
  simp only [locs]
  repeat wtm_at "w1"
  refine (c_read_side hK (lr hr rfl) hw (rest := wt BYw :: (s2 ++ rest)) (by rw [hd]; simp) h1 fun D H1 e1 hD hD1 hw1 => ?_).cl
  refine byc fun hnn => ?_
  obtain ⟨ds, d1, d2, d3⟩ := hD1.list
  refine hnn ?_; clear hnn
  repeat wtm_at "w1"
  refine ⟨by rw [sz24]; simp, fun D2 hD2 => ?_⟩
  have d1' := Ext.upd (o := .list []) hD2 _ _ d1
  refine COp_eq_list d1' upd_eq (.inr rfl) rfl ?_
  repeat wtm_at "w1"
  refine ite_f ?_ ?_
  · cases ds with
    | nil => exact absurd (List.eq_nil_of_length_eq_zero d2.symm) hne
    | cons _ _ => rfl
  have hd2 : ts.drop (n + s1.length) = [wt BYw] ++ (s2 ++ rest) := drop_past (by rw [hd]; simp)
  have hby : ts[n + s1.length]? = some (wt BYw) := by simpa using drop_at (k := 0) hd2 (by simp)
  have hd3 : ts.drop (n + s1.length + 1) = s2 ++ rest := drop_past hd2
  have eD2 := Ext.upd (o := .list []) hD2
  have hw1' := hw1.ext eD2
  have hD1' := hD1.ext eD2
  have e1' : ExtB w H _ := e1.trans eD2.b
  generalize upd H1 D2 (.list []) = H1 at hw1' hD1' e1'
  have hx1 := hw1'.w
  repeat wtm_at "w1"
  refine (c_need hK (lr hr rfl) hw1' hby ?_).cl
  have hw2 := hw1'.go (m := n + s1.length + 1)
  have e2 : ExtB w H1 (upd H1 w (.inst 469 dx (walkF la (n + s1.length + 1)))) := ExtB.upd
  have hD2' := hD1'.bw hw1'.w e2
  generalize upd H1 w (.inst 469 dx (walkF la (n + s1.length + 1))) = H2 at hw2 e2 hD2'
  repeat wtm_at "w1"
  refine (c_read_side hK (lr hr rfl) hw2 hd3 h2 fun D3 H3 e3 hD3 hD3' hw3 => ?_).cl
  repeat wtm_at "w1"
  refine ⟨by rw [sz24]; simp, RetQ.now (h _ H3 (e1'.trans (e2.trans e3)) ⟨D, D3, rfl, hD2'.bw hw2.w e3, hD3'⟩ ?_)⟩
  rw [show n + (s1 ++ wt BYw :: s2).length = n + s1.length + 1 + s2.length by simp; lia]
  exact hw3
end
end W15
section W16
open PySem PySem.W PyProof.Rows
set_option maxHeartbeats 2000000

section
variable {G : Ctx} {fs : List Env} {r : Nat} {H : AH} {Q : V → AH → Prop} {E : AH → Prop} {l : List Nat} {a dx w la lo ln : Addr} {as : List Addr} {ts : List (List Nat × List Nat)} {n : Nat}
abbrev tDot : Tk := (kSign, [46])
theorem PrAt.bw {H' : AH} {fm} {v p} (h : PrAt H v p) (hw : H w = some (.inst 469 dx fm)) (e : ExtB w H H') : PrAt H' v p := by
  obtain ⟨o, n, rfl, h1, h2⟩ := h; exact ⟨o, n, rfl, h1.bw hw e, h2.bw hw e⟩
theorem PrL.bw {H' : AH} {fm} (hw : H w = some (.inst 469 dx fm)) (e : ExtB w H H') {vs ps} (r : PrL H vs ps) : PrL H' vs ps := r.mono fun a b q => q.bw hw e
theorem SideT.head {t : List Tk} {ws} (h : SideT t ws) : ∃ x r, t = x :: r ∧ x ≠ tDot := by
  cases h with
  | bare _ => exact ⟨_, _, rfl, fun z => absurd (show kWord = kSign from congrArg Prod.fst z) (by decide)⟩
  | pseudo _ _ => exact ⟨_, _, rfl, by decide⟩
theorem PairT.head {t : List Tk} {p} (h : PairT t p) : ∃ x r, t = x :: r ∧ x ≠ tDot := by
  obtain ⟨h1, h2, _⟩ := h
  obtain ⟨x, r, rfl, hx⟩ := h1.head
  exact ⟨x, _, rfl, hx⟩
theorem PairT.len {t : List Tk} {p} (h : PairT t p) : 1 ≤ t.length := by
  obtain ⟨x, r, rfl, _⟩ := h.head
  simp
theorem Wds.ne_tup {D : Addr} {ws x t} (h : Wds H la ws) (hD : H D = some (.list (.tup x :: t))) : la ≠ D := by
  rintro rfl
  obtain ⟨as, q, _⟩ := h.list
  rw [hD] at q
  cases as <;> simp at q
theorem PrL.keep {D : Addr} {H' : AH} {x t} (hD : H D = some (.list (.tup x :: t))) (e : ExtB D H H') {vs ps} (r : PrL H vs ps) : PrL H' vs ps :=
  r.mono fun a b q => by obtain ⟨o, n, h0, h1, h2⟩ := q; exact ⟨o, n, h0, h1.b hD (h1.ne_tup hD) e, h2.b hD (h2.ne_tup hD) e⟩
theorem PrL.push {D : Addr} {vs : List V} {v' : V} {p p' : Wp} {p1 : List Wp} (hl : H D = some (.list vs)) (x : PrL H vs (p :: p1)) (y : PrAt H v' p') : PrL (upd H D (.list (vs ++ [v']))) (vs ++ [v']) (p :: p1 ++ [p']) := by
  cases x with
  | cons q b =>
    obtain ⟨o, nn, rfl, q1, q2⟩ := id q
    exact PrL.keep hl ExtB.upd ((L2.cons q b).append (.cons y .nil))
inductive PairsI (t : List Tk) (ps : List Wp) : Prop
  | nil (ht : t = []) (hp : ps = [])
  | cons (t' : List Tk) (p' : Wp) (ts' : List Tk) (ps' : List Wp) (ht : t = t' ++ ts') (hp : ps = p' :: ps') (h : PairT t' p') (h' : PairsT ts' ps')
theorem PairsT.inv {t ps} (h : PairsT t ps) : PairsI t ps := by
  cases h with
  | nil => exact .nil rfl rfl
  | cons a b => exact .cons _ _ _ _ rfl rfl a b
theorem c_read_pairs (hK : GK G) (hr : 17 ≤ r) {p : Wp} {ps : List Wp} {pt qt rest : List Tk} (hw : WalkAt H w dx la as ts n) (hd : ts.drop n = pt ++ qt ++ tDot :: rest) (hp : PairT pt p) (hq : PairsT qt ps) (hz : ps.length ≤ 1000)
    (h : ∀ D vs H', ExtB w H H' → H D = none → H' D = some (.list vs) → PrL H' vs (p :: ps) → WalkAt H' w dx la as ts (n + (pt ++ qt).length + 1) → Q (.ref D) H') : CC G fs r (.ref 536) [.ref w, .ref 522] H Q E := by
  have hx := hw.w
  refine FN (env := env536) hK (lq hr rfl) rfl rfl rfl rfl rfl (ps := ["walk", "read"]) (fun cs hl => by obtain ⟨c1, c2, rfl⟩ := two_of hl; rfl) (by decide) (by decide) rfl rfl rfl (fun _ => rfl) fun hC L hL => ?_
  simp only [locs]
  repeat wtm_at "w1"
  refine (c_read_pair hK (lr hr rfl) hw (rest := qt ++ tDot :: rest) (by rw [hd]; simp) hp fun v H1 e1 hv hw1 => ?_).cl
  repeat wtm_at "w1"
  refine ⟨by rw [sz24]; simp, fun D hD => ?_⟩
  have hD0 := e1.nn hx (by rw [hw1.w]; simp) hD
  have laD : la ≠ D := fun z => by have := hw1.l; rw [z, hD] at this; cases this
  repeat wtm_at "w1"
  refine Ex_While (L := L) rfl (fun k m' H' => A5 (ExtB w H H') (m' "walk" = some (.ref w)) (m' "read" = some (.ref 522)) (m' "pairs" = some (.ref D)) (X5 fun vs p1 p2 t1 t2 => A7 (k = p2.length) (ps = p1 ++ p2) (qt = t1 ++ t2) (PairsT t2 p2) (H' D = some (.list vs)) (PrL H' vs (p :: p1)) (WalkAt H' w dx la as ts (n + pt.length + t1.length)))) ?_ _
    ⟨e1.trans (Ext.upd hD).b, put_ne (by decide) (put_ne (by decide) put_eq), put_ne (by decide) put_eq, put_eq, [v], [], ps, [], qt, rfl, rfl, rfl, hq, upd_eq, .cons (hv.ext (Ext.upd hD)) .nil, hw1.ext (Ext.upd hD)⟩
  rintro k m' H' B hB1 hB2 hB3 hB4 hqq
  refine byc fun hnn => ?_
  obtain ⟨eB, m1, m2, m3, vs, p1, p2, t1, t2, hk, hps, hqt, hq', hl', hpl, hw'⟩ := hqq
  refine hnn ?_; clear hnn
  have hx' := hw'.w
  have hdt : ts.drop (n + pt.length + t1.length) = t2 ++ tDot :: rest := by
    have h1 : ts.drop (n + pt.length) = t1 ++ (t2 ++ tDot :: rest) := drop_past (by rw [hd, hqt]; simp)
    exact drop_past h1
  repeat wtm_at "w1"
  refine (c_skip hK (lr hr rfl) hw' (fun hs => ?_) fun hs => ?_).cl
  · repeat wtm_at "w1"
    refine ite_f rfl ?_
    cases hq'.inv with
    | cons t p' ts' ps' ht hp2 hp' hq'' =>
      refine byc fun hnn => ?_
      obtain ⟨x, rr, hxr, hxx⟩ := hp'.head
      refine hnn ?_; clear hnn
      have := drop_at (k := 0) (xs := [x]) (by rw [hdt, ht, hxr]; simp; rfl) (by simp)
      simp at this
      rw [this] at hs; cases hs; exact absurd rfl hxx
    | nil ht hp2 =>
      repeat wtm_at "w1"
      have eW : ExtB w H' (upd H' w (.inst 469 dx (walkF la (n + pt.length + t1.length + 1)))) := ExtB.upd
      refine RetQ.now (h D vs _ (eB.trans eW) hD0 (eW _ _ (fun z => by rw [z, hx'] at hl'; cases hl') hl') (by rw [hps, hp2, List.append_nil]; exact hpl.bw hx' eW) ?_)
      have := hw'.go (m := n + pt.length + t1.length + 1)
      rw [hqt, ht]
      simpa [Nat.add_assoc] using this
  · repeat wtm_at "w1"
    refine ite_t rfl ?_
    cases hq'.inv with
    | nil ht hp2 =>
      have := drop_at (k := 0) (xs := [tDot]) (by rw [hdt, ht]; rfl) (by simp)
      simp at this
      exact absurd this hs
    | cons t p' ts' ps' ht hp2 hp' hq'' =>
      repeat wtm_at "w1"
      refine Mt_append hl' ?_
      repeat wtm_at "w1"
      refine (c_read_pair hK (lr hr rfl) hw' (rest := ts' ++ tDot :: rest) (by rw [hdt, ht]; simp) hp' fun v' H2 e2 hv' hw2 => ?_).cl
      have hl2 := e2 D _ (fun z => by rw [z, hx'] at hl'; cases hl') hl'
      have hpl2 := hpl.bw hx' e2
      repeat wtm_at "w1"
      refine Cl_append hl2 (by rw [sz24, hpl2.length]; rw [hps] at hz; simp at hz ⊢; lia) ?_
      repeat wtm_at "w1"
      first | refine hB1 _ _ ?_ | refine hB2 _ _ ?_
      refine ⟨ps'.length, by rw [hk, hp2]; exact Nat.lt_succ_self _, fun b o nb hb => by rw [upd_ne (fun z => by rw [z, hD0] at hb; cases hb)]; exact e2 b o nb (eB b o nb hb), m1, m2, m3, vs ++ [v'], p1 ++ [p'], ps', t1 ++ t, ts', rfl, by rw [hps, hp2]; simp, by rw [hqt, ht]; simp, hq'', upd_eq, hpl2.push hl2 hv', ?_⟩
      have := hw2.b hl2 laD (ExtB.upd (o := .list (vs ++ [v'])))
      simpa [Nat.add_assoc] using this
end
end W16
section W17
open PySem PySem.W PyProof.Rows
set_option maxHeartbeats 2000000

section
variable {G : Ctx} {fs : List Env} {r : Nat} {H : AH} {Q : V → AH → Prop} {E : AH → Prop} {l : List Nat} {a dx w la lo ln : Addr} {as : List Addr} {ts : List (List Nat × List Nat)} {n : Nat}
abbrev OFw : List Nat := [79, 70]
abbrev INw : List Nat := [73, 78]
abbrev REPLw : List Nat := [82, 69, 80, 76, 65, 67, 73, 78, 71]
inductive NameT : Tk → List Nat → Prop
  | word {x} : UW x → NameT (kWord, x) x
  | lit {x} : UW x → NameT (kLit, x) x
inductive OfT : List Tk → Prop
  | no : OfT []
  | yes {y} : OfT [wt OFw, wt y]
inductive TailT : List Tk → List Wp → Prop
  | plain : TailT [tDot] []
  | repl {pt qt p ps} : PairT pt p → PairsT qt ps → ps.length ≤ 1000 → TailT (wt REPLw :: (pt ++ qt ++ [tDot])) (p :: ps)
/-- the tokens behind the word COPY -/
inductive CopyT : List Tk → List Nat → List Wp → Prop
  | mk {t x o u ps} : NameT t x → OfT o → TailT u ps → CopyT (t :: (o ++ u)) x ps
theorem NameT.uw {t x} (h : NameT t x) : UW x ∧ t.2 = x ∧ ([kWord, kLit] : List (List Nat)).contains t.1 = true := by
  cases h with
  | word u => exact ⟨u, rfl, rfl⟩
  | lit u => exact ⟨u, rfl, rfl⟩
theorem TailT.head {u ps} (h : TailT u ps) : ∃ x rr, u = x :: rr ∧ x ≠ wt OFw ∧ x ≠ wt INw := by
  cases h with
  | plain => exact ⟨_, _, rfl, by decide, by decide⟩
  | repl _ _ _ => exact ⟨_, _, rfl, by decide, by decide⟩
inductive TailI (u : List Tk) (ps : List Wp) : Prop
  | plain (eu : u = [tDot]) (ep : ps = [])
  | repl (pt qt : List Tk) (p : Wp) (ps' : List Wp) (eu : u = wt REPLw :: (pt ++ qt ++ [tDot])) (ep : ps = p :: ps') (h1 : PairT pt p) (h2 : PairsT qt ps') (h3 : ps'.length ≤ 1000)
theorem TailT.inv {u ps} (h : TailT u ps) : TailI u ps := by
  cases h with
  | plain => exact .plain rfl rfl
  | repl a b c => exact .repl _ _ _ _ rfl rfl a b c
theorem OfT.inv {o} (h : OfT o) : o = [] ∨ ∃ y, o = [wt OFw, wt y] := by
  cases h with
  | no => exact .inl rfl
  | yes => exact .inr ⟨_, rfl⟩
theorem drop_head {α : Type} {l : List α} {n : Nat} {x : α} {ys : List α} (h : l.drop n = x :: ys) : l[n]? = some x := by
  simpa using drop_at (k := 0) (xs := [x]) h (by simp)
theorem c_read_copy (hK : GK G) (hr : 19 ≤ r) {x : List Nat} {ps : List Wp} {ct rest : List Tk} (hw : WalkAt H w dx la as ts n) (hd : ts.drop n = ct ++ rest) (hc : CopyT ct x ps)
    (h : ∀ D vs H', ExtB w H H' → H' D = some (.list vs) → PrL H' vs ps → WalkAt H' w dx la as ts (n + ct.length) → Q (.tup [.str x, .ref D]) H') : CC G fs r (.ref 543) [.ref w] H Q E := by
  refine byc fun hnn => ?_
  obtain ⟨hn, ho, hu⟩ := hc
  refine hnn ?_; clear hnn
  rename_i t o u
  refine byc fun hnn => ?_
  obtain ⟨u1, u2, u3⟩ := hn.uw
  refine hnn ?_; clear hnn
  have hx := hw.w
  have h0 : ts[n]? = some t := drop_head hd
  have hd1 : ts.drop (n + 1) = o ++ (u ++ rest) := drop_past (xs := [t]) (by rw [hd]; simp)
  refine byc fun hnn => ?_
  obtain ⟨y, hy, hy2⟩ := hw.tok h0
  refine hnn ?_; clear hnn
  refine FN (env := env543) hK (lq hr rfl) rfl rfl rfl rfl rfl (ps := ["walk"]) (fun cs hl => by obtain ⟨c1, rfl⟩ := one_of hl; rfl) (by decide) (by decide) rfl rfl rfl (fun _ => rfl) fun hC L hL => ?_
  simp only [locs]
  repeat wtm_at "w1"
  refine (c_take hK (lr hr rfl) hw hy ?_).cl
  have hw1 := hw.go (m := n + 1)
  have e1 : ExtB w H (upd H w (.inst 469 dx (walkF la (n + 1)))) := ExtB.upd
  have hy3 := hy2.bw hx e1
  generalize upd H w (.inst 469 dx (walkF la (n + 1))) = H1 at hw1 e1 hy3
  have hx1 := hw1.w
  refine byc fun hnn => ?_
  obtain ⟨d, p, b, hq⟩ := id hy3
  refine hnn ?_; clear hnn
  rw [u2] at hq
  repeat wtm_at "w1"
  refine ⟨by rw [sz24]; simp, COp_notin_tup (ks := [kWord, kLit]) ?_⟩
  repeat wtm_at "w1"
  refine ite_f (by rw [u3]; rfl) ?_
  wtm_at "w1"
  wtm_at "w1"
  refine Ex.mono (Q := fun fl m' H' => fl = .next ∧ m' = put (put noLoc "walk" (.ref w)) "token" (.ref y) ∧ ExtB w H1 H' ∧ WalkAt H' w dx la as ts (n + 1 + o.length)) ?_ ?_ fun _ z => z
  · repeat wtm_at "w1"
    rcases ho.inv with eo | ⟨y', eo⟩
    · obtain ⟨z, rr, ez, z1, z2⟩ := hu.head
      have hz : ts[n + 1]? = some z := drop_head (ys := rr ++ rest) (by rw [hd1, eo, ez]; rfl)
      refine (c_skip hK (lr hr rfl) hw1 (fun hs => ?_) fun hs => ?_).cl
      · exact absurd (Option.some.inj (hz.symm.trans hs)) z1
      repeat wtm_at "w1"
      refine ite_f rfl ?_
      repeat wtm_at "w1"
      refine (c_skip hK (lr hr rfl) hw1 (fun hs => ?_) fun hs => ?_).cl
      · exact absurd (Option.some.inj (hz.symm.trans hs)) z2
      repeat wtm_at "w1"
      refine ite_f rfl ?_
      repeat wtm_at "w1"
      refine ite_f rfl ?_
      repeat wtm_at "w1"
      exact ⟨rfl, rfl, ExtB.refl, by rw [eo]; exact hw1⟩
    · have hd1' : ts.drop (n + 1) = wt OFw :: (wt y' :: (u ++ rest)) := by rw [hd1, eo]; rfl
      have hof : ts[n + 1]? = some (wt OFw) := drop_head hd1'
      refine (c_skip hK (lr hr rfl) hw1 (fun hs => ?_) fun hs => absurd hof hs).cl
      repeat wtm_at "w1"
      refine ite_t rfl ?_
      have hw2 := hw1.go (m := n + 1 + 1)
      have e2 : ExtB w H1 (upd H1 w (.inst 469 dx (walkF la (n + 1 + 1)))) := ExtB.upd
      generalize upd H1 w (.inst 469 dx (walkF la (n + 1 + 1))) = H2 at hw2 e2
      have hx2 := hw2.w
      have hly : ts[n + 1 + 1]? = some (wt y') := drop_head (ys := u ++ rest) (drop_past (xs := [wt OFw]) (by rw [hd1']; rfl))
      refine byc fun hnn => ?_
      obtain ⟨yy, hyy, _⟩ := hw2.tok hly
      refine hnn ?_; clear hnn
      refine ite_t rfl ?_
      repeat wtm_at "w1"
      refine (c_take hK (lr hr rfl) hw2 hyy ?_).cl
      repeat wtm_at "w1"
      exact ⟨rfl, rfl, e2.trans ExtB.upd, by rw [eo]; simpa [Nat.add_assoc] using hw2.go (m := n + 1 + 1 + 1)⟩
  rintro fl m' H2 ⟨rfl, rfl, e2, hw2⟩
  have hd2 : ts.drop (n + 1 + o.length) = u ++ rest := drop_past hd1
  have hx2 := hw2.w
  have hq2 := e2 y _ (fun z => by rw [z, hx1] at hq; cases hq) hq
  show Ex G (env543 L :: fs) (r - 1) (env543 L) _ _ _ _ _
  repeat wtm_at "w1"
  cases hu.inv with
  | plain eu ep =>
    have hz : ts[n + 1 + o.length]? = some tDot := drop_head (ys := rest) (by rw [hd2, eu]; rfl)
    refine (c_skip hK (lr hr rfl) hw2 (fun hs => ?_) fun hs => ?_).cl
    · rw [hz] at hs; exact absurd (Option.some.inj hs) (by decide)
    repeat wtm_at "w1"
    refine ite_f rfl ?_
    repeat wtm_at "w1"
    refine (c_need hK (lr hr rfl) hw2 hz ?_).cl
    have hw3 := hw2.go (m := n + 1 + o.length + 1)
    have e3 : ExtB w H2 (upd H2 w (.inst 469 dx (walkF la (n + 1 + o.length + 1)))) := ExtB.upd
    generalize upd H2 w (.inst 469 dx (walkF la (n + 1 + o.length + 1))) = H3 at hw3 e3
    have hq3 := e3 y _ (fun z => by rw [z, hx2] at hq2; cases hq2) hq2
    repeat wtm_at "w1"
    refine Mt_upper ?_
    repeat wtm_at "w1"
    refine Cl_upper u1.1 (by have := u1.2.1; rw [sz24]; lia) ?_
    rw [u1.2.2]
    repeat wtm_at "w1"
    refine ⟨by rw [sz24]; simp, fun D hD => ?_⟩
    repeat wtm_at "w1"
    refine ⟨by rw [sz24]; simp, RetQ.now (h D [] _ (e1.trans (e2.trans (e3.trans (Ext.upd hD).b))) upd_eq (by rw [ep]; exact .nil) ?_)⟩
    have := hw3.ext (Ext.upd (o := .list []) hD)
    rw [eu]
    simpa [Nat.add_assoc, Nat.add_comm, Nat.add_left_comm] using this
  | repl pt qt p' ps' eu ep hp hqq hz' =>
    have hz : ts[n + 1 + o.length]? = some (wt REPLw) := drop_head (ys := pt ++ qt ++ [tDot] ++ rest) (by rw [hd2, eu]; rfl)
    refine (c_skip hK (lr hr rfl) hw2 (fun hs => ?_) fun hs => absurd hz hs).cl
    repeat wtm_at "w1"
    refine ite_t rfl ?_
    have hw3 := hw2.go (m := n + 1 + o.length + 1)
    have e3 : ExtB w H2 (upd H2 w (.inst 469 dx (walkF la (n + 1 + o.length + 1)))) := ExtB.upd
    generalize upd H2 w (.inst 469 dx (walkF la (n + 1 + o.length + 1))) = H3 at hw3 e3
    have hq3 := e3 y _ (fun z => by rw [z, hx2] at hq2; cases hq2) hq2
    have hd3 : ts.drop (n + 1 + o.length + 1) = pt ++ qt ++ tDot :: rest := by
      have := drop_past (xs := [wt REPLw]) (ys := pt ++ qt ++ tDot :: rest) (l := ts) (n := n + 1 + o.length) (by rw [hd2, eu]; simp)
      simpa using this
    repeat wtm_at "w1"
    refine Mt_upper ?_
    repeat wtm_at "w1"
    refine Cl_upper u1.1 (by have := u1.2.1; rw [sz24]; lia) ?_
    rw [u1.2.2]
    repeat wtm_at "w1"
    refine (c_read_pairs hK (lr hr rfl) hw3 hd3 hp hqq hz' fun D vs H4 e4 hD hl4 hp4 hw4 => ?_).cl
    repeat wtm_at "w1"
    refine ⟨by rw [sz24]; simp, RetQ.now (h D vs _ (e1.trans (e2.trans (e3.trans e4))) hl4 (by rw [ep]; exact hp4) ?_)⟩
    rw [eu]
    simpa [Nat.add_assoc, Nat.add_comm, Nat.add_left_comm] using hw4
end
end W17
section W18
open PySem PySem.W PyProof.Rows
set_option maxHeartbeats 2000000

section
variable {G : Ctx} {fs : List Env} {r : Nat} {H : AH} {Q : V → AH → Prop} {E : AH → Prop} {l : List Nat} {a dx w la lo ln : Addr} {as : List Addr} {ts : List (List Nat × List Nat)} {n : Nat}
theorem Exch.none (ws : List (List Nat)) : Exch [] ws ws := by
  induction ws with
  | nil => exact .nil
  | cons w ws ih => exact .keep rfl ih
theorem c_replaced_all (hK : GK G) (hr : 12 ≤ r) {ws : List (List Nat)} (hw : Wds H la ws) (hu : ∀ x ∈ ws, x ≠ [82, 69, 80, 76, 65, 67, 69])
    (h : ∀ D H', Ext H H' → H D = none → Wds H' D ws → Q (.ref D) H') : CC G fs r (.ref 564) [.ref la] H Q E := by
  refine byc fun hnn => ?_
  obtain ⟨as, q1, q2, q3⟩ := hw.list
  refine hnn ?_; clear hnn
  refine FN (env := env564) hK (lq hr rfl) rfl rfl rfl rfl rfl (ps := ["tokens"]) (fun cs hl => by obtain ⟨c1, rfl⟩ := one_of hl; rfl) (by decide) (by decide) rfl rfl rfl (fun _ => rfl) fun hC L hL => ?_
  simp only [locs]
  repeat wtm_at "w1"
  refine c_Walk hK (lr hr rfl) q1 q3 (by have := hw.3; simp; lia) fun w dx H1 e1 hw0 hw1 => ?_
  repeat wtm_at "w1"
  refine ⟨by rw [sz24]; simp, fun F hF => ?_⟩
  repeat wtm_at "w1"
  refine ⟨by rw [sz24]; simp, fun D hD => ?_⟩
  repeat wtm_at "w1"
  refine ⟨by rw [sz24]; simp, fun P hP => ?_⟩
  have eF := Ext.upd (o := .list []) hF
  have eD := Ext.upd (o := .list []) hD
  have eP := Ext.upd (o := .list []) hP
  have k1 : upd (upd (upd H1 F (.list [])) D (.list [])) P (.list []) F = some (.list []) := eP _ _ (eD _ _ upd_eq)
  have k2 : upd (upd (upd H1 F (.list [])) D (.list [])) P (.list []) D = some (.list []) := eP _ _ upd_eq
  have k3 : upd (upd (upd H1 F (.list [])) D (.list [])) P (.list []) P = some (.list []) := upd_eq
  have eA : Ext H1 (upd (upd (upd H1 F (.list [])) D (.list [])) P (.list [])) := (eF.trans eD).trans eP
  have nP : F ≠ D := fun z => by rw [← z, upd_eq] at hD; cases hD
  have nQ : P ≠ D := fun z => by rw [z, upd_eq] at hP; cases hP
  have hFx : H F = none := by
    cases hq : H F with
    | none => rfl
    | some o => rw [e1 _ _ hq] at hF; cases hF
  have hD1 : H1 D = none := by
    cases hq : H1 D with
    | none => rfl
    | some o => rw [eF _ _ hq] at hD; cases hD
  have hDx : H D = none := by
    cases hq : H D with
    | none => rfl
    | some o => rw [e1 _ _ hq] at hD1; cases hD1
  generalize upd (upd (upd H1 F (.list [])) D (.list [])) P (.list []) = H2 at k1 k2 k3 eA
  have laD : la ≠ D := fun z => by rw [z, hDx] at q1; cases q1
  repeat wtm_at "w1"
  refine Ex_While (L := L) rfl (fun k m' H' => A6 (Ext H H') (m' "walk" = some (.ref w)) (m' "found" = some (.ref F)) (m' "waiting" = some (.ref D)) (m' "pairs" = some (.ref P)) (∃ i, A6 (k = ws.length - i) (i ≤ ws.length) (H' F = some (.list [])) (H' P = some (.list [])) (Wds H' D (ws.take i)) (WalkAt H' w dx la as (ws.map wt) i))) ?_ _
    ⟨e1.trans eA, put_ne (by decide) (put_ne (by decide) (put_ne (by decide) put_eq)), put_ne (by decide) (put_ne (by decide) put_eq), put_ne (by decide) put_eq, put_eq, 0, rfl, Nat.zero_le _, k1, k3, ⟨⟨[], k2, .nil⟩, by simp, by simp⟩, hw1.ext eA⟩
  rintro k m' H' B hB1 hB2 hB3 hB4 hqq
  refine byc fun hnn => ?_
  obtain ⟨eX, m1, m2, m3, m4, i, hk, hi, f1, f2, hD', hw'⟩ := hqq
  refine hnn ?_; clear hnn
  have hx' := hw'.w
  repeat wtm_at "w1"
  refine (c_is_done hK (lr hr rfl) hw' ?_).cl
  repeat wtm_at "w1"
  by_cases hil : i < ws.length
  · refine ite_t (by simp; lia) ?_
    obtain ⟨x, hx2, hx3⟩ := hw'.tok (t := wt ws[i]) (by rw [List.getElem?_map, List.getElem?_eq_getElem hil]; rfl)
    repeat wtm_at "w1"
    refine (c_take hK (lr hr rfl) hw' hx2 ?_).cl
    have hw2 := hw'.go (m := i + 1)
    have e2 : ExtB w H' (upd H' w (.inst 469 dx (walkF la (i + 1)))) := ExtB.upd
    have hD2 := hD'.bw hx' e2
    have hx3' := hx3.bw hx' e2
    have f1' := e2 _ _ (fun z => by rw [z, hx'] at f1; cases f1) f1
    have f2' := e2 _ _ (fun z => by rw [z, hx'] at f2; cases f2) f2
    generalize upd H' w (.inst 469 dx (walkF la (i + 1))) = H3 at hw2 e2 hD2 hx3' f1' f2'
    refine byc fun hnn => ?_
    obtain ⟨d, p, b, hq⟩ := id hx3'
    refine hnn ?_; clear hnn
    have u1 := hw.2 _ (List.getElem_mem hil)
    have u2 := hu _ (List.getElem_mem hil)
    repeat wtm_at "w1"
    refine ite_f rfl ?_
    repeat wtm_at "w1"
    refine ite_t (by simpa using u2) ?_
    repeat wtm_at "w1"
    refine ite_t rfl ?_
    refine byc fun hnn => ?_
    obtain ⟨ds, d1, d2, d3⟩ := hD2.list
    refine hnn ?_; clear hnn
    repeat wtm_at "w1"
    refine Mt_append d1 ?_
    repeat wtm_at "w1"
    refine Cl_append d1 (by rw [sz24, List.length_map, d2, List.length_take]; have := hw.3; lia) ?_
    repeat wtm_at "w1"
    have wW : H w = none := hw0
    have hzz : (ws.take i ++ [ws[i]]).length ≤ 100000 := by have := hw.3; simp; lia
    first | refine hB1 _ _ ?_ | refine hB2 _ _ ?_
    refine ⟨ws.length - (i + 1), by lia, fun b o hb => by rw [upd_ne (fun z => by rw [z, hDx] at hb; cases hb)]; exact e2 b o (fun z => by rw [z, wW] at hb; cases hb) (eX b o hb), put_ne (by decide) m1, put_ne (by decide) m2, put_ne (by decide) m3, put_ne (by decide) m4, i + 1, rfl, hil, by rw [upd_ne nP]; exact f1', by rw [upd_ne nQ]; exact f2', ?_, hw2.b d1 laD ExtB.upd⟩
    rw [List.take_add_one, List.getElem?_eq_getElem hil]
    exact hD2.push d1 hx3' u1 hzz
  · have : i = ws.length := by lia
    refine ite_f (by simp [this]) ?_
    rw [List.take_of_length_le (Nat.le_of_eq this.symm)] at hD'
    repeat wtm_at "w1"
    refine (c_substituted hK (lr hr rfl) hD' f2 .nil (Exch.none ws) hw.3 fun D2 H3 e3 hD2 w3 => ?_).cl
    refine byc fun hnn => ?_
    obtain ⟨ds, d1, d2, d3⟩ := w3.list
    refine hnn ?_; clear hnn
    refine BOp_lists (e3 _ _ f1) d1 (by rw [sizeLine]; have := hw.3; simp; lia) fun R hR => ?_
    have e4 := eX.trans (e3.trans (Ext.upd (o := .list ([] ++ ds.map V.ref)) hR))
    refine RetQ.now (h R _ e4 ?_ ⟨⟨ds, upd_eq, d3.ext (Ext.upd hR)⟩, hw.2, hw.3⟩)
    cases hq : H R with
    | none => rfl
    | some o => rw [e3 _ _ (eX _ _ hq)] at hR; cases hR
end
end W18
section W19
open PySem PySem.W PyProof.Rows
set_option maxHeartbeats 2000000

theorem cls84' : ∃ nm q bs sn sub ab col dd k0 k1 k2 k3 k5, ∀ P, (Z.heap_1 P).lookup 84 = some (excClassObj nm q 84 83 bs [.ref 47, .type "Exception", .type "BaseException", .type "object"] true sn sub ab col dd k0 k1 k2 k3 k5 "Exception.__new__") :=
  ⟨_, _, _, _, _, _, _, _, _, _, _, _, _, fun P => rfl⟩
theorem refuse84 (self : Value) : PySem.refuseLoop self "__setattr__" [.ref 84, .ref 47, .type "Exception", .type "BaseException", .type "object"] = pure () := by
  rw [refuseLoop_ref, refuseLoop_ref]
  kernel_rfl
theorem cd84 : ∃ cd : Params → ClassData, (∀ P, clsIn (Z.heap_1 P) 84 = some (cd P)) ∧ (∀ P, (cd P).mro = [.ref 84, .ref 47, .type "Exception", .type "BaseException", .type "object"]) ∧ ∀ P, (cd P).hasDict = true :=
  ⟨_, fun P => rfl, fun P => rfl, fun P => rfl⟩
def excO (ta : Addr) : Data := .fields #[.ref ta, .none, .none, .none, .bool false, .none]
/-- LedgerError.__init__ at a new CopyFault -/
theorem poke_arg0 {hp : Heap} {e ta : Addr} {cw : Value} {sl} (he : hp.get? e = some ⟨.ref 84, none, excO ta, sl⟩) : ∃ h₄, h₄ = (hp.push { cls := .type "tuple", data := .seq #[cw] }).update e (Obj.mapFields fun x => x.setIfInBounds 0 (.ref hp.objs.size)) ∧
    h₄.get? e = some ⟨.ref 84, none, excO hp.objs.size, sl⟩ ∧ Poke (· = e) hp h₄ := by
  have hget : ((hp.push { cls := .type "tuple", data := .seq #[cw] }).update e (Obj.mapFields fun x => x.setIfInBounds 0 (.ref hp.objs.size))).get? e = some ⟨.ref 84, none, excO hp.objs.size, sl⟩ := Heap.get?_update_self _ (Heap.get?_push_of_some _ he) rfl
  refine ⟨_, rfl, hget, fun z oz hz => ?_⟩
  by_cases w : z = e
  · rw [w]; exact ⟨⟨_, hget⟩, fun n => absurd rfl n⟩
  · have : ((hp.push { cls := .type "tuple", data := .seq #[cw] }).update e (Obj.mapFields fun x => x.setIfInBounds 0 (.ref hp.objs.size))).get? z = some oz := (Heap.get?_update_ne _ _ _ _ w).trans (Heap.get?_push_of_some _ hz)
    exact ⟨⟨oz, this⟩, fun _ => this⟩
theorem body37 {G : Ctx} {fs : List Env} {r : Nat} {H : AH} {A : Around} {s : Shared} {L e ta : Addr} {wv av : V} {sl : Array (Option Value)} (hK : GK G) (hr : 1 ≤ r) (a : AOK (env37 L :: fs) r A) (b : Rel G (env37 L :: fs) H s)
    (c : LocsR G.s₀.heap (env37 L) (locs ["self", "what", "at"] [.ref e, wv, av] noLoc) s.heap H) (he : s.heap.get? e = some ⟨.ref 84, none, excO ta, sl⟩) (hH : H e = none) (hbase : G.s₀.heap.get? e = none) (hfr : e ∉ (env37 L :: fs).filterMap (·.frame)) (hL : e ≠ L) 
    (hw : wv.isBi = false) (hav : av.isBi = false) :
    wpAny (model G.prog G.w) A (execs (match fd37.body with | .stmts b => b | _ => []) (env37 L)) (fun fl s' => A4 (fl = .next) (Rel G (env37 L :: fs) H s') (KeepX (· = e) H s.heap H s'.heap) (X2 fun o' ta' => A3 (s'.heap.get? e = some o') (o'.cls = .ref 84) (o'.data = excO ta'))) (fun _ _ => False) s := by
  show wpAny _ _ (execs [_, _, _] _) _ _ _
  refine wpAny_execs_cons (wpAny_Expr_any ?_ rfl rfl)
  simp only [locs] at c
  have ev : Ev G (env37 L :: fs) r (env37 L) (put (put (put noLoc "self" (.ref e)) "what" wv) "at" av) (eval (.Name "Exception" ⟨8, 8, 8, 17⟩) (env37 L)) H (fun v H' => v = .ty "Exception" ∧ H' = H) fun _ => False := by
    wtm_at "w1"
    exact ⟨rfl, rfl⟩
  refine MethodCall_ (pl := _) (wpAny_mono (ev A s a b c) ?_ (fun _ _ ⟨_, _, _, z⟩ => z.elim)) rfl
  rintro co s₁ ⟨ov, H₁, a₁, v₁, rfl, rfl⟩
  refine wpAny_mono (Mt_exc_init (Q := fun f first H' => f = .bi "Exception.__init__" ∧ first = [] ∧ H' = H₁) (E := fun _ => False) ⟨rfl, rfl, rfl⟩ A s₁ co _ a a₁.1 v₁) ?_ (fun _ _ ⟨_, _, _, z⟩ => z.elim)
  rintro ⟨cf, cfirst⟩ s₂ ⟨f, first, H₂, a₂, v₂, vs, rfl, rfl, rfl⟩
  have c₂ := c.keep (a₁.trans a₂).2
  refine call_with_raw a a₂.1 c₂ KeepV.bi v₂ vs (asv := [.ref e, wv]) ?_ (fun cs s₃ a₃ v₃ => ?_)
  · repeat wtm_at "w1"
    exact ⟨rfl, rfl⟩
  obtain rfl := v₂.inv
  obtain rfl := vs.inv
  obtain ⟨ce, v₃', rfl, w1, w4⟩ := v₃.inv
  obtain ⟨cw, v₃'', rfl, w2, w5⟩ := w4.inv
  obtain rfl := w5.inv
  obtain rfl := w1.inv
  have A₃ := (a₁.trans a₂).trans a₃
  obtain ⟨sl₃, he₃⟩ := A₃.2.at he hH
  obtain ⟨nm, q, bs, sn, sub, ab, col, dd, k0, k1, k2, k3, k5, hcls⟩ := cls84'
  have hC₃ := A₃.1.keepK _ _ (hK ▸ hcls G.w.params)
  obtain ⟨hp, g, d, tk, os⟩ := s₃
  refine wpAny_call (exc_init (by decide) hC₃ he₃ rfl rfl (by rw [sizeLine_eq]; simp) ?_)
  show wpAny _ A (execs [_, _] _) _ _ _
  have he3 : hp.get? e = some ⟨.ref 84, none, excO ta, sl₃⟩ := he₃
  obtain ⟨h₄, hh₄, hget, pk⟩ := poke_arg0 (cw := cw) he3
  rw [← hh₄]
  have nsq : NoSeq (· = e) hp := by
    intro z oz ez hz it n
    rw [ez, he3] at hz; cases hz
    intro w; cases w
  have offS : ∀ z, z = e → H₂ z = none ∧ G.s₀.heap.get? z = none ∧ z ∉ (env37 L :: fs).filterMap (·.frame) := fun z ez => by rw [ez]; exact ⟨hH, hbase, hfr⟩
  have locS : ∀ z, z = e → z ≠ (env37 L).locals ∧ ∀ p ∈ (env37 L).cells, z ≠ p.2 := fun z ez => by rw [ez]; exact ⟨hL, fun p hp => nomatch hp⟩
  have R₄ := A₃.1.poke (t := tk) pk nsq offS
  have c₄ := (c.keep A₃.2).poke pk nsq locS
  have K₄ : KeepX (· = e) H₂ s.heap H₂ hp := KeepX.of A₃.2
  have K₅ := K₄.trans (pk.x (H := H₂) nsq)
  obtain ⟨cd, hcd, hmro, hdd⟩ := cd84
  have hc : clsIn G.K 84 = some (cd G.w.params) := by rw [hK]; exact hcd _
  have hpass : ∀ x, PySem.refuseLoop (.ref x) "__setattr__" (cd G.w.params).mro = pure () := fun x => by rw [hmro]; exact refuse84 _
  have I₄ : h₄.Inst e 84 (fun _ => none) := ⟨_, hget, rfl, (fun c z => by cases z), .inl ⟨rfl, fun _ => rfl⟩⟩
  have evS : ∀ (pos : Pos), Ev G (env37 L :: fs) r (env37 L) (put (put (put noLoc "self" (.ref e)) "what" wv) "at" av) (eval (.Name "self" pos) (env37 L)) H₂ (fun v H' => v = .ref e ∧ H' = H₂) fun _ => False := fun pos => by
    wtm_at "w1"; exact ⟨rfl, rfl⟩
  have evW : ∀ (pos : Pos), Ev G (env37 L :: fs) r (env37 L) (put (put (put noLoc "self" (.ref e)) "what" wv) "at" av) (eval (.Name "what" pos) (env37 L)) H₂ (fun v H' => v = wv ∧ H' = H₂) fun _ => False := fun pos => by
    wtm_at "w1"; exact ⟨rfl, rfl⟩
  have evA : ∀ (pos : Pos), Ev G (env37 L :: fs) r (env37 L) (put (put (put noLoc "self" (.ref e)) "what" wv) "at" av) (eval (.Name "at" pos) (env37 L)) H₂ (fun v H' => v = av ∧ H' = H₂) fun _ => False := fun pos => by
    wtm_at "w1"; exact ⟨rfl, rfl⟩
  have fS : findIn G.K (.ref 84) "__setattr__" = some (some (.builtin "object.__setattr__")) := by rw [hK]; rfl
  have t1 : takerIn G.K 84 "what" = some none := by rw [hK]; rfl
  have t2 : takerIn G.K 84 "at" = some none := by rw [hK]; rfl
  refine wpAny_execs_cons (wpAny_mono (set_step (s0 := s) (ns := []) hc hpass (by rw [hmro]; decide) (by rw [hmro]; decide) (hdd _) fS t1 a b c R₄ c₄ K₅ hH hbase hfr hL rfl I₄ (fun ob w => by rw [hget] at w; cases w; exact ⟨_, rfl⟩) Within.nil (by simp)
    (fun ob dx w1 w2 => by rw [hget] at w1; cases w1; cases w2) (evW _) (evS _) rfl) ?_ fun _ _ z => z)
  rintro fl s₅ ⟨rfl, b₅, c₅, K₆, ⟨mA', ns', I₅, W₅, n₅⟩, hdx₅, same₅⟩
  obtain ⟨ob₅, ge₅, gd₅, gc₅⟩ := same₅ _ hget
  show wpAny _ A (execs [_] _) _ _ _
  refine wpAny_execs_cons (wpAny_mono (set_step (s0 := s) (ns := ns') hc hpass (by rw [hmro]; decide) (by rw [hmro]; decide) (hdd _) fS t2 a b c b₅ c₅ K₆ hH hbase hfr hL rfl I₅ (fun ob w => by rw [ge₅] at w; cases w; exact ⟨_, gd₅⟩) W₅ (by rw [n₅]; simp)
    hdx₅ (evA _) (evS _) rfl) ?_ fun _ _ z => z)
  rintro fl s₆ ⟨rfl, b₆, c₆, K₇, -, -, same₆⟩
  obtain ⟨ob₆, ge₆, gd₆, gc₆⟩ := same₆ _ ge₅
  exact wpAny_execs_nil ⟨rfl, b₆, K₇, ob₆, hp.objs.size, ge₆, gc₆.trans gc₅, gd₆.trans gd₅⟩
end W19
section W20
open PySem PySem.W PyProof.Rows
set_option maxHeartbeats 2000000
theorem raise_made {M : Model} {A : Around} {E : Value → Shared → Prop} {env : Env} {nm q : Str} {C N : Addr} {bs bm : List Value} {hdct : Bool} {sn : List Str} {sub : List Value} {ab : Bool} {col : Option Bool} {dd : Option Addr} {k0 k1 k2 k3 k5 : Option Value} {newId : String}
    {s : Shared} {x : Sem Value} {Q : Flow → Shared → Prop} (hbase : bm.contains (.type "BaseException") = true) (hh : A.handled = none)
    (h : wpAny M A x (fun v s₁ => (X2 fun e oe => A6 (v = .ref e) (s₁.heap.get? C = some (excClassObj nm q C N bs bm hdct sn sub ab col dd k0 k1 k2 k3 k5 newId)) (s₁.heap.get? e = some oe) (oe.cls = .ref C) (∃ ta, oe.data = excO ta) (E (.ref e) s₁))) E s) :
    wpAny M A (raiseStmt env (some x) none) Q E s := by
  have hcB : (Value.ref C :: bm).contains (.type "BaseException") = true := by rw [List.contains_cons, hbase, Bool.or_true]
  unfold raiseStmt
  refine wpAny_bind (wpAny_mono h (fun v s₁ h₁ => ?_) fun _ _ x => x)
  obtain ⟨e, oe, rfl, hC, he, hcls, ⟨vs, hvs⟩, hE⟩ := h₁
  obtain ⟨oc, od, oda, osl⟩ := oe
  dsimp only [excO] at hcls hvs
  subst hcls hvs
  obtain ⟨hp, g, d, tk, os⟩ := s₁
  repeat (first | with_reducible refine wpAny_loadPart_at he ?_ | with_reducible refine wpAny_loadPart_at hC ?_ | (with_reducible refine wpAny_isSubtype_exc hC ?_; rw [hcB]) | wp_step)
  exact wpAny_raiseNew_none hh hE

theorem new2 {h : Heap} {o o' : Obj} (hf : o'.isFreed = false) : (h.push o).objs.size = h.objs.size + 1 ∧ ((h.push o).push o').get? (h.objs.size + 1) = some o' := by
  have sz : (h.push o).objs.size = h.objs.size + 1 := Heap.size_push ..
  exact ⟨sz, sz ▸ Heap.get?_push_size _ hf⟩
theorem past_none {h : Heap} : h.get? (h.objs.size + 1) = none := by
  cases z : h.get? (h.objs.size + 1) with
  | none => rfl
  | some o => exact absurd (Heap.lt_size z) (Nat.not_lt.mpr (Nat.le_succ _))

section
variable {G : Ctx} {fs : List Env} {r : Nat} {env : Env} {m : Loc} {H : AH} {Q : Fl → Loc → AH → Prop} {E : AH → Prop}
theorem Ex_raise {args : List Expr} {np cpos pos : Pos} {w av : V} (hK : GK G) (hC : G.C = .ref 84) (hr : 5 ≤ r)
    (hn : Ev G fs r env m (eval (.Name "CopyFault" np) env) H (fun v H' => v = .ref 84 ∧ H' = H) (fun _ => False))
    (h : Sp G fs r env m (spliced (backTo cpos (starEach args env))) H (fun as H₁ => as = [w, av] ∧ H₁ = H) fun _ => False) (hw : w.isBi = false) (ha : av.isBi = false) (hE : E H)
    (hp : (backTo cpos (starEach args env)).any (·.1) = false) :
    Ex G fs r env m (exec (.Raise (some (.Call (.Name "CopyFault" np) args [] cpos)) none pos) env) H Q E := fun A s a b c => by
  refine byc fun hnn => ?_
  obtain ⟨nm, q, bs, sn, sub, ab, col, dd, k0, k1, k2, k3, k5, hcls⟩ := cls84'
  refine hnn ?_; clear hnn
  have at84 : ∀ {s' : Shared}, Rel G fs H s' → s'.heap.get? 84 = some (excClassObj nm q 84 83 bs [.ref 47, .type "Exception", .type "BaseException", .type "object"] true sn sub ab col dd k0 k1 k2 k3 k5 "Exception.__new__") :=
    fun b' => b'.keepK _ _ (hK ▸ hcls G.w.params)
  show wpAny _ _ _ _ _ _
  rw [arm_exec_Raise]
  refine wpAny_bind (wpAny_standAt (raise_made (C := 84) (nm := nm) (q := q) (N := 83) (bs := bs) (bm := [.ref 47, .type "Exception", .type "BaseException", .type "object"]) (hdct := true) (sn := sn) (sub := sub) (ab := ab) (col := col) (dd := dd) (k0 := k0) (k1 := k1) (k2 := k2) (k3 := k3) (k5 := k5) (newId := "Exception.__new__") rfl a.handled ?_))
  refine wpAny_bind (wpAny_mono (wpAny_Call_ofName (wpAny_mono (hn A s a b c) (fun f s₁ h₁ => ?_) fun _ _ ⟨_, _, _, z⟩ => z.elim)) (fun v s₃ h₃ => wpAny_bind (wpAny_standAt (wpAny_pure h₃))) fun _ _ x => x)
  obtain ⟨fv, H₁, a₁, v₁, rfl, hh⟩ := h₁
  obtain rfl : H = H₁ := hh.symm
  refine call_with_raw (first := []) (cfirst := []) (asv := [w, av]) a a₁.1 (c.keep a₁.2) (KeepV.fn hK rfl) v₁ .nil h (fun cs s₂ a₂ v₂ => ?_) hp
  cases v₁
  have A₂ := a₁.trans a₂
  refine byc fun hnn => ?_
  obtain ⟨hp₂, g, d, tk, os⟩ := s₂
  refine hnn ?_; clear hnn
  obtain _ | ⟨w1, v₂⟩ := v₂
  obtain _ | ⟨w2, v₂⟩ := v₂
  cases v₂
  rename_i cw ca
  have b₂ := A₂.1
  have hC₂ := at84 b₂
  have X := b₂.keepK
  have hi : findIn G.K (.ref 84) "__init__" = some (some (.ref 37)) := by rw [hK]; rfl
  have hf : isFn G.K (.ref 37) = true := by rw [hK]; rfl
  refine wpAny_call (exc_make (fI := 37) rfl rfl rfl hC₂ (looks_findIn X hi) (fun self => bind_fn X self (beq_iff_eq.mp hf)) (by rw [sizeLine_eq]; simp) ?_)
  have n2 : hp₂.get? (hp₂.objs.size + 1) = none := past_none
  have grow : ∀ b o, hp₂.get? b = some o → ((hp₂.push { cls := .type "tuple", data := .seq #[cw, ca] }).push { cls := .ref 84, data := excO hp₂.objs.size }).get? b = some o := fun b o e => Heap.get?_push_of_some _ (Heap.get?_push_of_some _ e)
  obtain ⟨_, he⟩ := new2 (h := hp₂) (o := { cls := .type "tuple", data := .seq #[cw, ca] }) (o' := { cls := .ref 84, data := excO hp₂.objs.size }) rfl
  refine byc fun hnn => ?_
  obtain ⟨h1, h2, h3⟩ := off_new b₂ n2
  refine hnn ?_; clear hnn
  have b₃ : Rel G fs H ⟨(hp₂.push { cls := .type "tuple", data := .seq #[cw, ca] }).push { cls := .ref 84, data := excO hp₂.objs.size }, g, d, tk, os⟩ := b₂.grow (t := tk) grow
  have a₃ : AOK fs (r - 2 + 1) (A.under (.builtin "type.__call__" ⟨.ref 84 :: [cw, ca], []⟩)) := by
    have w : (Code.builtin "type.__call__" ⟨.ref 84 :: [cw, ca], []⟩).weight = 1 := rfl
    have u : (Code.builtin "type.__call__" ⟨.ref 84 :: [cw, ca], []⟩).cUnits = 1 := rfl
    refine ⟨a.frames, a.handled, ?_, ?_⟩
    · have := a.depth
      unfold Around.under
      rw [w]
      show A.depth + 1 + (r - 2 + 1) ≤ 999
      lia
    · have := a.units
      unfold Around.under
      rw [u]
      show A.units + 1 + 10 * (r - 2 + 1) ≤ 9890
      lia
  have X₃ := b₃.keepK
  have kG : Keep H hp₂ H ((hp₂.push { cls := .type "tuple", data := .seq #[cw, ca] }).push { cls := .ref 84, data := excO hp₂.objs.size }) := Keep.of_grow grow
  rw [hK] at X₃
  refine call_raw (fd := fd37) (ps := ["self", "what", "at"]) (args := [.ref (hp₂.objs.size + 1), w, av]) (H := H) (P := fun s' => Keep H hp₂ H s'.heap ∧ ∃ o' ta', s'.heap.get? (hp₂.objs.size + 1) = some o' ∧ o'.cls = .ref 84 ∧ o'.data = excO ta')
    (by rw [hK]; rfl) rfl rfl (by rw [hK]; rfl) rfl (binds_K X₃ rfl rfl rfl rfl rfl) (by decide) (by decide) a₃ b₃ (.cons (.ref _) (.cons (w1.mono kG) (.cons (w2.mono kG) .nil))) (fun h₁ t₁ hk₁ a' b' c' => ?_) (fun s' b' ⟨k', o', ta', e1, e2, e3⟩ => ?_)
  · have hL := hk₁ _ _ he
    refine wpAny_mono (body37 (e := hp₂.objs.size + 1) (ta := hp₂.objs.size) hK (by lia) a' b' c' hL h1 h2 ?_ ?_ hw ha) ?_ fun _ _ z => z
    · intro z
      rcases List.mem_filterMap.mp z with ⟨env', he', hf'⟩
      rcases List.mem_cons.mp he' with he' | he'
      · rw [he'] at hf'
        exact absurd (Heap.lt_size he) (by rw [← Option.some.inj hf']; exact Nat.lt_irrefl _)
      · exact h3 (List.mem_filterMap.mpr ⟨env', he', hf'⟩)
    · intro z
      have : (hp₂.objs.size + 1 : Nat) < _ := Heap.lt_size he
      exact absurd (z ▸ this) (Nat.lt_irrefl _)
    · rintro fl s' ⟨rfl, b5, k5', o', ta', e1, e2, e3⟩
      refine ⟨rfl, b5, ?_, o', ta', e1, e2, e3⟩
      intro z oz hz
      refine byc fun hnn => ?_
      obtain ⟨⟨o1, q1⟩, q2⟩ := k5' z oz (hk₁ _ _ (grow _ _ hz))
      refine hnn ?_; clear hnn
      exact ⟨⟨o1, q1⟩, fun n => ⟨n, fun _ => (q2 n).2 fun zz => by rw [zz, n2] at hz; cases hz⟩⟩
  · refine ⟨rfl, hp₂.objs.size + 1, o', rfl, at84 b', e1, e2, ⟨_, e3⟩, H, ⟨b', KeepX.of (KeepX.trans A₂.2 k')⟩, ((c.keep A₂.2).keep k').none, ⟨_, o', _, .ref ta', rfl, A₂.2.back n2, h1, e1, e2.trans hC.symm, e3, rfl, .inl rfl⟩, hE⟩
end
end W20
section W21
open PySem PySem.W PyProof.Rows
set_option maxHeartbeats 2000000

section
variable {G : Ctx} {fs : List Env} {r : Nat} {H : AH} {Q : V → AH → Prop} {E : AH → Prop} {l : List Nat} {a dx w la lo ln d : Addr}
theorem lookup_map {l : List (List Nat × List Nat)} {x : List Nat} : (l.map fun p => (p.1, V.str p.2)).lookup x = (l.lookup x).map V.str := by
  induction l with
  | nil => rfl
  | cons p l ih =>
    rw [List.map_cons, List.lookup_cons, List.lookup_cons]
    cases z : x == p.1 with
    | true => rfl
    | false => exact ih
theorem lookup_none_of {l : List (List Nat × List Nat)} {x : List Nat} (h : ∀ k ∈ l.map (·.1), k ≠ x) : l.lookup x = none := by
  induction l with
  | nil => rfl
  | cons p l ih =>
    rw [List.lookup_cons, beq_eq_false_iff_ne.mpr (fun z => h p.1 (by simp) z.symm)]
    exact ih fun k hk => h k (by rw [List.map_cons]; exact .tail _ hk)
theorem lookup_mem {l : List (List Nat × List Nat)} {x : List Nat} (h : x ∈ l.map (·.1)) : ∃ s, l.lookup x = some s := by
  induction l with
  | nil => cases h
  | cons p l ih =>
    rw [List.lookup_cons]
    cases z : x == p.1 with
    | true => exact ⟨_, rfl⟩
    | false =>
      rcases List.mem_cons.mp h with e | e
      · rw [e] at z; simp at z
      · exact ih e
/-- a library: a dict of texts -/
structure LibAt (H : AH) (d : Addr) (lib : List (List Nat × List Nat)) : Prop where
  h : ∃ ep, H d = some (.dict (lib.map fun p => (p.1, V.str p.2)) ep)
  m : (d == sysModules) = false
  z : lib.length < 64
  u : ∀ p ∈ lib, UW p.1
theorem LibAt.ext {H' : AH} {lib} (h : LibAt H d lib) (e : Ext H H') : LibAt H' d lib := ⟨⟨_, e _ _ h.h.choose_spec⟩, h.m, h.z, h.u⟩
theorem c_library_text (hK : GK G) (hE : G.C = .ref 84) (hr : 8 ≤ r) {lib : List (List Nat × List Nat)} {x : List Nat} {t : List Nat × List Nat} (hl : LibAt H d lib) (ht : TokAt H a t) (hx : x.length ≤ 1000)
    (h1 : ∀ s, lib.lookup x = some s → Q (.str s) H) (h2 : lib.lookup x = none → ∀ H', Ext H H' → E H') : CC G fs r (.ref 550) [.ref d, .str x, .ref a] H Q E := by
  refine byc fun hnn => ?_
  obtain ⟨⟨ep, hd⟩, hm, hz, hu⟩ := hl
  refine hnn ?_; clear hnn
  refine byc fun hnn => ?_
  obtain ⟨dxt, p, b, hq⟩ := id ht
  refine hnn ?_; clear hnn
  refine FN (env := env550) hK (lq hr rfl) rfl rfl rfl rfl rfl (ps := ["library", "name", "token"]) (fun cs hl => by obtain ⟨c1, c2, c3, rfl⟩ := three_of hl; rfl) (by decide) (by decide) rfl rfl rfl (fun _ => rfl) fun hC L hL => ?_
  simp only [locs]
  repeat wtm_at "w1"
  refine Ex_For (L := L) rfl ?_
  refine Itb_list ?_
  repeat wtm_at "w1"
  refine Cl_sorted_dict hd hm (by simpa using hz) fun D ks hD hp => ?_
  have e := Ext.upd (o := .list (ks.map V.str)) hD
  refine ⟨D, _, rfl, upd_eq, ?_⟩
  have hkm : ∀ k, k ∈ ks ↔ k ∈ lib.map (·.1) := fun k => by rw [hp.mem_iff]; simp
  refine ⟨fun i m' H' => A5 (H' = upd H D (.list (ks.map .str))) (m' "library" = some (.ref d)) (m' "name" = some (.str x)) (m' "token" = some (.ref a)) (∀ j < i, ∀ k, ks[j]? = some k → k ≠ x),
    ⟨⟨rfl, put_ne (by decide) (put_ne (by decide) put_eq), put_ne (by decide) put_eq, put_eq, fun j hj => by lia⟩, fun i m' H' q => q.1 ▸ upd_eq, fun i v m' H' B hB1 hB2 hB3 hB4 hx' ⟨eH, m1, m2, m3, q⟩ => ?_, fun m' H' ⟨eH, m1, m2, m3, q⟩ => ?_⟩⟩
  · subst eH
    obtain ⟨k, hk, rfl⟩ : ∃ k, ks[i]? = some k ∧ v = .str k := by
      simp only [Src.items, List.getElem?_map] at hx'
      refine byc fun hnn => ?_
      obtain ⟨k, h1, h2⟩ := Option.map_eq_some_iff.mp hx'
      refine hnn ?_; clear hnn
      exact ⟨k, h1, h2.symm⟩
    have hkl := (hkm k).mp (List.mem_of_getElem? hk)
    obtain ⟨pk, hpk, rfl⟩ := List.mem_map.mp hkl
    have ku := hu _ hpk
    repeat wtm_at "w1"
    refine Mt_upper ?_
    repeat wtm_at "w1"
    refine Cl_upper ku.1 (by have := ku.2.1; rw [sz24]; lia) ?_
    rw [ku.2.2]
    repeat wtm_at "w1"
    refine ite_b (fun z => ?_) fun z => ?_
    · have z' : pk.1 = x := by simpa using z
      obtain ⟨s, hs⟩ := lookup_mem hkl
      rw [z'] at hs ⊢
      repeat wtm_at "w1"
      refine GetI_dict (e _ _ hd) (v := .str s) (by rw [lookup_map, hs]; rfl) ?_
      refine hB3 _ _ _ ?_
      exact RetQ.drop hC e (h1 s hs)
    · repeat wtm_at "w1"
      first | refine hB1 _ _ ?_ | refine hB2 _ _ ?_
      refine ⟨rfl, put_ne (by decide) m1, put_ne (by decide) m2, put_ne (by decide) m3, fun j hj k hk' => ?_⟩
      by_cases zz : j = i
      · rw [zz, hk] at hk'; cases hk'; simpa using z
      · exact q j (by lia) k hk'
  · subst eH
    have hq' := e _ _ hq
    have hn : lib.lookup x = none := lookup_none_of fun k hk => by
      refine byc fun hnn => ?_
      obtain ⟨j, hj, hj2⟩ := List.mem_iff_getElem.mp ((hkm k).mpr hk)
      refine hnn ?_; clear hnn
      exact q j (by simp only [Src.items, List.length_map]; exact hj) k (by rw [List.getElem?_eq_getElem hj, hj2])
    wtm_at "w1"
    refine Ex_raise (w := .str ([110, 111, 32, 115, 117, 99, 104, 32, 116, 101, 120, 116, 32, 105, 110, 32, 116, 104, 101, 32, 108, 105, 98, 114, 97, 114, 121, 58, 32] ++ x)) (av := .tup [.int p.1, .int p.2]) hK hE (lr hr rfl) ?_ ?_ rfl rfl (h2 hn _ e) rfl
    · repeat wtm_at "w1"
      exact ⟨rfl, rfl⟩
    · repeat wtm_at "w1"
      refine BOp_cat (by simp; rw [sz24]; lia) ?_
      repeat wtm_at "w1"
      exact ⟨rfl, rfl⟩
end
end W21
section W22
open PySem PySem.W PyProof.Rows
set_option maxHeartbeats 2000000

/-! what the texts say -/
inductive Th where
  | word (w : List Nat)
  | copy (x : List Nat) (ps : List Wp)
inductive TextT : List Tk → List Th → Prop
  | nil : TextT [] []
  | word {w ts th} : UW w → w ≠ COPYw → TextT ts th → TextT (wt w :: ts) (.word w :: th)
  | copy {x ct ps ts th} : CopyT ct x ps → TextT ts th → TextT (wt COPYw :: (ct ++ ts)) (.copy x ps :: th)
def exF (ps : List Wp) : Nat → List (List Nat) → List (List Nat)
  | 0, _ => []
  | _ + 1, [] => []
  | n + 1, x :: ws => match ps.find? (fun p => standsB (x :: ws) 0 p.1) with
    | none => x :: exF ps n ws
    | some p => p.2 ++ exF ps n ((x :: ws).drop p.1.length)
def exch (ps : List Wp) (ws : List (List Nat)) : List (List Nat) := exF ps ws.length ws
theorem exF_exch {ps : List Wp} (hp : ∀ p ∈ ps, p.1 ≠ []) (n : Nat) : ∀ ws : List (List Nat), ws.length ≤ n → Exch ps ws (exF ps n ws) := by
  induction n with
  | zero => intro ws h; cases ws with
    | nil => exact .nil
    | cons x ws => cases h
  | succ n ih => intro ws h; cases ws with
    | nil => exact .nil
    | cons x ws =>
      unfold exF
      cases q : ps.find? (fun p => standsB (x :: ws) 0 p.1) with
      | none => exact .keep q (ih ws (Nat.le_of_succ_le_succ h))
      | some p =>
        have hn := hp p (List.mem_of_find?_eq_some q)
        have : 0 < p.1.length := List.length_pos_iff.mpr hn
        exact .swap q hn (ih _ (by rw [List.length_drop]; rw [List.length_cons] at h ⊢; lia))
theorem exch_exch {ps : List Wp} (hp : ∀ p ∈ ps, p.1 ≠ []) (ws) : Exch ps ws (exch ps ws) := exF_exch hp _ ws (Nat.le_refl _)
/-- what things say, where f says what a copy puts in -/
def dueT (f : List Nat → Option (List (List Nat))) : List Th → Option (List (List Nat))
  | [] => some []
  | .word w :: t => (dueT f t).map (w :: ·)
  | .copy x ps :: t => match f x with
    | none => none
    | some ws => (dueT f t).map (exch ps ws ++ ·)
def dueX (lib : List (List Nat × List Th)) : Nat → List (List Nat) → List Nat → Option (List (List Nat))
  | 0, _, _ => none
  | n + 1, names, x => if names.contains x then none else match lib.lookup x with
    | none => none
    | some th => dueT (dueX lib n (names ++ [x])) th
/-- all that is reckoned on the way is small -/
def Sm (f : List Nat → Option (List (List Nat))) (th : List Th) : Prop := ∀ k ws, dueT f (th.take k) = some ws → ws.length ≤ 100000
theorem dueT_append {f} {t u : List Th} : dueT f (t ++ u) = (dueT f t).bind fun a => (dueT f u).map (a ++ ·) := by
  induction t with
  | nil => simp [dueT]
  | cons a t ih => cases a with
    | word w =>
      simp only [List.cons_append, dueT, ih]
      cases dueT f t <;> simp [Function.comp_def]
    | copy x ps =>
      simp only [List.cons_append, dueT]
      cases f x with
      | none => rfl
      | some ws =>
        simp only [ih]
        cases dueT f t <;> simp [Function.comp_def]
theorem CopyT.ne {ct x ps} (h : CopyT ct x ps) : (∀ p ∈ ps, p.1 ≠ []) ∧ UW x := by
  refine byc fun hnn => ?_
  obtain ⟨hn, _, hu⟩ := h
  refine hnn ?_; clear hnn
  refine ⟨?_, hn.uw.1⟩
  have key : ∀ {t ps}, PairsT t ps → ∀ p ∈ ps, p.1 ≠ [] := by
    intro t ps h
    induction h with
    | nil => intro p hp; cases hp
    | cons a _ ih =>
      intro p hp
      rcases List.mem_cons.mp hp with rfl | hp
      · cases a; assumption
      · exact ih p hp
  cases hu with
  | plain => intro p hp; cases hp
  | repl a b _ =>
    intro p hp
    rcases List.mem_cons.mp hp with rfl | hp
    · cases a; assumption
    · exact key b p hp
/-- a text in columns and its things -/
def TextS (s : List Nat) (th : List Th) : Prop := (X2 fun (ls : List (List Nat)) (specs : List (List Nat × List Tk)) => A7 (s = rowsOf ls) (RowsG ls) (specs.map (·.1) = ls.map (fun l => rstripL 32 (bodyOf l))) (∀ q ∈ specs, A3 (Suf q.1 q.2) (q.1.length ≤ 1000) (∀ c ∈ q.1, c < 128)) (NoPic (specs.flatMap (·.2))) ((specs.flatMap (·.2)).length ≤ 1000000) (TextT (specs.flatMap (·.2)) th))
abbrev LibT := List (List Nat × List Nat × List Th)
def libS (lb : LibT) : List (List Nat × List Nat) := lb.map fun q => (q.1, q.2.1)
def libT (lb : LibT) : List (List Nat × List Th) := lb.map fun q => (q.1, q.2.2)
theorem lib_look {lb : LibT} {x : List Nat} : ((libS lb).lookup x = none ∧ (libT lb).lookup x = none) ∨ ∃ q ∈ lb, (libS lb).lookup x = some q.2.1 ∧ (libT lb).lookup x = some q.2.2 := by
  induction lb with
  | nil => exact .inl ⟨rfl, rfl⟩
  | cons q lb ih =>
    unfold libS libT at ih ⊢
    rw [List.map_cons, List.map_cons, List.lookup_cons, List.lookup_cons]
    cases z : x == q.1 with
    | true => exact .inr ⟨q, .head _, rfl, rfl⟩
    | false => exact ih.imp id fun ⟨q', h, h'⟩ => ⟨q', .tail _ h, h'⟩
section
variable {G : Ctx} {fs : List Env} {r : Nat} {H : AH} {Q : V → AH → Prop} {E : AH → Prop} {la d : Addr}
/-- the lines of a text to its tokens -/
theorem c_tokens_text (hK : GK G) (hr : 10 ≤ r) {ls : List (List Nat)} {specs : List (List Nat × List Tk)} (hl : LinesAt H d (ls.map fun l => rstripL 32 (bodyOf l))) (hs : specs.map (·.1) = ls.map (fun l => rstripL 32 (bodyOf l)))
    (hq : ∀ q ∈ specs, Suf q.1 q.2 ∧ q.1.length ≤ 1000 ∧ ∀ c ∈ q.1, c < 128) (hp : NoPic (specs.flatMap (·.2))) (hz : (specs.flatMap (·.2)).length ≤ 1000000) (h : ∀ H' lt, Ext H H' → H lt = none → Toks H' lt (specs.flatMap (·.2)) → Q (.ref lt) H') :
    CC G fs r (.ref 402) [.ref d] H Q E := by
  refine byc fun hnn => ?_
  obtain ⟨as, h1, h2, h3⟩ := hl
  refine hnn ?_; clear hnn
  have hls : as.length = specs.length := by rw [h2, ← hs]; simp
  refine c_tokens_of hK hr h1 hls (fun i a s ha hsi => ?_) hp hz h
  refine byc fun hnn => ?_
  obtain ⟨q1, q2, q3⟩ := hq s (List.mem_of_getElem? hsi)
  refine hnn ?_; clear hnn
  obtain ⟨dx, pl, ps, p1, p2, p3, p4⟩ := h3 i a s.1 ha (by rw [← hs, List.getElem?_map, hsi]; rfl)
  exact ⟨dx, pl, ps, p1, p2, q2, q3, by lia, (fun v hv => let ⟨i, j, e⟩ := p4 v hv; ⟨i, j, e⟩), q1⟩
end
end W22
section W23
open PySem PySem.W PyProof.Rows
set_option maxHeartbeats 2000000

theorem dueX_in {lib : List (List Nat × List Th)} {n : Nat} {names : List (List Nat)} {x : List Nat} (h : names.contains x = true) : dueX lib n names x = none := by
  cases n with
  | zero => rfl
  | succ n => unfold dueX; rw [if_pos h]
theorem dueX_out {lib : List (List Nat × List Th)} {n : Nat} {names : List (List Nat)} {x : List Nat} (h : names.contains x = false) : dueX lib (n + 1) names x = match lib.lookup x with | none => none | some th => dueT (dueX lib n (names ++ [x])) th := by
  rw [dueX, if_neg (by rw [h]; decide)]
  all_goals (cases lib.lookup x <;> rfl)
abbrev selfL : List Nat := [97, 32, 116, 101, 120, 116, 32, 116, 104, 97, 116, 32, 99, 111, 112, 105, 101, 115, 32, 105, 116, 115, 101, 108, 102, 58, 32]
theorem c_copied {G : Ctx} (hK : GK G) (hE : G.C = .ref 84) {lb : LibT} (hlb : ∀ q ∈ lb, TextS q.2.1 q.2.2) (hS : ∀ n names q, n ≤ 5 → q ∈ lb → Sm (dueX (libT lb) n names) q.2.2) (d : Addr) :
    ∀ (n : Nat) (names : List (List Nat)), names.length + n = 5 → ∀ {fs : List Env} {r : Nat} {H : AH} {Q : V → AH → Prop} {E : AH → Prop} {la ln : Addr} {as : List Addr} {ts : List Tk} {things : List Th}, 30 + n ≤ r →
      H la = some (.list (as.map .ref)) → TokL H as ts → ts.length ≤ 1000000 → LibAt H d (libS lb) → H ln = some (.list (names.map .str)) → TextT ts things → Sm (dueX (libT lb) n names) things →
      (∀ ws, dueT (dueX (libT lb) n names) things = some ws → ∀ D H', Ext H H' → H D = none → Wds H' D ws → Q (.ref D) H') →
      (dueT (dueX (libT lb) n names) things = none → ∀ H', Ext H H' → E H') → CC G fs r (.ref 557) [.ref la, .ref d, .ref ln] H Q E := by
  intro n
  induction n using Nat.strongRecOn with
  | ind n ih =>
  intro names hn fs r H Q E la ln as ts things hr hla htl hz hlib hln hT hsm h1 h2
  have hr0 := hr
  have hR : 30 ≤ r := by lia
  generalize hf : dueX (libT lb) n names = f at hsm h1 h2
  refine FN (env := env557) hK (lq hR rfl) rfl rfl rfl rfl rfl (ps := ["tokens", "library", "names"]) (fun cs hl => by obtain ⟨c1, c2, c3, rfl⟩ := three_of hl; rfl) (by decide) (by decide) rfl rfl rfl (fun _ => rfl) fun hC L hL => ?_
  simp only [locs]
  repeat wtm_at "w1"
  refine c_Walk hK (lr hR rfl) hla htl hz fun w dx H1 e1 hw0 hw1 => ?_
  repeat wtm_at "w1"
  refine ⟨by rw [sz24]; simp, fun F hF => ?_⟩
  have eF := Ext.upd (o := .list []) hF
  have kF : upd H1 F (.list []) F = some (.list []) := upd_eq
  have hF0 : H F = none := by
    cases hq : H F with
    | none => rfl
    | some o => rw [e1 _ _ hq] at hF; cases hF
  generalize upd H1 F (.list []) = H2 at eF kF
  have laF : la ≠ F := fun z => by rw [z, hF0] at hla; cases hla
  repeat wtm_at "w1"
  refine Ex_While (L := L) rfl (fun k m' H' => A6 (Ext H H') (m' "walk" = some (.ref w)) (m' "found" = some (.ref F)) (m' "library" = some (.ref d)) (m' "names" = some (.ref ln)) (X3 fun i ws th => A6 (k = th.length) (WalkAt H' w dx la as ts i) (TextT (ts.drop i) th) (Wds H' F ws) (dueT f things = (dueT f th).map (ws ++ ·)) (∀ k ws', dueT f (th.take k) = some ws' → (ws ++ ws').length ≤ 100000))) ?_ _
    ⟨e1.trans eF, put_ne (by decide) put_eq, put_eq, put_ne (by decide) (put_ne (by decide) (put_ne (by decide) put_eq)), put_ne (by decide) (put_ne (by decide) put_eq), 0, [], things, rfl, hw1.ext eF, by simpa using hT, ⟨⟨[], kF, .nil⟩, by simp, by simp⟩, by cases dueT f things <;> simp, fun k ws' q => by simpa using hsm k ws' q⟩
  rintro k m' H' B hB1 hB2 hB3 hB4 hqq
  refine byc fun hnn => ?_
  obtain ⟨eX, m1, m2, m3, m4, i, ws, th, hk, hw', hT', hF', hdue, hsm'⟩ := hqq
  refine hnn ?_; clear hnn
  have hx' := hw'.w
  repeat wtm_at "w1"
  refine (c_is_done hK (lr hR rfl) hw' ?_).cl
  repeat wtm_at "w1"
  generalize hdr : ts.drop i = rest at hT'
  cases hT' with
  | nil =>
    have : ts.length ≤ i := List.drop_eq_nil_iff.mp hdr
    refine ite_f (by simp; lia) ?_
    repeat wtm_at "w1"
    exact RetQ.now (h1 ws (by rw [hdue]; simp [dueT]) F H' eX hF0 hF')
  | @word x ts' th hu hc hT' =>
    have hit : ts[i]? = some (wt x) := drop_head hdr
    have hil : i < ts.length := (List.getElem?_eq_some_iff.mp hit).1
    refine ite_t (by simp; lia) ?_
    refine byc fun hnn => ?_
    obtain ⟨tx, hx2, hx3⟩ := hw'.tok hit
    refine hnn ?_; clear hnn
    repeat wtm_at "w1"
    refine (c_take hK (lr hR rfl) hw' hx2 ?_).cl
    have hw2 := hw'.go (m := i + 1)
    have e2 : ExtB w H' (upd H' w (.inst 469 dx (walkF la (i + 1)))) := ExtB.upd
    have hF2 := hF'.bw hx' e2
    have hx3' := hx3.bw hx' e2
    have eX2 : Ext H (upd H' w (.inst 469 dx (walkF la (i + 1)))) := fun b o hb => e2 b o (fun z => by rw [z, hw0] at hb; cases hb) (eX b o hb)
    generalize upd H' w (.inst 469 dx (walkF la (i + 1))) = H3 at hw2 e2 hF2 hx3' eX2
    refine byc fun hnn => ?_
    obtain ⟨dd, p, b, hq⟩ := id hx3'
    refine hnn ?_; clear hnn
    repeat wtm_at "w1"
    refine ite_f rfl ?_
    repeat wtm_at "w1"
    refine ite_t (by simpa using hc) ?_
    repeat wtm_at "w1"
    refine ite_t rfl ?_
    refine byc fun hnn => ?_
    obtain ⟨ds, d1, d2, d3⟩ := hF2.list
    refine hnn ?_; clear hnn
    have hz1 : (ws ++ [x]).length ≤ 100000 := hsm' 1 [x] (by simp [dueT])
    repeat wtm_at "w1"
    refine Mt_append d1 ?_
    repeat wtm_at "w1"
    refine Cl_append d1 (by rw [sz24, List.length_map, d2]; simp at hz1; lia) ?_
    repeat wtm_at "w1"
    first | refine hB1 _ _ ?_ | refine hB2 _ _ ?_
    refine ⟨th.length, by simp [hk], fun b o hb => by rw [upd_ne (fun z => by rw [z, hF0] at hb; cases hb)]; exact eX2 b o hb, put_ne (by decide) m1, put_ne (by decide) m2, put_ne (by decide) m3, put_ne (by decide) m4, i + 1, ws ++ [x], th, rfl, hw2.b d1 laF ExtB.upd, ?_, hF2.push d1 hx3' hu hz1, ?_, fun k ws' q => ?_⟩
    · have := drop_past (xs := [wt x]) (ys := ts') hdr
      simp only [List.length_singleton] at this
      rw [this]; exact hT'
    · rw [hdue]; simp [dueT, Function.comp_def]
    · have := hsm' (k + 1) (x :: ws') (by rw [List.take_succ_cons]; simp [dueT, q])
      simpa using this
  | @copy x ct ps ts' th hc hT' =>
    have hit : ts[i]? = some (wt COPYw) := drop_head hdr
    have hil : i < ts.length := (List.getElem?_eq_some_iff.mp hit).1
    refine ite_t (by simp; lia) ?_
    refine byc fun hnn => ?_
    obtain ⟨tx, hx2, hx3⟩ := hw'.tok hit
    refine hnn ?_; clear hnn
    repeat wtm_at "w1"
    refine (c_take hK (lr hR rfl) hw' hx2 ?_).cl
    have hw2 := hw'.go (m := i + 1)
    have e2 : ExtB w H' (upd H' w (.inst 469 dx (walkF la (i + 1)))) := ExtB.upd
    have hF2 := hF'.bw hx' e2
    have hx3' := hx3.bw hx' e2
    have eX2 : Ext H (upd H' w (.inst 469 dx (walkF la (i + 1)))) := fun b o hb => e2 b o (fun z => by rw [z, hw0] at hb; cases hb) (eX b o hb)
    generalize upd H' w (.inst 469 dx (walkF la (i + 1))) = H3 at hw2 e2 hF2 hx3' eX2
    have hx2' := hw2.w
    refine byc fun hnn => ?_
    obtain ⟨dd, p, b, hq⟩ := id hx3'
    refine hnn ?_; clear hnn
    repeat wtm_at "w1"
    refine ite_f rfl ?_
    repeat wtm_at "w1"
    refine ite_f rfl ?_
    repeat wtm_at "w1"
    refine ite_f rfl ?_
    repeat wtm_at "w1"
    have hd3 : ts.drop (i + 1) = ct ++ ts' := drop_past (xs := [wt COPYw]) hdr
    refine (c_read_copy hK (lr hR rfl) hw2 hd3 hc fun D vs H4 e4 hD4 hp4 hw4 => ?_).cl
    obtain ⟨hne, hux⟩ := hc.ne
    have eX4 : Ext H H4 := fun b o hb => e4 b o (fun z => by rw [z, hw0] at hb; cases hb) (eX2 b o hb)
    have hF4 := hF2.bw hx2' e4
    have hx4 := hx3'.bw hx2' e4
    have hl4 := hlib.ext eX4
    have hn4 := eX4 _ _ hln
    refine byc fun hnn => ?_
    obtain ⟨dd4, p4, b4, hq4⟩ := id hx4
    refine hnn ?_; clear hnn
    have hfault : f x = none → ∀ H'', Ext H H'' → E H'' := fun q => h2 (by rw [hdue]; simp [dueT, q])
    repeat wtm_at "w1"
    refine COp_in_list hn4 ?_
    repeat wtm_at "w1"
    refine ite_b (fun hin => ?_) fun hin => ?_
    · wtm_at "w1"
      refine Ex_raise (w := .str (selfL ++ x)) (av := .tup [.int p4.1, .int p4.2]) hK hE (lr hR rfl) ?_ ?_ rfl rfl (hfault (by rw [← hf]; exact dueX_in hin) _ eX4) rfl
      · repeat wtm_at "w1"
        exact ⟨rfl, rfl⟩
      · repeat wtm_at "w1"
        refine BOp_cat (by have := hux.2.1; simp; rw [sz24]; lia) ?_
        repeat wtm_at "w1"
        exact ⟨rfl, rfl⟩
    repeat wtm_at "w1"
    refine Cl_len_list hn4 (by simp; lia) ?_
    repeat wtm_at "w1"
    refine ite_b (fun h5 => ?_) fun h5 => ?_
    · obtain rfl : n = 0 := by simp at h5; lia
      wtm_at "w1"
      refine Ex_raise (w := .str [116, 101, 120, 116, 115, 32, 99, 111, 112, 105, 101, 100, 32, 116, 111, 111, 32, 100, 101, 101, 112]) (av := .tup [.int p4.1, .int p4.2]) hK hE (lr hR rfl) ?_ ?_ rfl rfl (hfault (by rw [← hf]; rfl) _ eX4) rfl
      · repeat wtm_at "w1"
        exact ⟨rfl, rfl⟩
      · repeat wtm_at "w1"
        exact ⟨rfl, rfl⟩
    obtain ⟨m, rfl⟩ : ∃ m, n = m + 1 := ⟨n - 1, by simp at h5; lia⟩
    have hout := dueX_out (lib := libT lb) (n := m) hin
    rw [hf] at hout
    repeat wtm_at "w1"
    refine (c_library_text hK hE (lr hR rfl) hl4 hx4 (by have := hux.2.1; lia) (fun s hs => ?_) (fun hs H'' e'' => ?_)).cl
    rotate_left
    · refine hfault ?_ _ (eX4.trans e'')
      rcases lib_look (lb := lb) (x := x) with ⟨q1, q2⟩ | ⟨q, _, q1, q2⟩
      · rw [hout, q2]
      · rw [q1] at hs; cases hs
    obtain ⟨q, hqm, q1, q2⟩ : ∃ q ∈ lb, (libS lb).lookup x = some q.2.1 ∧ (libT lb).lookup x = some q.2.2 := by
      rcases lib_look (lb := lb) (x := x) with ⟨q1, q2⟩ | z
      · rw [q1] at hs; cases hs
      · exact z
    rw [q1] at hs; cases hs
    rw [q2] at hout
    refine byc fun hnn => ?_
    obtain ⟨ls, specs, t1, t2, t3, t4, t5, t6, t7⟩ := hlb q hqm
    refine hnn ?_; clear hnn
    rw [t1]
    repeat wtm_at "w1"
    refine (c_lines_of1 hK (lr hR rfl) t2 fun D5 H5 e5 hD5 hL5 => ?_).cl
    repeat wtm_at "w1"
    refine (c_tokens_text hK (lr hR rfl) hL5 t3 (fun q hq => ⟨(t4 q hq).1, (t4 q hq).2, (t4 q hq).3⟩) t5 t6 fun H6 lt e6 hlt htk => ?_).cl
    have e46 := e5.trans e6
    have eX6 := eX4.trans e46
    have hF6 := hF4.ext e46
    have hn6 := e46 _ _ hn4
    have hw6 := hw4.ext e46
    refine byc fun hnn => ?_
    obtain ⟨ds, d1, d2, d3⟩ := hF6.list
    refine hnn ?_; clear hnn
    refine byc fun hnn => ?_
    obtain ⟨as6, a1, a2⟩ := htk
    refine hnn ?_; clear hnn
    repeat wtm_at "w1"
    refine Mt_extend d1 ?_
    repeat wtm_at "w1"
    refine ⟨by rw [sz24]; simp, fun N1 hN1 => ?_⟩
    have e7 := e46.trans (Ext.upd (o := .list [V.str x]) hN1)
    have n7 := Ext.upd (o := .list [V.str x]) hN1 _ _ hn6
    have k7 : upd H6 N1 (.list [V.str x]) N1 = some (.list [V.str x]) := upd_eq
    have f7 := Ext.upd (o := .list [V.str x]) hN1 _ _ a1
    have t7' := a2.ext (Ext.upd (o := .list [V.str x]) hN1)
    generalize upd H6 N1 (.list [V.str x]) = H7 at e7 n7 k7 f7 t7'
    refine BOp_lists n7 k7 (by simp [sizeLine_eq]; lia) fun N2 hN2 => ?_
    have e8 := e7.trans (Ext.upd (o := .list (names.map V.str ++ [V.str x])) hN2)
    have k8 : upd H7 N2 (.list (names.map V.str ++ [V.str x])) N2 = some (.list ((names ++ [x]).map V.str)) := by rw [upd_eq, List.map_append]; rfl
    have f8 := Ext.upd (o := .list (names.map V.str ++ [V.str x])) hN2 _ _ f7
    have t8 := t7'.ext (Ext.upd (o := .list (names.map V.str ++ [V.str x])) hN2)
    generalize upd H7 N2 (.list (names.map V.str ++ [V.str x])) = H8 at e8 k8 f8 t8
    repeat wtm_at "w1"
    refine (ih m (by lia) (names ++ [x]) (by simp; lia) (by lia) f8 t8 t6 (hl4.ext e8) k8 t7 (hS _ _ q (by lia) hqm) (fun us hus D9 H9 e9 hD9 hw9 => ?_) (fun hus H9 e9 => hfault (by rw [hout]; exact hus) _ (eX4.trans (e8.trans e9)))).cl
    have e49 := e8.trans e9
    have hfx : f x = some us := by rw [hout]; exact hus
    have hz9 : (ws ++ exch ps us).length ≤ 100000 := hsm' 1 (exch ps us) (by simp [dueT, hfx])
    repeat wtm_at "w1"
    refine (c_substituted hK (lr hR rfl) hw9 (e49 _ _ ((show H4 D = _ from hD4))) (hp4.ext e49) (exch_exch hne us) (by simp at hz9; lia) fun D10 H10 e10 hD10 hw10 => ?_).cl
    have e410 := e49.trans e10
    have hF10 := hF4.ext e410
    have hw10' := hw4.ext e410
    refine byc fun hnn => ?_
    obtain ⟨ds', d1', d2', d3'⟩ := hF10.list
    refine hnn ?_; clear hnn
    refine byc fun hnn => ?_
    obtain ⟨bs, b1, b2, b3⟩ := hw10.list
    refine hnn ?_; clear hnn
    repeat wtm_at "w1"
    refine Cl_extend d1' b1 (by rw [sz24, List.length_map, d2', List.length_map, b2]; simp at hz9; lia) ?_
    repeat wtm_at "w1"
    first | refine hB1 _ _ ?_ | refine hB2 _ _ ?_
    refine ⟨th.length, by simp [hk], fun b o hb => by rw [upd_ne (fun z => by rw [z, hF0] at hb; cases hb)]; exact (eX4.trans e410) b o hb, put_ne (by decide) (put_ne (by decide) (put_ne (by decide) (put_ne (by decide) m1))), put_ne (by decide) (put_ne (by decide) (put_ne (by decide) (put_ne (by decide) m2))), put_ne (by decide) (put_ne (by decide) (put_ne (by decide) (put_ne (by decide) m3))), put_ne (by decide) (put_ne (by decide) (put_ne (by decide) (put_ne (by decide) m4))), i + 1 + ct.length, ws ++ exch ps us, th, rfl, hw10'.b d1' laF ExtB.upd, ?_, hF10.more d1' hw10 b1 hz9, ?_, fun k ws' q => ?_⟩
    · rw [drop_past hd3]; exact hT'
    · rw [hdue]; simp [dueT, hfx, Function.comp_def]
    · have := hsm' (k + 1) (exch ps us ++ ws') (by rw [List.take_succ_cons]; simp [dueT, hfx, q])
      simpa using this
end W23
section W24
open PySem PySem.W PyProof.Rows
set_option maxHeartbeats 2000000
section
variable {G : Ctx} {fs : List Env} {r : Nat} {env : Env} {m : Loc} {H : AH} {Q : Fl → Loc → AH → Prop} {E EB : AH → Prop} {L : Addr}
/-- try: .. except CopyFault: return None -/
theorem Ex_Try {body : List Stmt} {np hpos pos rp vp : Pos} {vk : Nat} (hK : GK G) (hC : G.C = .ref 84) (hf : env.frame = some L)
    (h : Ex G (env :: fs) r env m (execs body env) H Q EB) (hE : ∀ H', EB H' → Q (.ret .none) noLoc H')
    (hk : env.scope.kind = .function := by rfl) (hl : env.kindOf "CopyFault" = some .globalImplicit := by rfl) (hg : env.globals = mainGlobals := by rfl) :
    Ex G (env :: fs) r env m (exec (.Try body [.ExceptHandler (some (.Name "CopyFault" np)) none [.Return (some (.Constant .none vk vp)) rp] hpos] [] [] pos) env) H Q E := fun A s a b c => by
  refine wpAny_Try_except (wpAny_mono (h A s a b c) ?_ ?_)
  · rintro f s₁ hqq
    refine byc fun hnn => ?_
    obtain ⟨fl, m₁, H₁, a₁, c₁, rf, q⟩ := hqq
    refine hnn ?_; clear hnn
    cases rf with
    | next => exact wpAny_execs_nil ⟨.next, m₁, H₁, a₁, c₁, .next, q⟩
    | brk => exact ⟨.brk, m₁, H₁, a₁, c₁, .brk, q⟩
    | cont => exact ⟨.cont, m₁, H₁, a₁, c₁, .cont, q⟩
    | ret v => exact ⟨.ret _, m₁, H₁, a₁, c₁, .ret v, q⟩
  · rintro e s₁ hqq
    refine byc fun hnn => ?_
    obtain ⟨H₁, a₁, c₁, x, q⟩ := hqq
    refine hnn ?_; clear hnn
    refine Exc_note a a₁.1 hf x (fun _ => a₁.2.back) fun ea T h₁ S he x₁ se₁ d₁ n₁ => ?_
    subst he
    have base : ∀ c, s.heap.get? c = none → G.s₀.heap.get? c = none := fun c hc => by
      cases z : G.s₀.heap.get? c with
      | none => rfl
      | some o => rw [b.base c o z] at hc; cases hc
    have b₁ : Rel G (env :: fs) H₁ { s₁ with heap := h₁ } := a₁.1.sameE (t := s₁.toks) se₁ (fun c hc => ⟨(n₁ c hc).2, base c (n₁ c hc).1⟩) d₁
    have k₁ := se₁.keep a₁.2 fun c hc => (n₁ c hc).1
    have c₂ := c₁.sameE se₁ d₁
    have qT : s.heap.get? T = none ∧ H₁ T = none := by obtain ⟨_, _, _, _, _, _, _, _, _, _, _, _, _, qh, qH, _⟩ := x₁; exact ⟨qh, qH⟩
    have nT : ∀ c ∈ [T], s.heap.get? c = none ∧ H₁ c = none := fun c hc => by rw [List.mem_singleton.mp hc]; exact qT
    refine Exc_flight (s := { s₁ with heap := h₁ }) (F := frs (env :: fs)) x₁ fun h₂ x₂ se₂ d₂ => ?_
    have b₂ : Rel G (env :: fs) H₁ { s₁ with heap := h₂ } := b₁.sameE (t := s₁.toks) se₂ (fun c hc => ⟨(nT c hc).2, base c (nT c hc).1⟩) d₂
    have k₂ := se₂.keep k₁ fun c hc => (nT c hc).1
    have c₃ := c₂.sameE se₂ d₂
    refine wpAny_handleBy_cons (codeAny_handlers_test ?_) (by intro q; cases q)
    refine Calls.Name_function_global hk hl (Calls.loadGlobal_global (by rw [hg]; exact b₂.topK.g) (mg_of b₂.keepK b₂.topK.g (show nsIn G.K mainGlobals "CopyFault" = some (some (.ref 84)) by rw [hK]; rfl)) ?_) (by decide)
    refine byc fun hnn => ?_
    obtain ⟨nm, qn, bs, sn, sub, ab, col, dd, k0, kk1, kk2, k3, k5, hcls⟩ := cls84'
    refine hnn ?_; clear hnn
    have hC₂ := b₂.keepK _ _ (hK ▸ hcls G.w.params)
    refine byc fun hnn => ?_
    obtain ⟨oe, vs, a0, oT, ts, -, -, y3, y4, y5, -⟩ := id x₂
    refine hnn ?_; clear hnn
    refine byc fun hnn => ?_
    obtain ⟨hp, gg, dw, tk, os⟩ := s₁
    refine hnn ?_; clear hnn
    refine wpAny_excMatches_sub_self (h := h₂) hC₂ y3 (y4.trans hC) rfl (codeAny_handlers_suite ?_)
    refine Exc_flight (s := ⟨h₂, gg, dw, tk, os⟩) (F := frs (env :: fs)) x₂ fun h₃ x₃ se₃ d₃ => ?_
    have b₃ : Rel G (env :: fs) H₁ ⟨h₃, gg, dw, tk, os⟩ := b₂.sameE (t := tk) se₃ (fun c hc => ⟨(nT c hc).2, base c (nT c hc).1⟩) d₃
    have k₃ := se₃.keep k₂ fun c hc => (nT c hc).1
    have c₄ := c₃.sameE se₃ d₃
    refine wpAny_execs_cons (wpAny_Return_some (wpAny_Constant_none ?_))
    exact ⟨.ret .none, noLoc, H₁, ⟨b₃, k₃⟩, c₄, .ret .none, hE H₁ q⟩
end
end W24
section W25
open PySem PySem.W PyProof.Rows
set_option maxHeartbeats 2000000

section
variable {G : Ctx} {fs : List Env} {r : Nat} {H : AH} {Q : V → AH → Prop} {E : AH → Prop} {la d : Addr}
abbrev REPLACEw : List Nat := [82, 69, 80, 76, 65, 67, 69]
theorem c_expand (hK : GK G) (hE : G.C = .ref 84) {lb : LibT} (hlb : ∀ q ∈ lb, TextS q.2.1 q.2.2) (hS : ∀ n names q, n ≤ 5 → q ∈ lb → Sm (dueX (libT lb) n names) q.2.2) (hr : 40 ≤ r) {as : List Addr} {ts : List Tk} {th : List Th}
    (hla : H la = some (.list (as.map .ref))) (htl : TokL H as ts) (hz : ts.length ≤ 1000000) (hlib : LibAt H d (libS lb)) (hT : TextT ts th) (hsm : Sm (dueX (libT lb) 5 []) th)
    (hR : ∀ ws, dueT (dueX (libT lb) 5 []) th = some ws → ∀ x ∈ ws, x ≠ REPLACEw)
    (h1 : ∀ ws, dueT (dueX (libT lb) 5 []) th = some ws → ∀ D H', Ext H H' → H D = none → Wds H' D ws → Q (.ref D) H')
    (h2 : dueT (dueX (libT lb) 5 []) th = none → ∀ H', Ext H H' → E H') : CC G fs r (.ref 571) [.ref la, .ref d] H Q E := by
  refine FN (env := env571) hK (lq hr rfl) rfl rfl rfl rfl rfl (ps := ["tokens", "library"]) (fun cs hl => by obtain ⟨c1, c2, rfl⟩ := two_of hl; rfl) (by decide) (by decide) rfl rfl rfl (fun _ => rfl) fun hC L hL => ?_
  simp only [locs]
  repeat wtm_at "w1"
  refine ⟨by rw [sz24]; simp, fun N hN => ?_⟩
  have e1 := Ext.upd (o := .list []) hN
  have k1 : upd H N (.list []) N = some (.list (([] : List (List Nat)).map .str)) := upd_eq
  generalize upd H N (.list []) = H1 at e1 k1
  repeat wtm_at "w1"
  refine (c_copied hK hE hlb hS d 5 [] rfl (by lia) (e1 _ _ hla) (htl.ext e1) hz (hlib.ext e1) k1 hT hsm (fun ws hws D H2 e2 hD w2 => ?_) (fun hws H2 e2 => h2 hws _ (e1.trans e2))).cl
  repeat wtm_at "w1"
  refine (c_replaced_all hK (lr hr rfl) w2 (hR ws hws) fun D3 H3 e3 hD3 w3 => ?_).cl
  refine RetQ.now (h1 ws hws D3 H3 (e1.trans (e2.trans e3)) ?_ w3)
  cases hq : H D3 with
  | none => rfl
  | some o => rw [e2 _ _ (e1 _ _ hq)] at hD3; cases hD3
theorem c_read_tokens (hK : GK G) (hE : G.C = .ref 84) {lb : LibT} (hlb : ∀ q ∈ lb, TextS q.2.1 q.2.2) (hS : ∀ n names q, n ≤ 5 → q ∈ lb → Sm (dueX (libT lb) n names) q.2.2) (hr : 45 ≤ r) {s : List Nat} {th : List Th}
    (hs : TextS s th) (hlib : LibAt H d (libS lb)) (hsm : Sm (dueX (libT lb) 5 []) th)
    (hR : ∀ ws, dueT (dueX (libT lb) 5 []) th = some ws → ∀ x ∈ ws, x ≠ REPLACEw)
    (h1 : ∀ ws, dueT (dueX (libT lb) 5 []) th = some ws → ∀ D H', Ext H H' → H D = none → Wds H' D ws → Q (.ref D) H')
    (h2 : dueT (dueX (libT lb) 5 []) th = none → ∀ H', Ext H H' → E H') : CC G fs r (.ref 579) [.str s, .ref d] H Q E := by
  obtain ⟨ls, specs, rfl, t2, t3, t4, t5, t6, t7⟩ := hs
  refine FD (env := env579) (dvals := [.bool false]) (dcs := [.bool false]) hK (lq hr rfl) rfl rfl rfl rfl rfl (ps := ["text", "library", "is_debugging"]) (fun s X cs hl => by obtain ⟨c1, c2, rfl⟩ := two_of hl; exact binds_K X rfl rfl rfl rfl rfl) (fun _ _ _ _ => .cons (.bool _) .nil) (by decide) (by decide) rfl rfl rfl (fun _ => rfl) fun hC L hL => ?_
  simp only [locs, List.append_nil, List.cons_append, List.nil_append]
  repeat wtm_at "w1"
  refine (c_lines_of2 hK (lr hr rfl) t2 fun D5 H5 e5 hD5 hL5 => ?_).cl
  repeat wtm_at "w1"
  refine (c_tokens_text hK (lr hr rfl) hL5 t3 (fun q hq => ⟨(t4 q hq).1, (t4 q hq).2, (t4 q hq).3⟩) t5 t6 fun H6 lt e6 hlt htk => ?_).cl
  refine byc fun hnn => ?_
  obtain ⟨as6, a1, a2⟩ := htk
  refine hnn ?_; clear hnn
  have e := e5.trans e6
  repeat wtm_at "w1"
  refine (c_expand hK hE hlb hS (by lia) a1 a2 t6 (hlib.ext e) t7 hsm hR (fun ws hws D H' e' hD w' => ?_) (fun hws H' e' => h2 hws _ (e.trans e'))).cl
  refine RetQ.now (h1 ws hws D H' (e.trans e') ?_ w')
  cases hq : H D with
  | none => rfl
  | some o => rw [e _ _ hq] at hD; cases hD
end
end W25
section W26
open PySem PySem.W PyProof.Rows
set_option maxHeartbeats 2000000

section
variable {G : Ctx} {fs : List Env} {r : Nat} {env : Env} {m : Loc} {H : AH} {Q : V → AH → Prop} {E : AH → Prop}
theorem RVs.ints {h : Heap} {H : AH} {vs : List Value} {ns : List Int} (x : IntsAre vs ns) : RVs h H (ns.map .int) vs := by
  induction x with
  | nil => exact .nil
  | cons n t r ih => exact .cons (.int n t) ih
/-- a slice of the script -/
theorem Ev_SliceB {value : Expr} {lower upper : Option Expr} {p pos : Pos} {la : Addr} {vs : List Value} {ns : List Int} (hl : G.s₀.heap.IsList la vs.toArray) (hi : IntsAre vs ns) (hz : ns.length ≤ sizeLine)
    (h : Ev G fs r env m (eval value env) H (fun o H₁ => o = .ref la ∧ Pt G fs r env m lower H₁ (fun lo H₂ => Pt G fs r env m upper H₂ (fun hi H₃ => ∀ D, H₃ D = none → Q (.ref D) (upd H₃ D (.list (cut (ns.map V.int) lo hi)))) E) E) E)
    (hs : ∀ o i, subscripted (.Slice lower upper none p) false o i = operate [i, o] (getItem o i) := by intros; with_unfolding_all rfl) : Ev G fs r env m (eval (.Subscript value (.Slice lower upper none p) pos) env) H Q E := fun A s a b c => by
  refine Subscript_ (wpAny_mono (h A s a b c) ?_ fun _ _ z => z)
  rintro co s₁ ⟨o, H₁, a₁, v₁, rfl, h₁⟩
  cases v₁
  refine wpAny_Slice (wpAny_mono (Pt.run h₁ a a₁.1 (c.keep a₁.2)) ?_ fun _ _ z => ex_from a₁ z)
  rintro _ s₂ ⟨lo, H₂, t₂, a₂, rfl, h₂⟩
  have a' := a₁.trans a₂
  refine wpAny_mono (Pt.run h₂ a a₂.1 (c.keep a'.2)) ?_ fun _ _ z => ex_from a' z
  rintro _ s₃ ⟨hi', H₃, t₃, a₃, rfl, q⟩
  have a'' := a'.trans a₃
  refine evalPart_none_step ?_
  have P₃ : After G fs H₃ s₃ H₃ { s₃ with heap := s₃.heap.push { cls := .type "slice", data := .fields #[partValue (lo.map fun n => (Int.ofNat n, t₂)), partValue (hi'.map fun n => (Int.ofNat n, t₃)), .none] } } := After.push (t := s₃.toks) a₃.1
  have rs : RVs s₃.heap H₃ (ns.map V.int) vs := RVs.ints hi
  have L : Heap.IsList (s₃.heap.push { cls := .type "slice", data := .fields #[partValue (lo.map fun n => (Int.ofNat n, t₂)), partValue (hi'.map fun n => (Int.ofNat n, t₃)), .none] }) la vs.toArray := hl.at fun o e => P₃.1.base la o e
  have z1 : vs.length = ns.length := by have := rs.length; simpa using this.symm
  have pv : ∀ (x : Option Nat) (t : Tok), IsPart (partValue (x.map fun n => (Int.ofNat n, t))) (x.map Int.ofNat) := fun x t => by
    cases x
    · exact .none
    · exact .int _ _
  refine tail_any (T := "list") L.typeIs slot_list_getitem.lookup (wpAny_getItem_list_slice L (Heap.IsSliceOf.new ..) (pv lo t₂) (pv hi' t₃) .none (by simp) ?_ (by simp; lia)) (hs _ _)
  have n₃ := P₃.1.freeSize
  refine ⟨.ref _, _, (a''.trans P₃).trans (After.new (t := s₃.toks) (o := .list (Mine.cut (ns.map V.int) lo hi')) P₃.1 push_keep size_none ⟨_, 0, Heap.get?_push_size _ rfl, ?_⟩), .ref _, q _ n₃⟩
  rw [pick_eq]
  exact ((RVs.ints hi).cut lo hi').mono (X := fun _ => False) (Keep.of_new push_keep size_none)
end
section
variable {G : Ctx} {fs : List Env} {r : Nat} {H : AH} {Q : V → AH → Prop} {E : AH → Prop} {b : Addr}
def boxL (c : Addr) (g st : Int) (p : Nat) : List V := [.ref c, .int g, .int st, .int p]
/-- the box that draws -/
def BoxAt (H : AH) (b c : Addr) (n : Nat) : Prop := (X4 fun (ns : List Int) (g st : Int) (p : Nat) => A6 (H b = some (.list (boxL c g st p))) (H c = some (.list (ns.map .int))) (ns.length ≤ 1000) (0 ≤ st) (st < 2147483647) (p ≤ n))
theorem c_law_box (hK : GK G) (hr : 2 ≤ r) {la : Addr} {vs : List Value} {ns : List Int} (hl : G.s₀.heap.IsList la vs.toArray) (hi : IntsAre vs ns) (hz : ns.length ≤ 1000)
    (h : ∀ B c H', Ext H H' → H B = none → BoxAt H' B c 0 → Q (.ref B) H') : CC G fs r (.ref 584) [.ref la] H Q E := by
  refine FN (env := env584) hK (lq hr rfl) rfl rfl rfl rfl rfl (ps := ["script"]) (fun cs hl => by obtain ⟨c1, rfl⟩ := one_of hl; rfl) (by decide) (by decide) rfl rfl rfl (fun _ => rfl) fun hC L hL => ?_
  simp only [locs]
  repeat wtm_at "w1"
  refine Ex_AssignCompMF noLoc id (fun _ => true) (Itb_list ?_) rfl no_cl no_mC rfl rfl rfl (by decide) (by decide) rfl rfl (by decide) (fun _ => rfl) rfl
  refine Ev_SliceB hl hi (by rw [sizeLine]; lia) ?_ (by intros; with_unfolding_all rfl)
  repeat wtm_at "w1"
  refine ⟨rfl, ?_⟩
  repeat wtm_at "w1"
  intro D hD
  rw [show (none : Option Nat) = none from rfl, cut_to, ← List.map_take]
  have hz' : (ns.take 48).length ≤ 48 := by simp; lia
  generalize ns.take 48 = ns at hz'
  have eD := Ext.upd (o := .list (ns.map V.int)) hD
  have kD : upd H D (.list (ns.map V.int)) D = some (.list (ns.map V.int)) := upd_eq
  generalize upd H D (.list (ns.map V.int)) = H1 at eD kD
  refine ⟨D, _, rfl, kD, ⟨by simp [Src.items]; rw [sizeLine]; lia, fun D2 o hD2 => Ext.upd hD2 _ _ kD, fun _ _ _ _ _ _ _ => ⟨rfl, rfl⟩, fun C D2 o i v hv _ hD2 => ?_⟩, fun D2 hD2 => ?_⟩
  · obtain ⟨n, hn, rfl⟩ : ∃ n ∈ ns, v = .int n := by
      refine byc fun hnn => ?_
      obtain ⟨n, h1, h2⟩ := List.mem_map.mp (List.mem_of_getElem? hv)
      refine hnn ?_; clear hnn
      exact ⟨n, h1, h2.symm⟩
    repeat wtm_at "w1"
    exact ⟨rfl, rfl⟩
  rw [List.filter_eq_self.mpr fun _ _ => rfl, List.map_id]
  have e2 := eD.trans (Ext.upd (o := .list (ns.map V.int)) hD2)
  have kC : upd H1 D2 (.list (Src.items (.list D (ns.map V.int)))) D2 = some (.list (ns.map V.int)) := upd_eq
  change Ext H (upd H1 D2 (.list (Src.items (.list D (ns.map V.int))))) at e2
  generalize upd H1 D2 (.list (Src.items (.list D (ns.map V.int)))) = H2 at e2 kC
  wtm_at "w1"
  wtm_at "w1"
  wtm_at "w1"
  wtm_at "w1"
  refine Ex.mono (Q := fun fl m' H' => fl = .next ∧ H2 = H' ∧ m' "cells" = some (.ref D2) ∧ ∃ g : Int, m' "great" = some (.int g)) ?_ ?_ fun _ z => z
  · repeat wtm_at "w1"
    refine Tr_list kC (by simp; lia) ?_
    refine ite_b (fun z => ?_) fun z => ?_
    · obtain ⟨n, ns, rfl⟩ : ∃ n ns', ns = n :: ns' := by
        cases ns with
        | nil => simp at z
        | cons n ns => exact ⟨n, ns, rfl⟩
      repeat wtm_at "w1"
      refine GetI_list kC (idx (by lia)) rfl rfl ?_
      repeat wtm_at "w1"
      refine BOp_pow (by lia) (by decide) ?_
      repeat wtm_at "w1"
      refine ite_b (fun z => ?_) fun z => ?_
      · repeat wtm_at "w1"
        refine ite_t rfl ?_
        repeat wtm_at "w1"
        refine GetI_list kC (idx (by lia)) rfl rfl ?_
        repeat wtm_at "w1"
        refine BOp_div (by lia) (by unfold Builtin.divisionGoesByPylong; exact Bool.and_eq_false_iff.mpr (.inl (by decide))) ?_
        repeat wtm_at "w1"
        refine BOp_pow (by lia) (by decide) ?_
        repeat wtm_at "w1"
        refine BOp_mod (by decide) ?_
        repeat wtm_at "w1"
        exact ⟨rfl, rfl, put_ne (by decide) (put_ne (by decide) put_eq), _, put_eq⟩
      · refine ite_f rfl ?_
        repeat wtm_at "w1"
        exact ⟨rfl, rfl, put_ne (by decide) put_eq, _, put_eq⟩
    · refine ite_f rfl ?_
      repeat wtm_at "w1"
      exact ⟨rfl, rfl, put_ne (by decide) put_eq, _, put_eq⟩
  rintro fl m' H' ⟨rfl, rfl, m1, g, m2⟩
  show Ex G (env584 L :: fs) (r - 1) (env584 L) _ _ _ _ _
  repeat wtm_at "w1"
  refine Ex_For (L := L) rfl ?_
  refine Itb_list ?_
  repeat wtm_at "w1"
  refine ⟨D2, _, rfl, kC, ?_⟩
  refine ⟨fun i m' H'' => A4 (H2 = H'') (m' "cells" = some (.ref D2)) (m' "great" = some (.int g)) (∃ st : Int, A3 (m' "state" = some (.int st)) (0 ≤ st) (st < 2147483647)),
    ⟨⟨rfl, put_ne (by decide) m1, put_ne (by decide) m2, 1, put_eq, by lia, by lia⟩, fun i m' H' q => q.1 ▸ kC, fun i v m' H'' B hB1 hB2 hB3 hB4 hx ⟨e, m1, m2, st, m3, p1, p2⟩ => ?_, fun m' H'' ⟨e, m1, m2, st, m3, p1, p2⟩ => ?_⟩⟩
  · subst e
    obtain ⟨n, hn, rfl⟩ : ∃ n ∈ ns, v = .int n := by
      refine byc fun hnn => ?_
      obtain ⟨n, h1, h2⟩ := List.mem_map.mp (List.mem_of_getElem? hx)
      refine hnn ?_; clear hnn
      exact ⟨n, h1, h2.symm⟩
    repeat wtm_at "w1"
    refine BOp_mul (IntMulOk.of_right (intBits_le_64 (by decide) (by decide))) ?_
    repeat wtm_at "w1"
    refine BOp_mod (by decide) ?_
    repeat wtm_at "w1"
    refine BOp_mod (by decide) ?_
    repeat wtm_at "w1"
    first | refine hB1 _ _ ?_ | refine hB2 _ _ ?_
    exact ⟨rfl, put_ne (by decide) (put_ne (by decide) m1), put_ne (by decide) (put_ne (by decide) m2), _, put_eq, Int.fmod_nonneg_of_pos _ (by decide), Int.fmod_lt_of_pos _ (by decide)⟩
  · subst e
    repeat wtm_at "w1"
    refine ⟨by rw [sz24]; simp, fun B hB => RetQ.now (h B D2 _ (e2.updT hB) ?_ ⟨ns, g, st, 0, upd_eq, Ext.upd hB _ _ kC, Nat.le_trans hz' (by decide), p1, p2, Nat.le_refl _⟩)⟩
    cases hq : H B with
    | none => rfl
    | some o => rw [e2 _ _ hq] at hB; cases hB
end
end W26
section W27
open PySem PySem.W PyProof.Rows
set_option maxHeartbeats 2000000

theorem fmod_nat {i : Int} {k : Nat} (hk : 2 ≤ k) : ∃ d : Nat, i.fmod k = (d : Int) ∧ d < k := by
  have h1 := Int.fmod_nonneg_of_pos i (b := (k : Int)) (by lia)
  have h2 := Int.fmod_lt_of_pos i (b := (k : Int)) (by lia)
  exact ⟨(i.fmod k).toNat, by lia, by lia⟩
section
variable {G : Ctx} {fs : List Env} {r : Nat} {H : AH} {Q : V → AH → Prop} {E : AH → Prop} {b c : Addr}
theorem c_law_draw (hK : GK G) (hr : 1 ≤ r) {n k : Nat} (hb : BoxAt H b c n) (hn : n ≤ 1000) (hk : 2 ≤ k ∧ k ≤ 100)
    (h : ∀ H' (d : Nat), ExtB b H H' → BoxAt H' b c (n + 1) → d < k → Q (.int (d : Int)) H') : CC G fs r (.ref 591) [.ref b, .int (k : Int)] H Q E := by
  refine byc fun hnn => ?_
  obtain ⟨ns, g, st, p, h1, h2, hz, s0, s1, hp⟩ := hb
  refine hnn ?_; clear hnn
  obtain ⟨hk1, hk2⟩ := hk
  have cb : c ≠ b := fun z => by rw [z, h1] at h2; cases ns <;> simp [boxL] at h2
  have k0 : (k : Int) ≠ 0 := by lia
  refine FN (env := env591) hK (lq hr rfl) rfl rfl rfl rfl rfl (ps := ["box", "limit"]) (fun cs hl => by obtain ⟨c1, c2, rfl⟩ := two_of hl; rfl) (by decide) (by decide) rfl rfl rfl (fun _ => rfl) fun hC L hL => ?_
  simp only [locs]
  repeat wtm_at "w1"
  refine GetI_list h1 (idx (n := 3) (by decide)) (n := 3) rfl rfl ?_
  repeat wtm_at "w1"
  refine SetI_list h1 (idx (n := 3) (by decide)) (Nat.le_of_ble_eq_true rfl) ?_
  have k1 : upd H b (.list ((boxL c g st p).set (3 : Int).toNat (.int ((p : Int) + 1)))) b = some (.list (boxL c g st (p + 1))) := upd_eq
  have e1 : ExtB b H (upd H b (.list ((boxL c g st p).set (3 : Int).toNat (.int ((p : Int) + 1))))) := ExtB.upd
  generalize upd H b (.list _) = H1 at k1 e1
  have hp' : p + 1 ≤ n + 1 := by lia
  have h2' := e1 _ _ cb h2
  repeat wtm_at "w1"
  refine GetI_list k1 (idx (n := 1) (by decide)) (n := 1) rfl rfl ?_
  repeat wtm_at "w1"
  refine ite_b (fun hg => ?_) fun hg => ?_
  · repeat wtm_at "w1"
    refine GetI_list k1 (idx (n := 1) (by decide)) (n := 1) rfl rfl ?_
    repeat wtm_at "w1"
    refine BOp_mod k0 ?_
    refine byc fun hnn => ?_
    obtain ⟨d, hd, hdk⟩ := fmod_nat (i := g) hk1
    refine hnn ?_; clear hnn
    rw [hd]
    repeat wtm_at "w1"
    refine GetI_list k1 (idx (n := 1) (by decide)) (n := 1) rfl rfl ?_
    repeat wtm_at "w1"
    refine BOp_div k0 (PyProof.noPylong_small (by lia)) ?_
    repeat wtm_at "w1"
    refine SetI_list k1 (idx (n := 1) (by decide)) (Nat.le_of_ble_eq_true rfl) ?_
    repeat wtm_at "w1"
    exact RetQ.now (h _ d (e1.trans ExtB.upd) ⟨ns, _, st, p + 1, upd_eq, by rw [upd_ne cb]; exact h2', hz, s0, s1, hp'⟩ hdk)
  · repeat wtm_at "w1"
    refine GetI_list k1 (idx (n := 2) (by decide)) (n := 2) rfl rfl ?_
    repeat wtm_at "w1"
    refine BOp_mul (IntMulOk.of_right (intBits_le_64 (by decide) (by decide))) ?_
    repeat wtm_at "w1"
    refine BOp_mul (IntMulOk.of_right (intBits_le_64 (by lia) (by lia))) ?_
    repeat wtm_at "w1"
    refine BOp_mod (by decide) ?_
    have t0 := Int.fmod_nonneg_of_pos (st * 16807 + (p : Int) * p + 29) (b := 2147483647) (by decide)
    have t1 := Int.fmod_lt_of_pos (st * 16807 + (p : Int) * p + 29) (b := 2147483647) (by decide)
    generalize (st * 16807 + (p : Int) * p + 29).fmod 2147483647 = st' at t0 t1
    repeat wtm_at "w1"
    refine SetI_list k1 (idx (n := 2) (by decide)) (Nat.le_of_ble_eq_true rfl) ?_
    have k2 : upd H1 b (.list ((boxL c g st (p + 1)).set (2 : Int).toNat (.int st'))) b = some (.list (boxL c g st' (p + 1))) := upd_eq
    have e2 : ExtB b H (upd H1 b (.list ((boxL c g st (p + 1)).set (2 : Int).toNat (.int st')))) := e1.trans ExtB.upd
    have h3 : upd H1 b (.list ((boxL c g st (p + 1)).set (2 : Int).toNat (.int st'))) c = some (.list (ns.map .int)) := by rw [upd_ne cb]; exact h2'
    generalize upd H1 b (.list _) = H2 at k2 e2 h3
    have fin : BoxAt H2 b c (n + 1) := ⟨ns, g, st', p + 1, k2, h3, hz, t0, t1, hp'⟩
    repeat wtm_at "w1"
    refine GetI_list k2 (idx (n := 0) (by decide)) (n := 0) rfl rfl ?_
    repeat wtm_at "w1"
    refine Cl_len_list h3 (by rw [List.length_map]; lia) ?_
    repeat wtm_at "w1"
    refine ite_b (fun hg => ?_) fun hg => ?_
    · have hpl : p < ns.length := by simpa using hg
      repeat wtm_at "w1"
      refine GetI_list k2 (idx (n := 0) (by decide)) (n := 0) rfl rfl ?_
      repeat wtm_at "w1"
      refine GetI_list h3 (idx (n := p) (by lia)) (n := p) (v := .int ns[p]) (by simp) (by rw [List.getElem?_map, List.getElem?_eq_getElem hpl]; rfl) ?_
      repeat wtm_at "w1"
      refine BOp_mod k0 ?_
      refine byc fun hnn => ?_
      obtain ⟨d, hd, hdk⟩ := fmod_nat (i := ns[p]) hk1
      refine hnn ?_; clear hnn
      rw [hd]
      exact RetQ.now (h H2 d e2 fin hdk)
    · repeat wtm_at "w1"
      refine GetI_list k2 (idx (n := 2) (by decide)) (n := 2) rfl rfl ?_
      repeat wtm_at "w1"
      refine BOp_div (by decide) (PyProof.noPylong_small (by decide)) ?_
      repeat wtm_at "w1"
      have q0 : 0 ≤ st'.fdiv 3 := Int.fdiv_nonneg t0 (by decide)
      have q1 : st'.fdiv 3 < 2 ^ 31 := by rw [Int.fdiv_eq_ediv_of_nonneg _ (by decide)]; lia
      refine BOp_pow (by decide) (by have := intBits_le_64 (k := st'.fdiv 3) (by lia) (by lia); lia) ?_
      repeat wtm_at "w1"
      refine BOp_mod k0 ?_
      refine byc fun hnn => ?_
      obtain ⟨d, hd, hdk⟩ := fmod_nat (i := st'.fdiv 3 ^ (3 : Int).toNat) hk1
      refine hnn ?_; clear hnn
      rw [hd]
      exact RetQ.now (h H2 d e2 fin hdk)
end
end W27
section W28
open PySem PySem.W PyProof.Rows
set_option maxHeartbeats 2000000

theorem BoxAt.ext {H H' : AH} {b c : Addr} {n : Nat} (h : BoxAt H b c n) (e : Ext H H') : BoxAt H' b c n := by
  obtain ⟨ns, g, st, p, h1, h2, h3, h4, h5, h6⟩ := h
  exact ⟨ns, g, st, p, e _ _ h1, e _ _ h2, h3, h4, h5, h6⟩
theorem BoxAt.le {H : AH} {b c : Addr} {n m : Nat} (h : BoxAt H b c n) (l : n ≤ m) : BoxAt H b c m := by
  obtain ⟨ns, g, st, p, h1, h2, h3, h4, h5, h6⟩ := h
  exact ⟨ns, g, st, p, h1, h2, h3, h4, h5, Nat.le_trans h6 l⟩
theorem BoxAt.ne {H : AH} {b c : Addr} {n : Nat} (h : BoxAt H b c n) {D : Addr} (hD : H D = none) : D ≠ b ∧ D ≠ c := by
  refine byc fun hnn => ?_
  obtain ⟨ns, g, st, p, h1, h2, h3, h4, h5, h6⟩ := h
  refine hnn ?_; clear hnn
  exact ⟨fun z => by (rw [z, h1] at hD; cases hD), fun z => by (rw [z, h2] at hD; cases hD)⟩
theorem BoxAt.up {H : AH} {b c D : Addr} {o : O} {n : Nat} (h : BoxAt H b c n) (k : D ≠ b ∧ D ≠ c) : BoxAt (upd H D o) b c n := by
  refine byc fun hnn => ?_
  obtain ⟨ns, g, st, p, h1, h2, h3, h4, h5, h6⟩ := h
  refine hnn ?_; clear hnn
  exact ⟨ns, g, st, p, by rw [upd_ne k.1.symm]; exact h1, by rw [upd_ne k.2.symm]; exact h2, h3, h4, h5, h6⟩
/-- what is not b and new at H' was new before -/
theorem ExtB.new {H H' : AH} {b D : Addr} (e : ExtB b H H') (n : D ≠ b) (h : H' D = none) : H D = none := by
  cases q : H D with
  | none => rfl
  | some o => rw [e _ _ n q] at h; cases h
/-- D, new, changes too -/
theorem ExtB.upn {H H' : AH} {b D : Addr} {o : O} (e : ExtB b H H') (n : H D = none) : ExtB b H (Mine.upd H' D o) :=
  fun a o' na ha => by rw [upd_ne (fun z => by rw [z, n] at ha; cases ha)]; exact e a o' na ha
theorem ite_tt {X Y : Prop} (h : X) : if true = true then X else Y := h
def ABCD : List (List Nat) := [[65], [66], [67], [68]]
section
variable {G : Ctx} {fs : List Env} {r : Nat} {H : AH} {Q : V → AH → Prop} {E : AH → Prop} {b c : Addr}
theorem c_law_words (hK : GK G) (hr : 4 ≤ r) {n : Nat} (hb : BoxAt H b c n) (hn : n ≤ 900)
    (h : ∀ D H' (ws : List (List Nat)), ExtB b H H' → H D = none → H' D = some (.list (ws.map .str)) → BoxAt H' b c (n + 3) → ws.length ≤ 2 → (∀ w ∈ ws, w ∈ ABCD) → Q (.ref D) H') : CC G fs r (.ref 596) [.ref b] H Q E := by
  refine FC (env := env596) hK (lq hr rfl) rfl rfl rfl rfl rfl (ps := ["box"]) (fun cs hl => by obtain ⟨c1, rfl⟩ := one_of hl; rfl) rfl (by intro p hp; rcases List.mem_cons.mp hp with rfl | hp; exact .inr ⟨rfl, fun n => rfl⟩; cases hp) (by intro n p hp; rcases List.mem_cons.mp hp with rfl | hp; exact rfl; cases hp) rfl rfl rfl (fun _ => rfl) fun hC L hL => ?_
  simp only [locs]
  repeat wtm_at "w1"
  refine Ev_ListComp (put noLoc "box" (.ref b)) (Itb_range (nr hK) ?_ rfl rfl rfl rfl rfl) rfl (fun p hp => hp) (one_mC put_eq (by show some NameKind.cell ≠ some NameKind.local; decide) (by show some NameKind.cell ≠ some NameKind.local; decide) rfl) rfl (by decide) (by decide) rfl rfl (by decide) (fun _ => rfl)
  repeat wtm_at "w1"
  refine (c_law_draw (k := 3) hK (lr hr rfl) hb (by lia) (by decide) fun H1 d e1 hb1 hd => ?_).cl
  refine ⟨d, rfl, by lia, fun D i acc H' => A3 (ExtB b H1 H') (BoxAt H' b c (n + 1 + i)) (∃ ws : List (List Nat), A4 (acc = ws.map .str) (ws.length = i) (i ≤ 2) (∀ w ∈ ws, w ∈ ABCD)),
    fun D hD => ⟨⟨(Ext.upd hD).b, hb1.ext (Ext.upd hD), [], rfl, rfl, Nat.zero_le _, by simp⟩, fun i acc H' q => ?_, fun C i v acc H' hv q hD' => ?_⟩, fun D acc H' hD hD' q => ?_⟩
  · obtain ⟨_, _, ws, rfl, hl, hi, _⟩ := q
    exact ⟨trivial, by rw [sz24, List.length_map]; lia⟩
  · obtain ⟨eB, hbx, ws, rfl, hl, hi, hw⟩ := q
    have hid : i < d := by
      have := (List.getElem?_eq_some_iff.mp hv).1
      simpa [Src.items] using this
    refine Tst_nil (ite_tt ?_)
    repeat wtm_at "w1"
    refine ⟨by rw [sz24]; simp, fun l hl' => ?_⟩
    have k2 : upd H' l (.list [V.str [65], V.str [66], V.str [67], V.str [68]]) l = some (.list (ABCD.map .str)) := upd_eq
    have kD := upd_of (o2 := .list [V.str [65], V.str [66], V.str [67], V.str [68]]) hD' hl'
    have e2 := eB.trans (Ext.upd (o := .list [V.str [65], V.str [66], V.str [67], V.str [68]]) hl').b
    have b2 := hbx.ext (Ext.upd (o := .list [V.str [65], V.str [66], V.str [67], V.str [68]]) hl')
    have lb := (hbx.ne hl').1
    generalize upd H' l _ = H2 at k2 kD e2 b2
    repeat wtm_at "w1"
    refine (c_law_draw (k := 4) hK (lr hr rfl) b2 (by lia) (by decide) fun H3 d' e3 hb3 hd' => ?_).cl
    refine GetI_list (e3 _ _ lb k2) (idx (by lia)) (n := d') rfl (v := .str ABCD[d']) (by rw [List.getElem?_map, List.getElem?_eq_getElem hd']; rfl) ?_
    have nD := hb1.ne hD
    exact ⟨e3 _ _ nD.1 kD, (e2.trans e3).upn hD, hb3.up nD, ws ++ [ABCD[d']], by simp, by simp [hl], by lia, fun w hw' => (List.mem_append.mp hw').elim (hw w) fun z => List.mem_singleton.mp z ▸ List.getElem_mem hd'⟩
  · obtain ⟨eB, hbx, ws, rfl, hl, hi, hw⟩ := q
    exact RetQ.now (h D H' ws (e1.trans eB) (e1.new (hb1.ne hD).1 hD) hD' (hbx.le (by lia)) (by lia) hw)
end
end W28
section W29
open PySem PySem.W PyProof.Rows
set_option maxHeartbeats 2000000

/-- what is new since H0 stays -/
def News (H0 H H' : AH) : Prop := ∀ a o, H0 a = none → H a = some o → H' a = some o
theorem ExtB.news {b : Addr} {H0 H H' : AH} (e : ExtB b H H') (k : H0 b ≠ none) : News H0 H H' := fun a o n h => e a o (fun z => k (z ▸ n)) h
theorem Ext.news {H0 H H' : AH} (e : Ext H H') : News H0 H H' := fun a o _ h => e a o h
theorem News.up {D : Addr} {H0 H H' : AH} {o : O} (e : News H0 H H') (k : H0 D ≠ none) : News H0 H (upd H' D o) := fun a o' n h => by
  rw [upd_ne (fun z => k (by rw [← z]; exact n))]; exact e a o' n h
theorem News.trans {H0 H H' H'' : AH} (e : News H0 H H') (e' : News H0 H' H'') : News H0 H H'' := fun a o n h => e' a o n (e a o n h)
/-- what is free behind was free ahead -/
theorem ExtB.none {b : Addr} {H H' : AH} (e : ExtB b H H') (k : H' b ≠ none) {a : Addr} (h : H' a = none) : H a = none := by
  by_cases z : a = b
  · exact absurd (z ▸ h) k
  · exact e.new z h
theorem BoxAt.nn {H : AH} {b c : Addr} {n : Nat} (h : BoxAt H b c n) : H b ≠ Option.none := by
  refine byc fun hnn => ?_
  obtain ⟨_, _, _, _, z, _⟩ := h
  refine hnn ?_; clear hnn
  rw [z]; simp
/-- the law's pair of lists of words -/
def LPr (H0 H : AH) (v : V) (p : Wp) : Prop := (X2 fun o n => A5 (v = .tup [.ref o, .ref n]) (H0 o = none) (H0 n = none) (H o = some (.list (p.1.map .str))) (H n = some (.list (p.2.map .str))))
/-- two lists of like length, place by place -/
theorem LPr.news {H0 H H' : AH} {v p} (e : News H0 H H') (h : LPr H0 H v p) : LPr H0 H' v p := by
  obtain ⟨o, n, h1, h2, h3, h4, h5⟩ := h
  exact ⟨o, n, h1, h2, h3, e _ _ h2 h4, e _ _ h3 h5⟩
theorem LPr.old {H0 H1 H : AH} {v p} (k : ∀ a, H1 a = none → H0 a = none) (h : LPr H1 H v p) : LPr H0 H v p := by
  obtain ⟨o, n, h1, h2, h3, h4, h5⟩ := h
  exact ⟨o, n, h1, k _ h2, k _ h3, h4, h5⟩
/-- pairs as the law draws them -/
def PG (p : Wp) : Prop := p.1 ≠ [] ∧ p.1.length ≤ 2 ∧ p.2.length ≤ 2 ∧ (∀ w ∈ p.1, w ∈ ABCD) ∧ ∀ w ∈ p.2, w ∈ ABCD
section
variable {G : Ctx} {fs : List Env} {r : Nat} {H : AH} {Q : V → AH → Prop} {E : AH → Prop} {b c : Addr}
theorem c_law_pairs (hK : GK G) (hr : 6 ≤ r) {n : Nat} (hb : BoxAt H b c n) (hn : n ≤ 800)
    (h : ∀ D H' vs (ps : List Wp), ExtB b H H' → H D = none → H' D = some (.list vs) → L2 (LPr H H') vs ps → BoxAt H' b c (n + 13) → ps.length ≤ 2 → (∀ p ∈ ps, PG p) → Q (.ref D) H') : CC G fs r (.ref 603) [.ref b] H Q E := by
  refine FN (env := env603) hK (lq hr rfl) rfl rfl rfl rfl rfl (ps := ["box"]) (fun cs hl => by obtain ⟨c1, rfl⟩ := one_of hl; rfl) (by decide) (by decide) rfl rfl rfl (fun _ => rfl) fun hC L hL => ?_
  simp only [locs]
  repeat wtm_at "w1"
  refine ⟨by rw [sz24]; simp, fun D hD => ?_⟩
  have hb0 := hb.ext (Ext.upd (o := .list []) hD)
  have e0 := Ext.upd (o := .list []) hD
  have k0 : upd H D (.list []) D = some (.list []) := upd_eq
  generalize upd H D (.list []) = H0 at hb0 e0 k0
  have old0 : ∀ a, H0 a = none → H a = none := fun a => off_of e0
  repeat wtm_at "w1"
  refine Ex_For (L := L) rfl ?_
  refine Itb_range (nr hK) ?_ rfl rfl rfl rfl rfl
  repeat wtm_at "w1"
  refine (c_law_draw (k := 3) hK (lr hr rfl) hb0 (by lia) (by decide) fun H1 d e1 hb1 hd => ?_).cl
  have nD := hb.ne hD
  refine ⟨d, rfl, by lia, fun i m' H' => A7 (ExtB b H H') (∀ a, H' a = none → H0 a = none) (m' "box" = some (.ref b)) (m' "found" = some (.ref D)) (BoxAt H' b c (n + 1 + 6 * i)) (i ≤ 2) (X2 fun vs ps => A4 (H' D = some (.list vs)) (L2 (LPr H0 H') vs ps) (ps.length = i) (∀ p ∈ ps, PG p)),
    ⟨⟨e0.b.trans e1, fun a => e1.none hb1.nn, put_ne (by decide) put_eq, put_eq, hb1, Nat.zero_le _, [], [], e1 _ _ nD.1 k0, .nil, rfl, by simp⟩, fun _ _ _ _ => trivial, fun i x m' H' B hB1 hB2 hB3 hB4 hx q => ?_, fun m' H' q => ?_⟩⟩
  · refine byc fun hnn => ?_
    obtain ⟨eB, dom, m1, m2, hbx, hi, vs, ps, hDv, hL, hlen, hg⟩ := q
    refine hnn ?_; clear hnn
    have hid : i < d := by
      have := (List.getElem?_eq_some_iff.mp hx).1
      simpa [Src.items] using this
    repeat wtm_at "w1"
    refine (c_law_words hK (lr hr rfl) hbx (by lia) fun D1 H2 ws1 e2 hD1 k1 hb2 l1 g1 => ?_).cl
    have hDv2 := e2 _ _ nD.1 hDv
    repeat wtm_at "w1"
    refine Mt_append hDv2 ?_
    iterate 4 wtm_at "w1"
    refine Ev.mono (Q := fun v H4 => ∃ o p1, v = .ref o ∧ Ext H2 H4 ∧ H' o = none ∧ H4 o = some (.list (p1.map .str)) ∧ p1 ≠ [] ∧ p1.length ≤ 2 ∧ ∀ w ∈ p1, w ∈ ABCD) (E := E) ?_ ?_ fun _ z => z
    · repeat wtm_at "w1"
      refine ⟨by rw [sz24]; simp, fun l0 hl0 => ?_⟩
      have e3 := Ext.upd (o := .list []) hl0
      have k3 : upd H2 l0 (.list []) l0 = some (.list []) := upd_eq
      generalize upd H2 l0 (.list []) = H3 at e3 k3
      refine COp_ne_list (e3 _ _ k1) k3 (.inr rfl) rfl ?_
      repeat wtm_at "w1"
      refine ite_b (fun z => ?_) fun z => ?_
      · repeat wtm_at "w1"
        exact ⟨D1, ws1, rfl, e3, hD1, e3 _ _ k1, fun y => by (rw [y] at z; cases z), l1, g1⟩
      · repeat wtm_at "w1"
        refine ⟨by rw [sz24]; simp, fun l2 hl2 => ⟨l2, [[65]], rfl, e3.updT hl2, ?_, upd_eq, by simp, by simp, by decide⟩⟩
        exact e2.none hb2.nn (off_of e3 hl2)
    rintro v H4 ⟨o, p1, rfl, e4, ho, k4, q1, q2, q3⟩
    repeat wtm_at "w1"
    refine (c_law_words hK (lr hr rfl) (hb2.ext e4) (by lia) fun D2 H5 ws2 e5 hD2 k5 hb5 l5 g5 => ?_).cl
    repeat wtm_at "w1"
    refine ⟨by rw [sz24]; simp, ?_⟩
    repeat wtm_at "w1"
    have hDv5 := e5 _ _ nD.1 (e4 _ _ hDv2)
    refine Cl_append hDv5 (by rw [hL.length, sz24]; lia) ?_
    have nw : News H0 H' (upd H5 D (.list (vs ++ [.tup [.ref o, .ref D2]]))) := (((e2.news hb0.nn).trans e4.news).trans (e5.news hb0.nn)).up (by rw [k0]; simp)
    have ho0 := dom _ ho
    have hD20 := dom _ (e2.none hb2.nn (off_of e4 hD2))
    have ob := (hb0.ne ho0).1
    have oD : o ≠ D := fun z => by rw [z, k0] at ho0; cases ho0
    have D2D : D2 ≠ D := fun z => by rw [z, k0] at hD20; cases hD20
    repeat wtm_at "w1"
    refine hB1 _ _ ⟨((eB.trans e2).trans (e4.b.trans e5)).upn hD, fun a ha => ?_, put_ne (by decide) (put_ne (by decide) m1), put_ne (by decide) (put_ne (by decide) m2), (hb5.le (by lia)).up nD, by lia, _, ps ++ [(p1, ws2)], upd_eq,
      (hL.mono fun v p q => q.news nw).snoc ⟨o, D2, rfl, ho0, hD20, by rw [upd_ne oD]; exact e5 _ _ ob k4, by rw [upd_ne D2D]; exact k5⟩, by simp [hlen], fun p hp => (List.mem_append.mp hp).elim (hg p) fun z => List.mem_singleton.mp z ▸ ⟨q1, q2, l5, q3, g5⟩⟩
    by_cases z : a = D
    · rw [z, upd_eq] at ha; cases ha
    · rw [upd_ne z] at ha
      exact dom _ (e2.none hb2.nn (off_of e4 (e5.none hb5.nn ha)))
  · refine byc fun hnn => ?_
    obtain ⟨eB, dom, m1, m2, hbx, hi, vs, ps, hDv, hL, hlen, hg⟩ := q
    refine hnn ?_; clear hnn
    repeat wtm_at "w1"
    exact RetQ.now (h D H' vs ps eB hD hDv (hL.mono fun v p q => q.old old0) (hbx.le (by lia)) (by lia) hg)
end
end W29
section W30
open PySem PySem.W PyProof.Rows
set_option maxHeartbeats 2000000

/-- a thing of a text, as the law draws it -/
inductive LT where
  | word (w : List Nat)
  | copy (x : List Nat) (ps : List Wp) (way : Nat)
def LTh (H0 H : AH) (v : V) : LT → Prop
  | .word w => v = .str w
  | .copy x ps way => ∃ pl vs, v = .tup [.str x, .ref pl, .int way] ∧ H0 pl = none ∧ H pl = some (.list vs) ∧ L2 (LPr H0 H) vs ps
theorem LTh.news {H0 H H' : AH} {v} (e : News H0 H H') {t} (h : LTh H0 H v t) : LTh H0 H' v t := by
  cases t with
  | word w => exact h
  | copy x ps way => obtain ⟨pl, vs, h1, h2, h3, h4⟩ := h; exact ⟨pl, vs, h1, h2, e _ _ h2 h3, h4.mono fun _ _ q => q.news e⟩
theorem LTh.old {H0 H1 H : AH} {v} (k : ∀ a, H1 a = none → H0 a = none) {t} (h : LTh H1 H v t) : LTh H0 H v t := by
  cases t with
  | word w => exact h
  | copy x ps way => obtain ⟨pl, vs, h1, h2, h3, h4⟩ := h; exact ⟨pl, vs, h1, k _ h2, h3, h4.mono fun _ _ q => q.old k⟩
def LT.cp : LT → Nat
  | .word _ => 0
  | .copy _ _ _ => 1
def cps (ts : List LT) : Nat := (ts.map LT.cp).sum
def TG : LT → Prop
  | .word w => w ∈ ABCD
  | .copy x ps way => (∃ c k, (c = 84 ∨ c = 85) ∧ k < 10 ∧ x = [c, 48 + k]) ∧ ps.length ≤ 2 ∧ (∀ p ∈ ps, PG p) ∧ way < 8
theorem str_small : ∀ k : Nat, k < 5 → (toString (k : Int)).toList.map Char.toNat = [48 + k] := by decide +kernel
theorem none_up {H : AH} {D a : Addr} {o : O} (h : upd H D o a = none) : H a = none := by
  by_cases z : a = D
  · rw [z, upd_eq] at h; cases h
  · rw [upd_ne z] at h; exact h
section
variable {G : Ctx} {fs : List Env} {r : Nat} {env : Env} {m : Loc} {H : AH} {E : AH → Prop}
theorem Ts.mono {t : Sem Bool} {Q Q' : Bool → AH → Prop} (h : Ts G fs r env m t H Q E) (hq : ∀ b H', Q b H' → Q' b H') : Ts G fs r env m t H Q' E :=
  fun A s a b c => wpAny_mono (h A s a b c) (fun _ _ ⟨H', y, z⟩ => ⟨H', y, hq _ _ z⟩) fun _ _ z => z
end
section
variable {G : Ctx} {fs : List Env} {r : Nat} {H : AH} {Q : V → AH → Prop} {E : AH → Prop} {b c : Addr}
theorem c_law_things (hK : GK G) (hr : 8 ≤ r) {n : Nat} {last : Int} (hlast : -1 ≤ last ∧ last ≤ 10) (hb : BoxAt H b c n) (hn : n ≤ 700)
    (h : ∀ D H' vs (ts : List LT), ExtB b H H' → H D = none → H' D = some (.list vs) → L2 (LTh H H') vs ts → BoxAt H' b c (n + 69) → ts.length ≤ 4 → cps ts ≤ 2 → (∀ t ∈ ts, TG t) → Q (.ref D) H') : CC G fs r (.ref 610) [.ref b, .int last] H Q E := by
  refine FN (env := env610) hK (lq hr rfl) rfl rfl rfl rfl rfl (ps := ["box", "last"]) (fun cs hl => by obtain ⟨c1, c2, rfl⟩ := two_of hl; rfl) (by decide) (by decide) rfl rfl rfl (fun _ => rfl) fun hC L hL => ?_
  simp only [locs]
  repeat wtm_at "w1"
  refine ⟨by rw [sz24]; simp, fun D hD => ?_⟩
  have hb0 := hb.ext (Ext.upd (o := .list []) hD)
  have e0 := Ext.upd (o := .list []) hD
  have k0 : upd H D (.list []) D = some (.list []) := upd_eq
  generalize upd H D (.list []) = H0 at hb0 e0 k0
  have old0 : ∀ a, H0 a = none → H a = none := fun a => off_of e0
  iterate 2 wtm_at "w1"
  refine Ev.mono (Q := fun v H' => H0 = H' ∧ ∃ l0 : Nat, v = .int l0 ∧ l0 ≤ 2) (E := E) ?_ ?_ fun _ z => z
  · repeat wtm_at "w1"
    refine ite_b (fun z => ?_) fun z => ?_
    · repeat wtm_at "w1"
      exact ⟨rfl, 2, rfl, Nat.le_refl _⟩
    · repeat wtm_at "w1"
      exact ⟨rfl, 1, rfl, by decide⟩
  rintro v H' ⟨rfl, l0, rfl, hl0⟩
  repeat wtm_at "w1"
  refine Ex_For (L := L) rfl ?_
  refine Itb_range (nr hK) ?_ rfl rfl rfl rfl rfl
  repeat wtm_at "w1"
  refine (c_law_draw (k := 5) hK (lr hr rfl) hb0 (by lia) (by decide) fun H1 d e1 hb1 hd => ?_).cl
  have nD := hb.ne hD
  refine ⟨d, rfl, by lia, fun i m' H'' => A8 (ExtB b H H'') (∀ a, H'' a = none → H0 a = none) (m' "box" = some (.ref b)) (m' "last" = some (.int last)) (m' "found" = some (.ref D)) (BoxAt H'' b c (n + 1 + 17 * i)) (i ≤ 4) (X3 fun (left : Nat) (vs : List V) (ts : List LT) => A6 (m' "left" = some (.int left)) (left + cps ts ≤ 2) (H'' D = some (.list vs)) (L2 (LTh H0 H'') vs ts) (ts.length = i) (∀ t ∈ ts, TG t)),
    ⟨⟨e0.b.trans e1, fun a => e1.none hb1.nn, put_ne (by decide) (put_ne (by decide) (put_ne (by decide) put_eq)), put_ne (by decide) (put_ne (by decide) put_eq), put_ne (by decide) put_eq, hb1, Nat.zero_le _, l0, [], [], put_eq, hl0, e1 _ _ nD.1 k0, .nil, rfl, by simp⟩, fun _ _ _ _ => trivial, fun i x m' H'' B hB1 hB2 hB3 hB4 hx q => ?_, fun m' H'' q => ?_⟩⟩
  · refine byc fun hnn => ?_
    obtain ⟨eB, dom, m1, m2, m3, hbx, hi, left, vs, ts, m4, hcp, hDv, hL, hlen, hg⟩ := q
    refine hnn ?_; clear hnn
    have hid : i < d := by
      have := (List.getElem?_eq_some_iff.mp hx).1
      simpa [Src.items] using this
    repeat wtm_at "w1"
    refine (c_law_draw (k := 7) hK (lr hr rfl) hbx (by lia) (by decide) fun H2 way e2 hb2 hw => ?_).cl
    have hDv2 := e2 _ _ nD.1 hDv
    iterate 2 wtm_at "w1"
    refine Ts.mono (Q := fun bv H3 => H2 = H3 ∧ (bv = false → left ≠ 0)) ?_ ?_
    · repeat wtm_at "w1"
      refine ite_b (fun z => ?_) fun z => ?_
      · exact ⟨rfl, fun y => by cases y⟩
      · repeat wtm_at "w1"
        refine ite_b (fun z => ?_) fun z => ?_
        · exact ⟨rfl, fun y => by cases y⟩
        · repeat wtm_at "w1"
          exact ⟨rfl, fun _ y => by simp [y] at z⟩
    rintro bv H3 ⟨rfl, hbv⟩
    refine ite_b (fun z => ?_) fun z => ?_
    · repeat wtm_at "w1"
      refine Mt_append hDv2 ?_
      repeat wtm_at "w1"
      refine ⟨by rw [sz24]; simp, fun l hl => ?_⟩
      have kl : upd H2 l (.list [V.str [65], V.str [66], V.str [67], V.str [68]]) l = some (.list (ABCD.map .str)) := upd_eq
      have e3 := Ext.upd (o := .list [V.str [65], V.str [66], V.str [67], V.str [68]]) hl
      generalize upd H2 l _ = H4 at kl e3
      repeat wtm_at "w1"
      refine BOp_mod (by decide) ?_
      refine byc fun hnn => ?_
      obtain ⟨w4, hw4, hw5⟩ := fmod_nat (i := (way : Int)) (k := 4) (by decide)
      refine hnn ?_; clear hnn
      have hw4 : (way : Int).fmod 4 = w4 := hw4
      rw [hw4]
      refine GetI_list kl (idx (by lia)) (n := w4) rfl (v := .str ABCD[w4]) (by rw [List.getElem?_map, List.getElem?_eq_getElem hw5]; rfl) ?_
      have hDv4 := e3 _ _ hDv2
      repeat wtm_at "w1"
      refine Cl_append hDv4 (by rw [hL.length, sz24]; lia) ?_
      have nw : News H0 H'' (upd H4 D (.list (vs ++ [.str ABCD[w4]]))) := ((e2.news hb0.nn).trans e3.news).up (by rw [k0]; simp)
      repeat wtm_at "w1"
      exact hB1 _ _ ⟨(eB.trans (e2.trans e3.b)).upn hD, fun a ha => dom _ (e2.none hb2.nn (off_of e3 (none_up ha))), put_ne (by decide) (put_ne (by decide) m1), put_ne (by decide) (put_ne (by decide) m2), put_ne (by decide) (put_ne (by decide) m3),
        ((hb2.ext e3).le (by lia)).up nD, by lia, left, _, ts ++ [.word ABCD[w4]], put_ne (by decide) (put_ne (by decide) m4), by simpa [cps, LT.cp] using hcp, upd_eq, L2.snoc (show LTh H0 _ (.str ABCD[w4]) (.word ABCD[w4]) from rfl) (hL.mono fun v t q => q.news nw), by simp [hlen],
        fun t ht => (List.mem_append.mp ht).elim (hg t) fun z => List.mem_singleton.mp z ▸ List.getElem_mem hw5⟩
    · repeat wtm_at "w1"
      refine (c_law_draw (k := 12) hK (lr hr rfl) hb2 (by lia) (by decide) fun H4 d2 e4 hb4 hd2 => ?_).cl
      iterate 4 wtm_at "w1"
      refine Ev.mono (Q := fun v H5 => ∃ k : Nat, v = .int k ∧ k < 5 ∧ ExtB b H4 H5 ∧ BoxAt H5 b c (n + 1 + 17 * i + 3)) (E := E) ?_ ?_ fun _ z => z
      · repeat wtm_at "w1"
        refine ite_b (fun z => ?_) fun z => ?_
        · repeat wtm_at "w1"
          exact (c_law_draw (k := 5) hK (lr hr rfl) hb4 (by lia) (by decide) fun H5 d3 e5 hb5 hd3 => ⟨d3, rfl, hd3, e5, hb5⟩).cl
        · repeat wtm_at "w1"
          refine (c_law_draw (k := 2) hK (lr hr rfl) hb4 (by lia) (by decide) fun H5 d3 e5 hb5 hd3 => ?_).cl
          repeat wtm_at "w1"
          by_cases z4 : (4 : Int) < last + 1 + d3
          · rw [if_pos z4]
            exact ⟨4, rfl, by decide, e5, hb5⟩
          · rw [if_neg z4]
            exact ⟨(last + 1 + d3).toNat, by rw [Int.toNat_of_nonneg (by lia)], by lia, e5, hb5⟩
      rintro v H5 ⟨k, rfl, hk, e5, hb5⟩
      have hDv5 := e5 _ _ nD.1 (e4 _ _ nD.1 hDv2)
      repeat wtm_at "w1"
      refine Mt_append hDv5 ?_
      repeat wtm_at "w1"
      refine Cl_str_int (by lia) ?_
      rw [str_small k hk]
      refine BOp_cat (by rw [sz24]; simp) ?_
      rw [show [84] ++ [48 + k] = [84, 48 + k] from rfl]
      repeat wtm_at "w1"
      refine (c_law_pairs hK (lr hr rfl) hb5 (by lia) fun D6 H6 vs6 ps e6 hD6 k6 hL6 hb6 l6 g6 => ?_).cl
      repeat wtm_at "w1"
      refine (c_law_draw (k := 8) hK (lr hr rfl) hb6 (by lia) (by decide) fun H7 w8 e7 hb7 hw8 => ?_).cl
      repeat wtm_at "w1"
      refine ⟨by rw [sz24]; simp, ?_⟩
      have hDv7 := e7 _ _ nD.1 (e6 _ _ nD.1 hDv5)
      repeat wtm_at "w1"
      refine Cl_append hDv7 (by rw [hL.length, sz24]; lia) ?_
      have dom5 : ∀ a, H5 a = none → H0 a = none := fun a ha => dom _ (e2.none hb2.nn (e4.none hb4.nn (e5.none hb5.nn ha)))
      have D65 := dom5 _ hD6
      have D6b := (hb0.ne D65).1
      have D6D : D6 ≠ D := fun z => by rw [z, k0] at D65; cases D65
      have nw5 : News H0 H'' H5 := ((e2.news hb0.nn).trans (e4.news hb0.nn)).trans (e5.news hb0.nn)
      have nw7 : News H0 H6 (upd H7 D (.list (vs ++ [.tup [.str [84, 48 + k], .ref D6, .int w8]]))) := (e7.news hb0.nn).up (by rw [k0]; simp)
      have nw : News H0 H'' (upd H7 D (.list (vs ++ [.tup [.str [84, 48 + k], .ref D6, .int w8]]))) := (nw5.trans (e6.news hb0.nn)).trans nw7
      repeat wtm_at "w1"
      refine hB1 _ _ ⟨(eB.trans (e2.trans (e4.trans (e5.trans (e6.trans e7))))).upn hD, fun a ha => dom5 _ (e6.none hb6.nn (e7.none hb7.nn (none_up ha))), put_ne (by decide) (put_ne (by decide) (put_ne (by decide) (put_ne (by decide) (put_ne (by decide) m1)))), put_ne (by decide) (put_ne (by decide) (put_ne (by decide) (put_ne (by decide) (put_ne (by decide) m2)))), put_ne (by decide) (put_ne (by decide) (put_ne (by decide) (put_ne (by decide) (put_ne (by decide) m3)))),
        (hb7.le (by lia)).up nD, by lia, left - 1, _, ts ++ [.copy [84, 48 + k] ps w8], ?_, ?_, upd_eq, L2.snoc (R := LTh H0 _) (b := .copy [84, 48 + k] ps w8) ⟨D6, vs6, rfl, D65, nw7 _ _ D65 k6, hL6.mono fun _ _ q => (q.old dom5).news nw7⟩ (hL.mono fun v t q => q.news nw), by simp [hlen],
        fun t ht => (List.mem_append.mp ht).elim (hg t) fun z => List.mem_singleton.mp z ▸ ⟨⟨84, k, .inl rfl, by lia, rfl⟩, l6, g6, hw8⟩⟩
      · have := hbv z
        rw [put_eq, show (left : Int) - 1 = ((left - 1 : Nat) : Int) by lia]
      · have := hbv z
        simp [cps, LT.cp] at hcp ⊢; lia
  · refine byc fun hnn => ?_
    obtain ⟨eB, dom, m1, m2, m3, hbx, hi, left, vs, ts, m4, hcp, hDv, hL, hlen, hg⟩ := q
    refine hnn ?_; clear hnn
    repeat wtm_at "w1"
    exact RetQ.now (h D H'' vs ts eB hD hDv (hL.mono fun v t q => q.old old0) (hbx.le (by lia)) (by lia) (by lia) hg)
end
end W30
section W31
open PySem PySem.W PyProof.Rows
set_option maxHeartbeats 2000000

def sideS (ws : List (List Nat)) (bare : Bool) : List Nat := if bare = true ∧ ws.length = 1 then ws.headD [] else [61, 61, 32] ++ joinL [32] ws ++ [32, 61, 61]
abbrev blk : List Nat := [32, 32, 32, 32, 32, 32, 32, 32, 32, 32, 32]
def pairS (bare : Bool) (p : Wp) : List Nat := (10 :: blk) ++ sideS p.1 bare ++ [32, 66, 89, 32] ++ sideS p.2 bare
def headS (x : List Nat) (way : Nat) : List Nat := [67, 79, 80, 89, 32] ++ (if way % 2 = 0 then x.map lo1 else [34] ++ x ++ [34]) ++ (if way / 2 % 2 = 0 then [32, 79, 70, 32, 76, 73, 66] else [])
def spelled : LT → List Nat
  | .word w => if w = [66] then [98] else w
  | .copy x ps way => headS x way ++ (if ps = [] then [] else [32, 82, 69, 80, 76, 65, 67, 73, 78, 71]) ++ ps.flatMap (pairS (decide (3 < way))) ++ [32, 46]
def lineS (t : LT) : List Nat := blk ++ spelled t ++ [10]
theorem ABCD_len {w : List Nat} (h : w ∈ ABCD) : w.length = 1 := by revert w; decide
theorem joinL_len {ws : List (List Nat)} (h : ∀ w ∈ ws, w.length ≤ 1) : (joinL [32] ws).length ≤ 2 * ws.length := by
  induction ws with
  | nil => exact Nat.zero_le _
  | cons x r ih =>
    have h1 := h x (.head _)
    have h2 := ih fun w hw => h w (.tail _ hw)
    cases r with
    | nil => exact Nat.le_trans h1 (Nat.le_of_ble_eq_true rfl)
    | cons y r =>
      rw [show joinL [32] (x :: y :: r) = x ++ [32] ++ joinL [32] (y :: r) from rfl, List.length_append, List.length_append, List.length_cons (a := x), Nat.mul_succ, Nat.add_comm]
      exact Nat.add_le_add h2 (Nat.add_le_add_right h1 1)
theorem sideS_len {ws : List (List Nat)} {bare : Bool} (hw : ∀ w ∈ ws, w ∈ ABCD) (hz : ws.length ≤ 2) : (sideS ws bare).length ≤ 10 := by
  have h1 := joinL_len (ws := ws) fun w h => Nat.le_of_eq (ABCD_len (hw w h))
  unfold sideS
  by_cases hb : bare = true ∧ ws.length = 1
  · rw [if_pos hb]
    obtain ⟨w, rfl⟩ := List.length_eq_one_iff.mp hb.2
    exact Nat.le_trans (Nat.le_of_eq (ABCD_len (hw w (.head _)))) (by decide)
  · rw [if_neg hb]; simp; lia
theorem pairS_len {bare : Bool} {p : Wp} (h : PG p) : (pairS bare p).length ≤ 40 := by
  obtain ⟨_, h1, h2, h3, h4⟩ := h
  have a := sideS_len (bare := bare) h3 h1
  have b := sideS_len (bare := bare) h4 h2
  simp [pairS]; lia
theorem sum_len {ws : List (List Nat)} (hw : ∀ w ∈ ws, w ∈ ABCD) : (ws.map (·.length)).sum = ws.length := by
  induction ws with
  | nil => rfl
  | cons w ws ih => simp [ABCD_len (hw w (.head _)), ih fun x hx => hw x (.tail _ hx)]; lia
section
variable {G : Ctx} {fs : List Env} {r : Nat} {H : AH} {Q : V → AH → Prop} {E : AH → Prop} {a : Addr}
theorem c_law_side (hK : GK G) (hr : 1 ≤ r) {ws : List (List Nat)} {bare : Bool} (hl : H a = some (.list (ws.map .str))) (hz : ws.length ≤ 2) (hw : ∀ w ∈ ws, w ∈ ABCD) (h : Q (.str (sideS ws bare)) H) :
    CC G fs r (.ref 617) [.ref a, .bool bare] H Q E := by
  have hj := joinL_len (ws := ws) fun w hh => Nat.le_of_eq (ABCD_len (hw w hh))
  have hs := sum_len hw
  refine FN (env := env617) hK (lq hr rfl) rfl rfl rfl rfl rfl (ps := ["words", "is_bare"]) (fun cs hl => by obtain ⟨c1, c2, rfl⟩ := two_of hl; rfl) (by decide) (by decide) rfl rfl rfl (fun _ => rfl) fun hC L hL => ?_
  simp only [locs]
  iterate 3 wtm_at "w1"
  refine Ts.mono (Q := fun b' H' => H = H' ∧ b' = (bare && ws.length == 1)) ?_ ?_
  · repeat wtm_at "w1"
    refine ite_b (fun z => ?_) fun z => ?_
    · repeat wtm_at "w1"
      refine Cl_len_list hl (by simp; lia) ?_
      repeat wtm_at "w1"
      rw [z, List.length_map, Bool.true_and]
      refine ite_b (fun z => ?_) fun z => ?_
      · repeat wtm_at "w1"
        exact ⟨rfl, by simp at z ⊢; lia⟩
      · exact ⟨rfl, by simp at z ⊢; lia⟩
    · exact ⟨rfl, by rw [z]; rfl⟩
  rintro b' H' ⟨rfl, rfl⟩
  refine ite_b (fun z => ?_) fun z => ?_
  · obtain ⟨zb, zl⟩ : bare = true ∧ ws.length = 1 := by simpa using z
    clear hj hs hw hz z
    obtain ⟨w, rfl⟩ := List.length_eq_one_iff.mp zl
    rw [show sideS [w] bare = w from if_pos ⟨zb, zl⟩] at h
    repeat wtm_at "w1"
    refine GetI_list hl (idx (n := 0) (by decide)) (n := 0) rfl rfl ?_
    exact RetQ.now h
  · have e : sideS ws bare = [61, 61, 32] ++ joinL [32] ws ++ [32, 61, 61] := by
      unfold sideS
      rw [if_neg fun y => by rw [y.1, y.2] at z; cases z]
    rw [e] at h
    repeat wtm_at "w1"
    refine Mt_join ?_
    repeat wtm_at "w1"
    refine Cl_join hl (by rw [hs, sz24]; simp; lia) ?_
    refine BOp_cat (by rw [sz24]; simp; lia) ?_
    repeat wtm_at "w1"
    refine BOp_cat (by rw [sz24]; simp; lia) ?_
    exact RetQ.now h
theorem fm2 (n : Nat) : (n : Int).fmod 2 = ((n % 2 : Nat) : Int) := by rw [Int.fmod_eq_emod_of_nonneg _ (by decide)]; lia
theorem fd2 (n : Nat) : (n : Int).fdiv 2 = ((n / 2 : Nat) : Int) := by rw [Int.fdiv_eq_ediv_of_nonneg _ (by decide)]; lia
theorem c_law_spelled (hK : GK G) (hr : 3 ≤ r) {H0 : AH} {v : V} {t : LT} (ht : LTh H0 H v t) (hg : TG t) (h : Q (.str (spelled t)) H) : CC G fs r (.ref 624) [v] H Q E := by
  refine FN (env := env624) hK (lq hr rfl) rfl rfl rfl rfl rfl (ps := ["thing"]) (fun cs hl => by obtain ⟨c1, rfl⟩ := one_of hl; rfl) (by decide) (by decide) rfl rfl rfl (fun _ => rfl) fun hC L hL => ?_
  simp only [locs]
  cases t with
  | word w =>
    obtain rfl : v = .str w := ht
    repeat wtm_at "w1"
    refine Cl_isinstance_str (.inl ⟨w, rfl, ?_⟩)
    repeat wtm_at "w1"
    refine ite_t rfl ?_
    repeat wtm_at "w1"
    refine ite_b (fun z => ?_) fun z => ?_
    · repeat wtm_at "w1"
      exact RetQ.now (by rw [spelled, if_neg (by simpa using z)] at h; exact h)
    · repeat wtm_at "w1"
      exact RetQ.now (by rw [spelled, if_pos (by simpa using z)] at h; exact h)
  | copy x ps way =>
    obtain ⟨pl, vs, rfl, -, hpl, hL⟩ := ht
    obtain ⟨⟨c, k, hc, hk, rfl⟩, hz, hps, hw⟩ := hg
    repeat wtm_at "w1"
    refine Cl_isinstance_str (.inr ⟨_, rfl, ?_⟩)
    repeat wtm_at "w1"
    refine ite_f rfl ?_
    repeat (fail_if_success (with_reducible refine Ev_IfExp ?_)); wtm_at "w1"
    refine Ev.mono (Q := fun v H' => H = H' ∧ v = .str (if way % 2 = 0 then ([c, 48 + k] : List Nat).map lo1 else [34] ++ [c, 48 + k] ++ [34])) (E := E) ?_ ?_ fun _ z => z
    · repeat wtm_at "w1"
      refine BOp_mod (by decide) ?_
      rw [fm2]
      repeat wtm_at "w1"
      refine ite_b (fun z => ?_) fun z => ?_
      · rw [if_pos (by simp at z; lia)]
        repeat wtm_at "w1"
        refine Mt_lower ?_
        repeat wtm_at "w1"
        exact Cl_lower (by simp; lia) (by rw [sz24]; simp) ⟨rfl, rfl⟩
      · rw [if_neg (by simp at z; lia)]
        repeat wtm_at "w1"
        refine BOp_cat (by rw [sz24]; simp) ?_
        repeat wtm_at "w1"
        exact BOp_cat (by rw [sz24]; simp) ⟨rfl, rfl⟩
    rintro v H' ⟨rfl, rfl⟩
    refine BOp_cat (by rw [sz24]; split <;> simp) ?_
    repeat (fail_if_success (with_reducible refine Ev_IfExp ?_)); wtm_at "w1"
    refine Ev.mono (Q := fun v H' => H = H' ∧ v = .str (if way / 2 % 2 = 0 then [32, 79, 70, 32, 76, 73, 66] else [])) (E := E) ?_ ?_ fun _ z => z
    · repeat wtm_at "w1"
      refine BOp_div (by decide) (PyProof.noPylong_small (by decide)) ?_
      rw [fd2]
      repeat wtm_at "w1"
      refine BOp_mod (by decide) ?_
      rw [fm2]
      repeat wtm_at "w1"
      refine ite_b (fun z => ?_) fun z => ?_
      · rw [if_pos (by simp at z; lia)]
        repeat wtm_at "w1"
        exact ⟨rfl, rfl⟩
      · rw [if_neg (by simp at z; lia)]
        repeat wtm_at "w1"
        exact ⟨rfl, rfl⟩
    rintro v H' ⟨rfl, rfl⟩
    refine BOp_cat (by rw [sz24]; split <;> split <;> simp) ?_
    have z0 : (headS [c, 48 + k] way).length ≤ 20 := by unfold headS; split <;> split <;> simp
    change KAsg _ _ _ (.str (headS [c, 48 + k] way)) H
    have hs : spelled (.copy [c, 48 + k] ps way) = headS [c, 48 + k] way ++ (if ps = [] then [] else [32, 82, 69, 80, 76, 65, 67, 73, 78, 71]) ++ ps.flatMap (pairS (decide (3 < way))) ++ [32, 46] := rfl
    rw [hs] at h
    clear hs
    generalize headS [c, 48 + k] way = t0 at z0 h
    have hln := hL.length
    repeat (fail_if_success (with_reducible refine Ex_If ?_)); wtm_at "w1"
    refine Ex.mono (Q := fun fl m' H' => fl = .next ∧ Ext H H' ∧ m' "pairs" = some (.ref pl) ∧ m' "way" = some (.int way) ∧ m' "text" = some (.str (t0 ++ (if ps = [] then [] else [32, 82, 69, 80, 76, 65, 67, 73, 78, 71])))) (E := E) ?_ ?_ fun _ z => z
    · repeat wtm_at "w1"
      refine ⟨by rw [sz24]; simp, fun l hl => ?_⟩
      have e := Ext.upd (o := .list []) hl
      refine COp_ne_list (e _ _ hpl) upd_eq (.inr rfl) rfl ?_
      repeat wtm_at "w1"
      refine ite_b (fun z => ?_) fun z => ?_
      · have : ps ≠ [] := fun y => by
          subst y
          cases hL; cases z
        rw [if_neg this]
        repeat wtm_at "w1"
        refine BOp_cat (by rw [sz24]; simp; lia) ?_
        repeat wtm_at "w1"
        exact ⟨rfl, e, put_ne (by decide) (put_ne (by decide) (put_ne (by decide) put_eq)), put_ne (by decide) (put_ne (by decide) put_eq), put_eq⟩
      · have : ps = [] := by
          cases hL with
          | nil => rfl
          | cons _ _ => cases z
        rw [if_pos this, List.append_nil]
        repeat wtm_at "w1"
        exact ⟨rfl, e, put_ne (by decide) (put_ne (by decide) put_eq), put_ne (by decide) put_eq, put_eq⟩
    have z1 : (t0 ++ (if ps = [] then [] else [32, 82, 69, 80, 76, 65, 67, 73, 78, 71])).length ≤ 40 := by split <;> simp <;> lia
    generalize t0 ++ (if ps = [] then [] else [32, 82, 69, 80, 76, 65, 67, 73, 78, 71]) = t1 at z1 h
    rintro fl m' H' ⟨rfl, e, m1, m2, m3⟩
    have hdec : decide ((3 : Int) < way) = decide (3 < way) := by simp; lia
    repeat wtm_at "w1"
    refine Ex_For (L := L) rfl ?_
    refine Itb_list ?_
    repeat wtm_at "w1"
    refine ⟨pl, _, rfl, e _ _ hpl, ?_⟩
    refine ⟨fun i m' H'' => A3 (H' = H'') (m' "way" = some (.int way)) (∃ T, A3 (m' "text" = some (.str T)) (T = t1 ++ (ps.take i).flatMap (pairS (decide (3 < way)))) (T.length ≤ 40 + 40 * i)),
      ⟨⟨rfl, m2, t1, m3, by simp, z1⟩, fun i m' H'' q => q.1 ▸ e _ _ hpl, fun i x m' H'' B hB1 hB2 hB3 hB4 hx q => ?_, fun m' H'' q => ?_⟩⟩
    · obtain ⟨rfl, m1, T, m2, hT, zT⟩ := q
      obtain ⟨p, hpi, hp⟩ := hL.get hx
      obtain ⟨o, nn, rfl, -, -, ho, hn⟩ := hp
      have hip : i < ps.length := (List.getElem?_eq_some_iff.mp hpi).1
      have hg := hps p (List.mem_of_getElem? hpi)
      have q1 := sideS_len (bare := decide (3 < way)) hg.2.2.2.1 hg.2.1
      have q2 := sideS_len (bare := decide (3 < way)) hg.2.2.2.2 hg.2.2.1
      repeat wtm_at "w1"
      refine BOp_cat (by rw [sz24]; simp; lia) ?_
      repeat wtm_at "w1"
      rw [hdec]
      refine (c_law_side hK (lr hr rfl) (e _ _ ho) hg.2.1 hg.2.2.2.1 ?_).cl
      refine BOp_cat (by rw [sz24]; simp; lia) ?_
      repeat wtm_at "w1"
      refine BOp_cat (by rw [sz24]; simp; lia) ?_
      repeat wtm_at "w1"
      rw [hdec]
      refine (c_law_side hK (lr hr rfl) (e _ _ hn) hg.2.2.1 hg.2.2.2.2 ?_).cl
      refine BOp_cat (by rw [sz24]; simp; lia) ?_
      repeat wtm_at "w1"
      refine hB1 _ _ ⟨rfl, put_ne (by decide) (put_ne (by decide) (put_ne (by decide) m1)), _, put_eq, ?_, ?_⟩
      · rw [hT, List.take_add_one, hpi]; simp [pairS]
      · simp; lia
    · obtain ⟨rfl, m1, T, m2, hT, zT⟩ := q
      have : T = t1 ++ ps.flatMap (pairS (decide (3 < way))) := by
        rw [hT, List.take_of_length_le (by simp [Src.items]; lia)]
      have zz : T.length ≤ 1000 := by simp [Src.items] at zT; lia
      subst this
      repeat wtm_at "w1"
      refine BOp_cat (by rw [sz24]; simp at zz ⊢; lia) ?_
      exact RetQ.drop hC e h
end
end W31
section W32
open PySem PySem.W PyProof.Rows
set_option maxHeartbeats 2000000

theorem headS_len {x : List Nat} {way : Nat} (h : x.length = 2) : (headS x way).length ≤ 20 := by
  unfold headS; split <;> split <;> simp <;> lia
theorem spelled_len {t : LT} (hg : TG t) : (spelled t).length ≤ 200 := by
  cases t with
  | word w =>
    have := ABCD_len (w := w) hg
    show (if w = [66] then [98] else w).length ≤ 200
    split
    · decide
    · lia
  | copy x ps way =>
    obtain ⟨⟨c, k, hc, hk, rfl⟩, hz, hps, hw⟩ := hg
    have z0 := headS_len (x := [c, 48 + k]) (way := way) rfl
    have z1 : (ps.flatMap (pairS (decide (3 < way)))).length ≤ 80 := by
      clear z0 hw
      have key : ∀ ps : List Wp, (∀ p ∈ ps, PG p) → (ps.flatMap (pairS (decide (3 < way)))).length ≤ 40 * ps.length := by
        intro ps h
        induction ps with
        | nil => exact Nat.le_refl _
        | cons p ps ih =>
          rw [List.flatMap_cons, List.length_append, List.length_cons, Nat.mul_succ, Nat.add_comm]
          exact Nat.add_le_add (ih fun q hq => h q (.tail _ hq)) (pairS_len (h p (.head _)))
      exact Nat.le_trans (key ps hps) (Nat.mul_le_mul_left 40 hz)
    show (headS [c, 48 + k] way ++ _ ++ _ ++ _).length ≤ 200
    have z2 : (if ps = [] then ([] : List Nat) else [32, 82, 69, 80, 76, 65, 67, 73, 78, 71]).length ≤ 10 := by split <;> simp
    simp only [List.length_append, List.length_cons, List.length_nil]; lia
theorem lineS_len {t : LT} (hg : TG t) : (lineS t).length ≤ 212 := by
  have := spelled_len hg
  simp [lineS]; lia
def textS (ts : List LT) : List Nat := ts.flatMap lineS
theorem joinL_nil (ps : List (List Nat)) : joinL [] ps = ps.flatten := by
  induction ps with
  | nil => rfl
  | cons x r ih => cases r with
    | nil => simp [joinL]
    | cons y r => rw [List.flatten_cons, ← ih]; exact congrArg (· ++ _) (List.append_nil x)
section
variable {G : Ctx} {fs : List Env} {r : Nat} {H : AH} {Q : V → AH → Prop} {E : AH → Prop} {a : Addr}
theorem c_law_text (hK : GK G) (hr : 5 ≤ r) {H0 : AH} {vs : List V} {ts : List LT} (hl : H a = some (.list vs)) (hT : L2 (LTh H0 H) vs ts) (hz : ts.length ≤ 4) (hg : ∀ t ∈ ts, TG t) (h : Q (.str (textS ts)) H) : CC G fs r (.ref 629) [.ref a] H Q E := by
  have hsum : ((ts.map lineS).map (·.length)).sum ≤ 212 * ts.length := by
    clear hT hz h
    induction ts with
    | nil => exact Nat.zero_le _
    | cons t ts ih =>
      have h1 := lineS_len (hg t (.head _))
      have h2 := ih fun x hx => hg x (.tail _ hx)
      simp at h2 ⊢; lia
  refine FN (env := env629) hK (lq hr rfl) rfl rfl rfl rfl rfl (ps := ["things"]) (fun cs hl => by obtain ⟨c1, rfl⟩ := one_of hl; rfl) (by decide) (by decide) rfl rfl rfl (fun _ => rfl) fun hC L hL => ?_
  simp only [locs]
  repeat wtm_at "w1"
  refine Mt_join ?_
  repeat wtm_at "w1"
  refine Ev_ListComp noLoc (Itb_list ?_) rfl no_cl no_mC rfl (by decide) (by decide) rfl rfl (by decide) (fun _ => rfl)
  repeat wtm_at "w1"
  refine ⟨a, vs, rfl, hl, fun D i acc H' => H' = upd H D (.list acc) ∧ acc = (ts.take i).map fun t => .str (lineS t), fun D hD => ⟨⟨rfl, rfl⟩, fun i acc H' q => ?_, fun C i v acc H' hv q hD' => ?_⟩, fun D acc H' hD hD' q => ?_⟩
  · obtain ⟨rfl, rfl⟩ := q
    exact ⟨upd_of hl hD, by rw [sz24, List.length_map, List.length_take]; lia⟩
  · obtain ⟨rfl, rfl⟩ := q
    refine byc fun hnn => ?_
    obtain ⟨t, hti, ht⟩ := hT.get hv
    refine hnn ?_; clear hnn
    have hgt := hg t (List.mem_of_getElem? hti)
    have e := Ext.upd (o := .list ((ts.take i).map fun t => V.str (lineS t))) hD
    have hsl := spelled_len hgt
    refine Tst_nil (ite_tt ?_)
    repeat wtm_at "w1"
    refine (c_law_spelled hK (lr hr rfl) (ht.news e.news) hgt ?_).cl
    refine BOp_cat (by rw [sz24]; simp; lia) ?_
    repeat wtm_at "w1"
    refine BOp_cat (by rw [sz24]; simp; lia) ?_
    refine ⟨hD', ?_, ?_⟩
    · exact upd_upd
    · rw [List.take_add_one, hti]; simp [lineS]
  · obtain ⟨rfl, rfl⟩ := q
    have e := Ext.upd (o := .list ((ts.take (Src.items (.list a vs)).length).map fun t => V.str (lineS t))) hD
    have k : (ts.take (Src.items (.list a vs)).length).map (fun t => V.str (lineS t)) = (ts.map lineS).map V.str := by
      rw [List.take_of_length_le (by simp [Src.items, hT.length]), List.map_map]; rfl
    rw [k] at e ⊢
    repeat wtm_at "w1"
    refine Cl_join upd_eq (by rw [sz24]; simp only [List.length_nil, Nat.mul_zero]; lia) ?_
    rw [joinL_nil]
    exact RetQ.drop hC e (by rw [← List.flatMap_def]; exact h)
end
end W32
section W33
open PySem PySem.W PyProof.Rows
set_option maxHeartbeats 2000000

theorem cut_map {α β : Type} (f : α → β) (l : List α) (a b : Nat) : cut (l.map f) (some a) (some b) = (cut l (some a) (some b)).map f := by
  simp [cut, List.map_take, List.map_drop]
theorem cut_stands {ws os : List (List Nat)} {n : Nat} : (cut ws (some n) (some (n + os.length)) == os) = standsB ws n os := by
  unfold cut standsB
  simp only [Option.getD_some]
  rw [List.drop_take, Nat.add_sub_cancel_left]
theorem KLst_new1 {H : AH} {Q : V → AH → Prop} {vs : List V} (hz : vs.length ≤ 1000) (h : ∀ l H', Ext H H' → H l = none → H' l = some (.list vs) → Q (.ref l) H') : KLst Q vs H :=
  ⟨by rw [sz24]; lia, fun l hl => h l _ (Ext.upd hl) hl upd_eq⟩
section
variable {G : Ctx} {fs : List Env} {r : Nat} {H : AH} {Q : V → AH → Prop} {E : AH → Prop} {a pl : Addr}
theorem BOp_lists1 {la lb : Addr} {vs ws : List V} (h1 : H la = some (.list vs)) (h2 : H lb = some (.list ws)) (hz : vs.length + ws.length ≤ sizeLine) (h : ∀ D H', Ext H H' → H D = none → H' D = some (.list (vs ++ ws)) → Q (.ref D) H') : BOp G fs r .Add (.ref la) (.ref lb) H Q E :=
  BOp_lists h1 h2 hz fun D hD => h D _ (Ext.upd hD) hD upd_eq
theorem c_law_exchanged (hK : GK G) (hr : 3 ≤ r) {H0 : AH} {ws out : List (List Nat)} {vs : List V} {ps : List Wp} (hw : H a = some (.list (ws.map .str))) (hp : H pl = some (.list vs)) (hT : L2 (LPr H0 H) vs ps) (hz : ps.length ≤ 100) (hpz : ∀ p ∈ ps, p.1.length ≤ 100)
    (hx : Exch ps ws out) (hzw : ws.length ≤ 100000) (hzo : out.length ≤ 100000) (h : ∀ D H', Ext H H' → H D = none → H' D = some (.list (out.map .str)) → Q (.ref D) H') : CC G fs r (.ref 634) [.ref a, .ref pl] H Q E := by
  refine FC (env := env634) hK (lq hr rfl) rfl rfl rfl rfl rfl (ps := ["words", "pairs"]) (fun cs hl => by obtain ⟨c1, c2, rfl⟩ := two_of hl; rfl) rfl (by intro p hp; rcases List.mem_cons.mp hp with rfl | hp; exact .inr ⟨rfl, fun n => rfl⟩; rcases List.mem_cons.mp hp with rfl | hp; exact .inl rfl; cases hp) (by intro n p hp; rcases List.mem_cons.mp hp with rfl | hp; exact rfl; rcases List.mem_cons.mp hp with rfl | hp; exact rfl; cases hp) rfl rfl rfl (fun _ => rfl) fun hC L hL => ?_
  simp only [locs]
  repeat wtm_at "w1"
  refine ⟨by rw [sz24]; simp, fun F hF => ?_⟩
  have e0 := Ext.upd (o := .list []) hF
  have k0 : upd H F (.list []) F = some (.list (([] : List (List Nat)).map .str)) := upd_eq
  generalize upd H F (.list []) = H1 at e0 k0
  repeat wtm_at "w1"
  refine Ex_While (L := L) rfl (fun k m' H' => Ext H H' ∧ (X4 fun i o1 o2 F => A10 (k = ws.length - i) (i ≤ ws.length) (m' "words" = some (.ref a)) (m' "pairs" = some (.ref pl)) (m' "found" = some (.ref F)) (m' "at" = some (.int (i : Nat))) (Exch ps (ws.drop i) o2) (out = o1 ++ o2) (H' F = some (.list (o1.map .str))) (H F = none))) ?_ _
    ⟨e0, 0, [], out, F, rfl, Nat.zero_le _, put_ne (by decide) (put_ne (by decide) (put_ne (by decide) put_eq)), put_ne (by decide) (put_ne (by decide) put_eq), put_ne (by decide) put_eq, put_eq, hx, rfl, k0, hF⟩
  rintro k m' H' B hB1 hB2 hB3 hB4 hqq
  refine byc fun hnn => ?_
  obtain ⟨eX, i, o1, o2, F, hk, hi, m1, m2, m3, m4, hex, hout, hF', hFn⟩ := hqq
  refine hnn ?_; clear hnn
  have hw' := eX _ _ hw
  have hp' := eX _ _ hp
  repeat wtm_at "w1"
  refine Cl_len_list hw' (by simp; lia) ?_
  repeat wtm_at "w1"
  refine ite_b (fun h1 => ?_) fun h1 => ?_
  · have hil : i < ws.length := by simpa using h1
    wtm_at "w1"
    refine Ex_AssignComp (put (put noLoc "at" (.int (i : Nat))) "words" (.ref a)) (Itb_list ?_) rfl (fun p hp => (List.mem_cons.mp hp).elim (fun z => z ▸ .tail _ (.head _)) fun hp => (List.mem_cons.mp hp).elim (fun z => z ▸ .head _) nofun) (two_mC m4 (by show some NameKind.cell ≠ some NameKind.local; decide) (by show some NameKind.cell ≠ some NameKind.local; decide) rfl m1 (by show some NameKind.cell ≠ some NameKind.local; decide) (by show some NameKind.cell ≠ some NameKind.local; decide) rfl) rfl rfl rfl (by decide) (by decide) rfl rfl (by decide) (fun _ => rfl) rfl
    repeat wtm_at "w1"
    refine ⟨pl, vs, rfl, hp', fun D j acc H'' => ExtB D H' H'' ∧ acc.length ≤ j ∧ j ≤ vs.length ∧ L2 (LPr H0 H) acc ((ps.take j).filter fun p => standsB ws i p.1), fun D hD => ⟨⟨(Ext.upd hD).b, Nat.le_refl _, Nat.zero_le _, .nil⟩, fun j acc H'' q => ?_, fun C j v acc H'' hv q hD' => ?_⟩, fun D acc H'' hD hD' q => ?_⟩
    · refine byc fun hnn => ?_
      obtain ⟨eB, z1, z2, z3⟩ := q
      refine hnn ?_; clear hnn
      have := hT.length
      exact ⟨eB _ _ (fun z => by rw [← z, hp'] at hD; cases hD) hp', by rw [sz24]; lia⟩
    · refine byc fun hnn => ?_
      obtain ⟨eB, z1, z2, z3⟩ := q
      refine hnn ?_; clear hnn
      refine byc fun hnn => ?_
      obtain ⟨p, hpi, hpr⟩ := hT.get hv
      refine hnn ?_; clear hnn
      obtain ⟨o, nn, rfl, q1, q2, q3, q4⟩ := id hpr
      have hjv : j < vs.length := (List.getElem?_eq_some_iff.mp hv).1
      have aD : a ≠ D := fun z => by rw [← z, hw'] at hD; cases hD
      have oD : o ≠ D := fun z => by rw [← z, eX _ _ q3] at hD; cases hD
      have hw2 := eB _ _ aD hw'
      have ho2 := eB _ _ oD (eX _ _ q3)
      show Ts _ _ _ _ _ _ _ _ _
      repeat wtm_at "w1"
      refine GetI_tup (n := 0) ⟨by decide, by decide⟩ rfl rfl ?_
      repeat wtm_at "w1"
      have hpl := hpz p (List.mem_of_getElem? hpi)
      refine Cl_len_list ho2 (by rw [List.length_map]; lia) ?_
      repeat wtm_at "w1"
      refine Sl_list hw2 (by rw [sz24, List.length_map]; lia) fun l hl => ?_
      rw [cut_map, List.length_map]
      have e2 := Ext.upd (o := .list ((cut ws (some i) (some (i + p.1.length))).map V.str)) hl
      have k2 : upd H'' l (.list ((cut ws (some i) (some (i + p.1.length))).map V.str)) l = some (.list ((cut ws (some i) (some (i + p.1.length))).map V.str)) := upd_eq
      have kD := e2 _ _ hD'
      generalize upd H'' l (.list _) = H2 at e2 k2 kD
      repeat wtm_at "w1"
      refine GetI_tup (n := 0) ⟨by decide, by decide⟩ rfl rfl ?_
      refine COp_eq_list k2 (e2 _ _ ho2) (.inl (by simp [List.all_eq_true, flatV])) (by simp [List.all_eq_true, flatV]) ?_
      rw [eqL_strs, cut_stands]
      have hfil : (ps.take (j + 1)).filter (fun p => standsB ws i p.1) = (ps.take j).filter (fun p => standsB ws i p.1) ++ if standsB ws i p.1 = true then [p] else [] := by
        rw [List.take_add_one, hpi]; simp [List.filter_append, List.filter_cons]
      repeat wtm_at "w1"
      refine ite_b (fun z => ?_) fun z => ?_
      · repeat wtm_at "w1"
        rw [if_pos z] at hfil
        exact ⟨kD, (eB.trans e2.b).trans ExtB.upd, by simp; lia, by lia, by rw [hfil]; exact z3.snoc hpr⟩
      · rw [if_neg (by rw [z]; decide), List.append_nil] at hfil
        exact ⟨kD, eB.trans e2.b, by lia, by lia, by rw [hfil]; exact z3⟩
    · refine byc fun hnn => ?_
      obtain ⟨eB, z1, z2, z3⟩ := q
      refine hnn ?_; clear hnn
      have e2 := eB.ext hD
      have hFD := e2 _ _ hF'
      have hw2 := e2 _ _ hw'
      have hfi : (ps.take (Src.items (.list pl vs)).length).filter (fun p => standsB ws i p.1) = ps.filter fun p => standsB ws i p.1 := by
        rw [List.take_of_length_le (by simp [Src.items, hT.length])]
      rw [hfi] at z3
      have hfd : ps.find? (fun p => standsB ws i p.1) = (ps.filter fun p => standsB ws i p.1).head? := List.head?_filter.symm
      repeat wtm_at "w1"
      refine KLst_new1 (Nat.le_of_ble_eq_true rfl) fun l H3 eN _ k3 => ?_
      have e3 := e2.trans eN
      have D3 := eN _ _ hD'
      refine COp_ne_list D3 k3 (.inr rfl) rfl ?_
      repeat wtm_at "w1"
      cases hq : ps.filter (fun p => standsB ws i p.1) with
      | nil =>
        rw [hq] at z3 hfd
        cases z3
        refine byc fun hnn => ?_
        obtain ⟨o3, ho, hr'⟩ := hex.kept hil hfd
        refine hnn ?_; clear hnn
        refine ite_f rfl ?_
        repeat wtm_at "w1"
        refine GetI_list (e3 _ _ hw') (idx (by lia)) (n := i) (by simp) (v := .str ws[i]) (by rw [List.getElem?_map, List.getElem?_eq_getElem hil]; rfl) ?_
        repeat wtm_at "w1"
        refine KLst_new1 (Nat.le_of_ble_eq_true rfl) fun l2 H4 eN _ k4 => ?_
        have e4 := e3.trans eN
        have D4 := eN _ _ D3
        refine BOp_lists1 (e4 _ _ hF') k4 (by rw [sz24]; simp [hout, ho] at hzo ⊢; lia) fun R H5 eN hR kR => ?_
        have e5 := e4.trans eN
        have k5 : H5 R = some (.list ((o1 ++ [ws[i]]).map .str)) := by rw [kR, List.map_append]; rfl
        have D5 := eN _ _ D4
        repeat wtm_at "w1"
        refine KLst_new1 (Nat.le_of_ble_eq_true rfl) fun l3 H6 e6 _ k6 => ?_
        refine COp_ne_list (e6 _ _ D5) k6 (.inr rfl) rfl ?_
        repeat wtm_at "w1"
        refine ite_f rfl ?_
        repeat wtm_at "w1"
        exact hB1 _ _ ⟨_, by lia, eX.trans (e5.trans e6), i + 1, o1 ++ [ws[i]], o3, R, rfl, hil, put_ne (by decide) (put_ne (by decide) (put_ne (by decide) m1)), put_ne (by decide) (put_ne (by decide) (put_ne (by decide) m2)), put_ne (by decide) put_eq, put_eq,
          hr', by rw [hout, ho]; simp, e6 _ _ k5, off_of (eX.trans e4) hR⟩
      | cons p rest =>
        rw [hq] at z3 hfd
        cases z3 with
        | @cons v _ acc _ hv _ =>
        obtain ⟨o, nn, rfl, q1, q2, q3, q4⟩ := hv
        refine byc fun hnn => ?_
        obtain ⟨o3, ho, hr', hsz, hp1⟩ := hex.swapped hil hfd
        refine hnn ?_; clear hnn
        refine ite_t rfl ?_
        repeat wtm_at "w1"
        refine GetI_list D3 (idx (n := 0) (by decide)) (n := 0) rfl rfl ?_
        repeat wtm_at "w1"
        refine GetI_tup (n := 1) ⟨by decide, by decide⟩ rfl rfl ?_
        refine BOp_lists1 (e3 _ _ hF') (e3 _ _ (eX _ _ q4)) (by rw [sz24]; simp [hout, ho] at hzo ⊢; lia) fun R H5 eN hR kR => ?_
        have e5 := e3.trans eN
        have k5 : H5 R = some (.list ((o1 ++ p.2).map .str)) := by rw [kR, List.map_append]
        have D5 := eN _ _ D3
        repeat wtm_at "w1"
        refine KLst_new1 (Nat.le_of_ble_eq_true rfl) fun l3 H6 eN _ kl3 => ?_
        have e6 := e5.trans eN
        have D6 := eN _ _ D5
        have k6 := eN _ _ k5
        refine COp_ne_list D6 kl3 (.inr rfl) rfl ?_
        repeat wtm_at "w1"
        refine ite_t rfl ?_
        repeat wtm_at "w1"
        refine GetI_list D6 (idx (n := 0) (by decide)) (n := 0) rfl rfl ?_
        repeat wtm_at "w1"
        refine GetI_tup (n := 0) ⟨by decide, by decide⟩ rfl rfl ?_
        repeat wtm_at "w1"
        refine Cl_len_list (e6 _ _ (eX _ _ q3)) (by simp; lia) ?_
        repeat wtm_at "w1"
        refine hB1 _ _ ⟨ws.length - (i + p.1.length), by lia, eX.trans e6, i + p.1.length, o1 ++ p.2, o3, R, rfl, hsz, put_ne (by decide) (put_ne (by decide) (put_ne (by decide) m1)), put_ne (by decide) (put_ne (by decide) (put_ne (by decide) m2)), put_ne (by decide) put_eq, ?_,
          hr', by rw [hout, ho]; simp, k6, off_of (eX.trans e3) hR⟩
        rw [put_eq, List.length_map]; rfl
  · have hd : ws.length ≤ i := by simp at h1; exact h1
    repeat wtm_at "w1"
    exact RetQ.now (h F H' eX hFn (by rw [hout, hex.ends hd, List.append_nil]; exact hF'))
end
end W33
section W34
open PySem PySem.W PyProof.Rows
set_option maxHeartbeats 2000000

def LT.th : LT → Th
  | .word w => .word w
  | .copy x ps _ => .copy x ps
abbrev LLib := List (List Nat × List LT)
def libL (lt : LLib) : List (List Nat × List Th) := lt.map fun q => (q.1, q.2.map LT.th)
def LawAt (H0 H : AH) (kv : List Nat × V) (q : List Nat × List LT) : Prop := kv.1 = q.1 ∧ (X2 fun a vs => A4 (kv.2 = .ref a) (H0 a = none) (H a = some (.list vs)) (L2 (LTh H0 H) vs q.2))
def LawLib (H0 H : AH) (d : Addr) (lt : LLib) : Prop := (X2 fun kvs ep => A3 (H d = some (.dict kvs ep)) ((d == sysModules) = false) (L2 (LawAt H0 H) kvs lt))
theorem LawAt.news {H0 H H' : AH} {kv q} (h : LawAt H0 H kv q) (e : News H0 H H') : LawAt H0 H' kv q := by
  refine byc fun hnn => ?_
  obtain ⟨h1, a, vs, h2, h0, h3, h4⟩ := h
  refine hnn ?_; clear hnn
  exact ⟨h1, a, vs, h2, h0, e _ _ h0 h3, h4.mono fun _ _ q => q.news e⟩
theorem LawLib.ext {H0 H H' : AH} {d lt} (h : LawLib H0 H d lt) (e : Ext H H') : LawLib H0 H' d lt := by
  obtain ⟨kvs, ep, h1, h2, h3⟩ := h
  exact ⟨kvs, ep, e _ _ h1, h2, h3.mono fun _ _ q => q.news e.news⟩
theorem law_look {H0 H : AH} {x : List Nat} {kvs : List (List Nat × V)} {lt : LLib} (l : L2 (LawAt H0 H) kvs lt) :
    (kvs.lookup x = none ∧ (libL lt).lookup x = none) ∨ ∃ q ∈ lt, ∃ a vs, kvs.lookup x = some (.ref a) ∧ (libL lt).lookup x = some (q.2.map LT.th) ∧ H a = some (.list vs) ∧ L2 (LTh H0 H) vs q.2 := by
  induction l with
  | nil => exact .inl ⟨rfl, rfl⟩
  | @cons kv q kvs lt hh t ih =>
    refine byc fun hnn => ?_
    obtain ⟨h1, a, vs, h2, h0, h3, h4⟩ := hh
    refine hnn ?_; clear hnn
    unfold libL at ih ⊢
    rw [List.map_cons, List.lookup_cons, List.lookup_cons, h1]
    cases z : x == q.1 with
    | true => exact .inr ⟨q, .head _, a, vs, by rw [h2], rfl, h3, h4⟩
    | false =>
      rcases ih with ih | ⟨q', m, r⟩
      · exact .inl ih
      · exact .inr ⟨q', .tail _ m, r⟩
theorem dueT_take {f : List Nat → Option (List (List Nat))} {th : List Th} {i : Nat} {t : Th} {ws : List (List Nat)} (h : dueT f (th.take i) = some ws) (ht : th[i]? = some t) :
    dueT f (th.take (i + 1)) = (dueT f [t]).map (ws ++ ·) := by
  rw [List.take_add_one, ht, dueT_append, h]; rfl
theorem dueT_none {f : List Nat → Option (List (List Nat))} {th : List Th} {i : Nat} (h : dueT f (th.take i) = none) : dueT f th = none := by
  rw [← List.take_append_drop i th, dueT_append, h]; rfl
theorem c_law_due {G : Ctx} (hK : GK G) {H0 : AH} {lt : LLib} (hg : ∀ q ∈ lt, ∀ t ∈ q.2, TG t) (hS : ∀ n names q, n ≤ 5 → q ∈ lt → Sm (dueX (libL lt) n names) (q.2.map LT.th)) (d : Addr) :
    ∀ (n : Nat) (names : List (List Nat)), names.length + n = 5 → ∀ {fs : List Env} {r : Nat} {H : AH} {Q : V → AH → Prop} {E : AH → Prop} {a ln : Addr} {vs : List V} {ts : List LT}, 10 + n ≤ r →
      H a = some (.list vs) → L2 (LTh H0 H) vs ts → (∀ t ∈ ts, TG t) → LawLib H0 H d lt → H ln = some (.list (names.map .str)) → Sm (dueX (libL lt) n names) (ts.map LT.th) →
      (∀ ws, dueT (dueX (libL lt) n names) (ts.map LT.th) = some ws → ∀ D H', Ext H H' → H D = none → H' D = some (.list (ws.map .str)) → Q (.ref D) H') →
      (dueT (dueX (libL lt) n names) (ts.map LT.th) = none → ∀ H', Ext H H' → Q .none H') → CC G fs r (.ref 641) [.ref a, .ref d, .ref ln] H Q E := by
  intro n
  induction n using Nat.strongRecOn with
  | ind n ih =>
  intro names hn fs r H Q E a ln vs ts hr hla hT hgt hlib hln hsm h1 h2
  have hR : 10 ≤ r := by lia
  generalize hf : dueX (libL lt) n names = f at hsm h1 h2
  refine FN (env := env641) hK (lq hR rfl) rfl rfl rfl rfl rfl (ps := ["things", "library", "around"]) (fun cs hl => by obtain ⟨c1, c2, c3, rfl⟩ := three_of hl; rfl) (by decide) (by decide) rfl rfl rfl (fun _ => rfl) fun hC L hL => ?_
  simp only [locs]
  repeat wtm_at "w1"
  refine ⟨by rw [sz24]; simp, fun F hF => ?_⟩
  have e0 := Ext.upd (o := .list []) hF
  have k0 : upd H F (.list []) F = some (.list (([] : List (List Nat)).map .str)) := upd_eq
  generalize upd H F (.list []) = H1 at e0 k0
  repeat wtm_at "w1"
  refine Ex_For (L := L) rfl ?_
  refine Itb_list ?_
  repeat wtm_at "w1"
  refine ⟨a, vs, rfl, e0 _ _ hla, ?_⟩
  refine ⟨fun i m' H' => A4 (Ext H H') (m' "library" = some (.ref d)) (m' "around" = some (.ref ln)) (X2 fun F ws => A4 (m' "found" = some (.ref F)) (H F = none) (H' F = some (.list (ws.map .str))) (dueT f ((ts.map LT.th).take i) = some ws)),
    ⟨⟨e0, put_ne (by decide) (put_ne (by decide) put_eq), put_ne (by decide) put_eq, F, [], put_eq, hF, k0, rfl⟩, fun i m' H' q => q.1 _ _ hla, fun i x m' H' B hB1 hB2 hB3 hB4 hx ⟨eX, m1, m2, F, ws, m3, hFn, kF, hdu⟩ => ?_, fun m' H' ⟨eX, m1, m2, F, ws, m3, hFn, kF, hdu⟩ => ?_⟩⟩
  · refine byc fun hnn => ?_
    obtain ⟨t, hti, ht⟩ := hT.get hx
    refine hnn ?_; clear hnn
    have hgt' := hgt t (List.mem_of_getElem? hti)
    have hth : (ts.map LT.th)[i]? = some t.th := by rw [List.getElem?_map, hti]; rfl
    have hstep := dueT_take hdu hth
    have hwz := hsm i ws hdu
    have ht' := ht.news (eX.news (H0 := H0))
    cases t with
    | word w =>
      obtain rfl : x = .str w := ht
      repeat wtm_at "w1"
      refine Cl_isinstance_str (.inl ⟨w, rfl, ?_⟩)
      repeat wtm_at "w1"
      refine ite_t rfl ?_
      repeat wtm_at "w1"
      refine Mt_append kF ?_
      repeat wtm_at "w1"
      refine Cl_append kF (by rw [sz24, List.length_map]; lia) ?_
      repeat wtm_at "w1"
      exact hB2 _ _ ⟨fun b o hb => by (rw [upd_ne (fun z => by rw [z, hFn] at hb; cases hb)]; exact eX b o hb), put_ne (by decide) m1, put_ne (by decide) m2, F, ws ++ [w], put_ne (by decide) m3, hFn, by rw [upd_eq]; simp, by rw [hstep]; simp [LT.th, dueT]⟩
    | copy x ps way =>
      obtain ⟨pl, pvs, rfl, -, hpl, hL⟩ := ht'
      obtain ⟨⟨c, k, hc, hk, rfl⟩, hz, hps, hw⟩ := hgt'
      repeat wtm_at "w1"
      refine Cl_isinstance_str (.inr ⟨_, rfl, ?_⟩)
      repeat wtm_at "w1"
      refine ite_f rfl ?_
      refine byc fun hnn => ?_
      obtain ⟨kvs, ep, hd, hm, hlt⟩ := hlib.ext eX
      refine hnn ?_; clear hnn
      have hl4 := hlib.ext eX
      have hn4 := eX _ _ hln
      generalize hxx : ([c, 48 + k] : List Nat) = x at *
      repeat (fail_if_success (with_reducible refine Ts_BoolOp ?_)); wtm_at "w1"
      refine Ts.mono (Q := fun b' H2 => H' = H2 ∧ b' = (!(kvs.lookup x).isSome || names.contains x || names.length == 5)) ?_ ?_
      · repeat wtm_at "w1"
        refine GetI_tup (n := 0) ⟨by decide, by decide⟩ rfl rfl ?_
        repeat wtm_at "w1"
        refine COp_notin_dict hd hm ?_
        repeat wtm_at "w1"
        refine ite_b (fun z => ?_) fun z => ?_
        · exact ⟨rfl, by rw [z]; rfl⟩
        repeat wtm_at "w1"
        refine GetI_tup (n := 0) ⟨by decide, by decide⟩ rfl rfl ?_
        repeat wtm_at "w1"
        refine COp_in_list hn4 ?_
        repeat wtm_at "w1"
        refine ite_b (fun y => ?_) fun y => ?_
        · exact ⟨rfl, by rw [z, y]; rfl⟩
        repeat wtm_at "w1"
        refine Cl_len_list hn4 (by rw [List.length_map]; lia) ?_
        repeat wtm_at "w1"
        rw [List.length_map]
        refine ite_b (fun w => ?_) fun w => ?_
        · exact ⟨rfl, by rw [z, y]; simp at w ⊢; lia⟩
        · repeat wtm_at "w1"
          exact ⟨rfl, by rw [z, y]; simp at w ⊢; lia⟩
      rintro b' H2 ⟨rfl, rfl⟩
      have hno : f x = none → ∀ H'', Ext H' H'' → Q .none H'' := fun q H'' e'' => h2 (dueT_none (i := i + 1) (by rw [hstep]; simp [LT.th, dueT, q])) _ (eX.trans e'')
      refine ite_b (fun z => ?_) fun z => ?_
      · have q : f x = none := by
          rw [← hf]
          cases n with
          | zero => rfl
          | succ m =>
            cases hc : names.contains x with
            | true => exact dueX_in hc
            | false =>
              rw [dueX_out hc]
              rcases law_look (x := x) hlt with ⟨y1, y2⟩ | ⟨q, qm, a', vs', y1, y2, y3, y4⟩
              · rw [y2]
              · rw [y1, hc] at z; simp at z; lia
        repeat wtm_at "w1"
        exact hB3 _ _ _ (RetQ.now (hno q _ Ext.refl))
      obtain ⟨m, rfl⟩ : ∃ m, n = m + 1 := ⟨n - 1, by simp at z; lia⟩
      have hc : names.contains x = false := by
        cases hc : names.contains x with
        | false => rfl
        | true => rw [hc] at z; simp at z
      obtain ⟨q, hqm, a', vs', y1, y2, y3, y4⟩ := (law_look (x := x) hlt).resolve_left (fun y => by rw [y.1] at z; simp at z)
      have hout := dueX_out (lib := libL lt) (n := m) hc
      rw [hf, y2] at hout
      repeat wtm_at "w1"
      refine GetI_tup (n := 0) ⟨by decide, by decide⟩ rfl rfl ?_
      refine GetI_dict hd y1 ?_
      repeat wtm_at "w1"
      refine GetI_tup (n := 0) ⟨by decide, by decide⟩ rfl rfl ?_
      repeat wtm_at "w1"
      refine ⟨by rw [sz24]; simp, fun N1 hN1 => ?_⟩
      have e7 := Ext.upd (o := .list [V.str x]) hN1
      have k7 : upd H' N1 (.list [V.str x]) N1 = some (.list [V.str x]) := upd_eq
      generalize upd H' N1 (.list [V.str x]) = H7 at e7 k7
      refine BOp_lists (e7 _ _ hn4) k7 (by rw [sz24]; simp; lia) fun N2 hN2 => ?_
      have e8 := e7.trans (Ext.upd (o := .list (names.map V.str ++ [V.str x])) hN2)
      have k8 : upd H7 N2 (.list (names.map V.str ++ [V.str x])) N2 = some (.list ((names ++ [x]).map V.str)) := by rw [upd_eq, List.map_append]; rfl
      generalize upd H7 N2 (.list (names.map V.str ++ [V.str x])) = H8 at e8 k8
      repeat wtm_at "w1"
      have hsm' := hS m (names ++ [x]) q (by lia) hqm
      refine (ih m (by lia) (names ++ [x]) (by simp; lia) (by lia) (e8 _ _ y3) (y4.mono fun _ _ q => q.news e8.news) (hg q hqm) (hl4.ext e8) k8 hsm' (fun us hus D9 H9 e9 hD9 k9 => ?_) (fun hus H9 e9 => ?_)).cl
      rotate_left
      · repeat wtm_at "w1"
        refine ite_t rfl ?_
        repeat wtm_at "w1"
        exact hB3 _ _ _ (RetQ.now (hno (by rw [hout]; exact hus) _ (e8.trans e9)))
      have e49 := e8.trans e9
      have hfx : f x = some us := by rw [hout]; exact hus
      have hd1 : dueT f ((ts.map LT.th).take (i + 1)) = some (ws ++ exch ps us) := by rw [hstep]; simp [LT.th, dueT, hfx]
      have hz9 := hsm (i + 1) _ hd1
      have hzu : us.length ≤ 100000 := hsm' (q.2.map LT.th).length us (by rw [List.take_length]; exact hus)
      have hne : ∀ p ∈ ps, p.1 ≠ [] := fun p hp => (hps p hp).1
      repeat wtm_at "w1"
      refine ite_f rfl ?_
      repeat wtm_at "w1"
      refine GetI_tup (n := 1) ⟨by decide, by decide⟩ rfl rfl ?_
      repeat wtm_at "w1"
      refine (c_law_exchanged hK (lr hR rfl) k9 (e49 _ _ hpl) (hL.mono fun _ _ q => q.news e49.news) (by lia) (fun p hp => by have := (hps p hp).2.1; lia) (exch_exch hne us) hzu (by simp at hz9; lia) fun D10 H10 e10 hD10 k10 => ?_).cl
      have e410 := e49.trans e10
      refine BOp_lists (e410 _ _ kF) k10 (by rw [sz24]; simp at hz9 ⊢; lia) fun R hR' => ?_
      have k11 : upd H10 R (.list (ws.map V.str ++ (exch ps us).map V.str)) R = some (.list ((ws ++ exch ps us).map .str)) := by rw [upd_eq]; simp
      repeat wtm_at "w1"
      exact hB1 _ _ ⟨eX.trans (e410.trans (Ext.upd hR')), put_ne (by decide) (put_ne (by decide) (put_ne (by decide) m1)), put_ne (by decide) (put_ne (by decide) (put_ne (by decide) m2)), R, ws ++ exch ps us, put_eq, off_of (eX.trans e410) hR', k11, hd1⟩
  · repeat wtm_at "w1"
    refine RetQ.now (h1 ws ?_ F H' eX hFn kF)
    rw [← hdu, List.take_of_length_le (by simp [Src.items, hT.length])]
end W34
section W35
open PySem PySem.W PyProof.Rows
set_option maxHeartbeats 2000000

section
variable {G : Ctx} {fs : List Env} {r : Nat} {H : AH} {Q : V → AH → Prop} {E : AH → Prop} {d : Addr}
theorem c_law_heard (hK : GK G) (hE : G.C = .ref 84) {lb : LibT} (hlb : ∀ q ∈ lb, TextS q.2.1 q.2.2) (hS : ∀ n names q, n ≤ 5 → q ∈ lb → Sm (dueX (libT lb) n names) q.2.2) (hr : 47 ≤ r) {s : List Nat} {th : List Th}
    (hs : TextS s th) (hlib : LibAt H d (libS lb)) (hsm : Sm (dueX (libT lb) 5 []) th)
    (hR : ∀ ws, dueT (dueX (libT lb) 5 []) th = some ws → ∀ x ∈ ws, x ≠ REPLACEw)
    (h1 : ∀ ws, dueT (dueX (libT lb) 5 []) th = some ws → ∀ D H', Ext H H' → H D = none → H' D = some (.list (ws.map .str)) → Q (.ref D) H')
    (h2 : dueT (dueX (libT lb) 5 []) th = none → ∀ H', Ext H H' → Q .none H') : CC G fs r (.ref 646) [.str s, .ref d] H Q E := by
  refine FN (env := env646) hK (lq hr rfl) rfl rfl rfl rfl rfl (ps := ["text", "library"]) (fun cs hl => by obtain ⟨c1, c2, rfl⟩ := two_of hl; rfl) (by decide) (by decide) rfl rfl rfl (fun _ => rfl) fun hC L hL => ?_
  simp only [locs]
  wtm_at "w1"
  refine Ex_Try (EB := fun H' => Ext H H' ∧ dueT (dueX (libT lb) 5 []) th = none) hK hE rfl ?_ fun H' q => RetQ.now (h2 q.2 _ q.1)
  repeat wtm_at "w1"
  refine (c_read_tokens hK hE hlb hS (lr hr rfl) hs hlib hsm hR (fun ws hws D H1 e1 hD w1 => ?_) (fun q H' e => ⟨e, q⟩)).cl
  obtain ⟨as, k1, k2, k3⟩ := w1.list
  repeat wtm_at "w1"
  refine Ev_CompMF noLoc id (fun _ => false) (Itb_list ?_) rfl no_cl no_mC rfl (by decide) (by decide) rfl rfl (by decide) (fun _ => rfl)
  repeat wtm_at "w1"
  refine ⟨D, _, rfl, k1, ⟨by simp [Src.items]; rw [sz24]; have := w1.3; lia, fun D2 o hD2 => Ext.upd hD2 _ _ k1, fun C D2 o i v hv hD2 => ?_, fun _ _ _ _ _ _ z => by cases z⟩, fun D2 hD2 => ?_⟩
  · obtain ⟨x, hx, rfl⟩ : ∃ x, as[i]? = some x ∧ v = .ref x := by
      simp only [Src.items, List.getElem?_map] at hv
      obtain ⟨a, h1, h2⟩ := Option.map_eq_some_iff.mp hv
      exact ⟨a, h1, h2.symm⟩
    obtain ⟨t, ht, hta⟩ := k3.at hx
    obtain ⟨w, hw, rfl⟩ : ∃ w, ws[i]? = some w ∧ t = wt w := by
      rw [List.getElem?_map] at ht
      obtain ⟨a, h1, h2⟩ := Option.map_eq_some_iff.mp ht
      exact ⟨a, h1, h2.symm⟩
    obtain ⟨dx, pp, b, hq⟩ := hta
    have hq' := Ext.upd (o := o) hD2 _ _ hq
    show Ts _ _ _ _ _ _ _ _ _
    repeat wtm_at "w1"
    exact ⟨rfl, rfl⟩
  rw [List.filter_eq_nil_iff.mpr (by simp)]
  have e2 := e1.trans (Ext.upd (o := .list []) hD2)
  have e2' := Ext.upd (o := .list []) hD2
  have j2 : upd H1 D2 (.list (([] : List V).map id)) D2 = some (.list []) := upd_eq
  change Ext H (upd H1 D2 (.list (([] : List V).map id))) at e2
  change Ext H1 (upd H1 D2 (.list (([] : List V).map id))) at e2'
  generalize upd H1 D2 (.list (([] : List V).map id)) = H2 at e2 e2' j2
  repeat wtm_at "w1"
  refine ⟨by rw [sz24]; simp, fun D3 hD3 => ?_⟩
  have e3 := e2.trans (Ext.upd (o := .list []) hD3)
  have e3' := e2'.trans (Ext.upd (o := .list []) hD3)
  have j3 := upd_of (o2 := .list []) j2 hD3
  have j4 : upd H2 D3 (.list []) D3 = some (.list []) := upd_eq
  generalize upd H2 D3 (.list []) = H3 at e3 e3' j3 j4
  refine COp_eq_list j3 j4 (.inl rfl) rfl ?_
  repeat wtm_at "w1"
  refine ite_t rfl ?_
  repeat wtm_at "w1"
  refine Ev_ListComp noLoc (Itb_list ?_) rfl no_cl no_mC rfl (by decide) (by decide) rfl rfl (by decide) (fun _ => rfl)
  repeat wtm_at "w1"
  refine ⟨D, _, rfl, e3' _ _ k1, fun D4 i acc H' => H' = upd H3 D4 (.list acc) ∧ acc = (ws.take i).map .str, fun D4 hD4 => ⟨⟨rfl, rfl⟩, fun i acc H' q => ?_, fun C i v acc H' hv q hD' => ?_⟩, fun D4 acc H' hD4 hD' q => ?_⟩
  · obtain ⟨rfl, rfl⟩ := q
    exact ⟨upd_of (e3' _ _ k1) hD4, by rw [sz24, List.length_map, List.length_take]; have := w1.3; lia⟩
  · obtain ⟨rfl, rfl⟩ := q
    obtain ⟨x, hx, rfl⟩ : ∃ x, as[i]? = some x ∧ v = .ref x := by
      simp only [Src.items, List.getElem?_map] at hv
      obtain ⟨a, h1, h2⟩ := Option.map_eq_some_iff.mp hv
      exact ⟨a, h1, h2.symm⟩
    obtain ⟨t, ht, hta⟩ := k3.at hx
    obtain ⟨w, hw, rfl⟩ : ∃ w, ws[i]? = some w ∧ t = wt w := by
      rw [List.getElem?_map] at ht
      obtain ⟨a, h1, h2⟩ := Option.map_eq_some_iff.mp ht
      exact ⟨a, h1, h2.symm⟩
    obtain ⟨dx, pp, b, hq⟩ := hta
    have hq' := Ext.upd (o := .list ((ws.take i).map V.str)) hD4 _ _ (e3' _ _ hq)
    refine Tst_nil (ite_tt ?_)
    repeat wtm_at "w1"
    exact ⟨hD', by rw [upd_upd], by rw [List.take_add_one, hw]; simp⟩
  · obtain ⟨rfl, rfl⟩ := q
    have kk : (ws.take (Src.items (.list D (as.map V.ref))).length).map V.str = ws.map .str := by
      rw [List.take_of_length_le (by simp [Src.items, k2])]
    rw [kk]
    exact RetQ.now (h1 ws hws D4 _ (e3.updT hD4) (off_of e3 hD4) upd_eq)
end
end W35
section W36
open PySem PySem.W PyProof.Rows
set_option maxHeartbeats 2000000
/-! the plain law: a text as spelled says its things -/
abbrev Pcs := List (List Nat × List Tk)
def content (ps : Pcs) : List Nat := joinL [32] (ps.map (·.1))
def toks (ps : Pcs) : List Tk := ps.flatMap (·.2)
def rowP (ps : Pcs) : List Nat := blk ++ content ps
/-- one piece of a row: an item, or nothing -/
def Pc (p : List Nat × List Tk) : Prop := p = ([], []) ∨ ∃ k w, p.2 = [(k, w)] ∧ Itm p.1 k w ∧ (∀ c ∈ p.1, 33 ≤ c ∧ c < 127) ∧ ([[80, 73, 67], [80, 73, 67, 84, 85, 82, 69]] : List (List Nat)).contains w = false
theorem suf_join (ps : Pcs) (h : ∀ p ∈ ps, Pc p) (hd : ∀ p ∈ ps.dropLast, p.1 ≠ [46]) : Suf (content ps) (toks ps) := by
  induction ps with
  | nil => exact .nil
  | cons p r ih => cases r with
    | nil =>
      rcases h p (.head _) with rfl | ⟨k, w, h1, h2, _⟩
      · exact .nil
      · have := Suf.item h2 (.inl rfl) (fun _ => rfl) .nil
        simpa [content, joinL, toks, h1] using this
    | cons q r =>
      have ih := ih (fun x hx => h x (.tail _ hx)) (fun x hx => hd x (by rw [List.dropLast_cons_cons]; exact .tail _ hx))
      have hp := hd p (by rw [List.dropLast_cons_cons]; exact .head _)
      rcases h p (.head _) with rfl | ⟨k, w, h1, h2, _⟩
      · exact Suf.blank ih
      · have := Suf.item h2 (.inr ⟨_, rfl⟩) (fun z => absurd z hp) (.blank ih)
        simpa [content, joinL, toks, h1] using this
theorem Pc.ch {p : List Nat × List Tk} (h : Pc p) {c : Nat} (hc : c ∈ p.1) : 32 ≤ c ∧ c < 127 := by
  rcases h with rfl | ⟨k, w, h1, h2, h3, h4⟩
  · cases hc
  · exact ⟨Nat.le_of_succ_le (h3 c hc).1, (h3 c hc).2⟩
theorem content_ch (ps : Pcs) (h : ∀ p ∈ ps, Pc p) (c : Nat) (hc : c ∈ content ps) : 32 ≤ c ∧ c < 127 := by
  induction ps with
  | nil => cases hc
  | cons p r ih => cases r with
    | nil => exact (h p (.head _)).ch hc
    | cons q r =>
      have hc : c ∈ p.1 ++ [32] ++ content (q :: r) := hc
      rcases List.mem_append.mp hc with hc | hc
      · rcases List.mem_append.mp hc with hc | hc
        · exact (h p (.head _)).ch hc
        · cases List.mem_singleton.mp hc; decide
      · exact ih (fun x hx => h x (.tail _ hx)) hc
theorem joinL_append (c : List Nat) (xs ys : List (List Nat)) (h : xs ≠ []) (h' : ys ≠ []) : joinL c (xs ++ ys) = joinL c xs ++ c ++ joinL c ys := by
  induction xs with
  | nil => exact absurd rfl h
  | cons x xs ih => cases xs with
    | nil => cases ys with
      | nil => exact absurd rfl h'
      | cons y ys => rfl
    | cons x' xs =>
      have ih := ih nofun
      rw [List.cons_append, List.cons_append] at *
      show x ++ c ++ joinL c (x' :: (xs ++ ys)) = x ++ c ++ joinL c (x' :: xs) ++ c ++ joinL c ys
      rw [ih]; simp only [List.append_assoc]
theorem content_append {xs ys : Pcs} (h : xs ≠ []) (h' : ys ≠ []) : content (xs ++ ys) = content xs ++ [32] ++ content ys := by
  unfold content
  rw [List.map_append, joinL_append _ _ _ (by simpa using h) (by simpa using h')]
theorem body_row {l : List Nat} (h : l.length ≤ 61) : bodyOf (blk ++ l) = [32, 32, 32, 32] ++ l ++ List.replicate (61 - l.length) 32 := by
  unfold bodyOf cut
  have h1 : (blk ++ l ++ List.replicate (80 - (blk ++ l).length) 32).take 72 = blk ++ (l ++ List.replicate (61 - l.length) 32) := by
    rw [List.append_assoc, List.take_append]
    simp only [List.length_append, blk, List.length_cons, List.length_nil]
    rw [List.take_of_length_le (by simp), List.take_append, List.take_of_length_le (by lia), List.take_replicate]
    congr 3; lia
  show ((blk ++ l ++ List.replicate (80 - (blk ++ l).length) 32).take 72).drop 7 = _
  rw [h1]; rfl
theorem drop_rep {n c x : Nat} {l : List Nat} (h : x ≠ c) : (List.replicate n c ++ x :: l).dropWhile (· == c) = x :: l := by
  induction n with
  | zero => simp [h]
  | succ n ih => rw [List.replicate_succ, List.cons_append, List.dropWhile_cons_of_pos (by simp)]; exact ih
theorem rstrip_row {l : List Nat} {c n : Nat} (h : c ≠ 32) : rstripL 32 (l ++ [c] ++ List.replicate n 32) = l ++ [c] := by
  unfold rstripL
  rw [List.reverse_append, List.reverse_append, List.reverse_replicate, List.reverse_singleton, List.singleton_append, drop_rep h]
  simp
theorem strip_ne {l : List Nat} {c : Nat} (hc : c ∈ l) (h : c ≠ 32) : stripL 32 l ≠ [] := by
  intro z
  unfold stripL rstripL at z
  rw [List.reverse_eq_nil_iff] at z
  have key : ∀ l : List Nat, c ∈ l → c ∈ l.dropWhile (· == 32) := by
    intro l hl
    induction l with
    | nil => cases hl
    | cons a t ih =>
      rw [List.dropWhile_cons]
      split
      · rename_i q
        rcases List.mem_cons.mp hl with rfl | hl
        · exact absurd (by simpa using q) h
        · exact ih hl
      · exact hl
  have := key _ (List.mem_reverse.mpr (key l hc))
  rw [z] at this; cases this
/-- a good row -/
structure RowG (ps : Pcs) : Prop where
  pc : ∀ p ∈ ps, Pc p
  nd : ∀ p ∈ ps.dropLast, p.1 ≠ [46]
  len : (content ps).length ≤ 61
  last : ∃ l c, content ps = l ++ [c] ∧ c ≠ 32
  few : (toks ps).length ≤ 100
theorem RowG.spec {ps : Pcs} (g : RowG ps) : (RowOK (rowP ps) ∧ stripL 32 (bodyOf (rowP ps)) ≠ []) ∧ rstripL 32 (bodyOf (rowP ps)) = [32, 32, 32, 32] ++ content ps := by
  have hb := body_row g.len
  obtain ⟨l, c, hl, hc⟩ := g.last
  refine ⟨⟨⟨fun c hc => ?_, ?_, rfl⟩, ?_⟩, ?_⟩
  · rcases List.mem_append.mp hc with z | z
    · have : ∀ c ∈ blk, 32 ≤ c ∧ c < 127 := by decide
      exact this c z
    · exact content_ch ps g.pc c z
  · have := g.len
    simp [rowP]; lia
  · unfold rowP
    rw [hb]
    exact strip_ne (c := c) (by rw [hl]; simp) hc
  · unfold rowP
    rw [hb, hl, ← List.append_assoc, rstrip_row hc]
theorem rowsOf_append (a b : List (List Nat)) : rowsOf (a ++ b) = rowsOf a ++ rowsOf b := by simp [rowsOf]
theorem textS_of {rows : List Pcs} {th : List Th} (hg : ∀ ps ∈ rows, RowG ps) (hn : rows.length ≤ 1000) (hT : TextT (rows.flatMap toks) th) : TextS (rowsOf (rows.map rowP)) th := by
  have hlen : (rowsOf (rows.map rowP)).length ≤ 73 * rows.length := by
    clear hT hn
    induction rows with
    | nil => exact Nat.zero_le _
    | cons r rows ih =>
      have h1 := (hg r (.head _)).len
      have h2 := ih fun x hx => hg x (.tail _ hx)
      simp [rowsOf, rowP] at h2 ⊢; lia
  have htk : (rows.flatMap toks).length ≤ 100 * rows.length := by
    clear hT hn hlen
    induction rows with
    | nil => exact Nat.zero_le _
    | cons r rows ih =>
      have h1 := (hg r (.head _)).few
      have h2 := ih fun x hx => hg x (.tail _ hx)
      simp only [List.flatMap_cons, List.length_append, List.length_cons]; lia
  have hfl : (rows.map fun ps => (([32, 32, 32, 32] : List Nat) ++ content ps, toks ps)).flatMap (·.2) = rows.flatMap toks := by
    rw [List.flatMap_map]
  refine ⟨rows.map rowP, rows.map fun ps => ([32, 32, 32, 32] ++ content ps, toks ps), rfl, ⟨by lia, by rw [List.length_map]; lia, fun l hl => ?_⟩, ?_, fun q hq => ?_, ?_, ?_, ?_⟩
  · obtain ⟨ps, hp, rfl⟩ := List.mem_map.mp hl
    exact (hg ps hp).spec.1
  · rw [List.map_map, List.map_map]
    exact List.map_congr_left fun ps hp => (hg ps hp).spec.2.symm
  · obtain ⟨ps, hp, rfl⟩ := List.mem_map.mp hq
    have g := hg ps hp
    refine ⟨.blank (.blank (.blank (.blank (suf_join ps g.pc g.nd)))), by have := g.len; simp; lia, fun c hc => ?_⟩
    rcases List.mem_append.mp hc with z | z
    · have : ∀ c ∈ ([32, 32, 32, 32] : List Nat), c < 128 := by decide
      exact this c z
    · have := content_ch ps g.pc c z; lia
  · rw [hfl]
    intro t ht
    obtain ⟨ps, hp, ht⟩ := List.mem_flatMap.mp ht
    obtain ⟨p, hpp, ht⟩ := List.mem_flatMap.mp ht
    rcases (hg ps hp).pc p hpp with rfl | ⟨k, w, h1, _, _, h4⟩
    · cases ht
    · rw [h1] at ht; cases List.mem_singleton.mp ht; exact h4
  · rw [hfl]; lia
  · rw [hfl]; exact hT
end W36
section W37
open PySem PySem.W PyProof.Rows
set_option maxHeartbeats 2000000
abbrev wPc (s u : List Nat) : List Nat × List Tk := (s, [wt u])
abbrev dotPc : List Nat × List Tk := ([46], [tDot])
abbrev psPc : List Nat × List Tk := ([61, 61], [tPs])
/-- what a word's signs must be -/
abbrev WOK (s u : List Nat) : Prop := s ≠ [] ∧ (∀ d ∈ s, WORDS.contains (capF d) = true ∧ 33 ≤ d ∧ d < 127) ∧ LETT.contains (capF (s.headD 0)) = true ∧ (s.map capF).getLast? ≠ some 45 ∧ s.length ≤ 10 ∧ s.map capF = u ∧
  ([[80, 73, 67], [80, 73, 67, 84, 85, 82, 69]] : List (List Nat)).contains u = false ∧ s ≠ [46] ∧ s.getLast? ≠ some 32 ∧ u.map up1 = u ∧ (∀ c ∈ u, c < 128) ∧ u ≠ COPYw
theorem WOK.pc {s u : List Nat} (h : WOK s u) : Pc (wPc s u) := by
  obtain ⟨h1, h2, h3, h4, h5, rfl, h7, _⟩ := h
  cases s with
  | nil => exact absurd rfl h1
  | cons c w => exact .inr ⟨kWord, _, rfl, .word (fun d hd => (h2 d hd).1) h3 h4 (by simp at h5; lia), fun d hd => (h2 d hd).2, h7⟩
theorem WOK.uw {s u : List Nat} (h : WOK s u) : UW u := by
  obtain ⟨h1, h2, h3, h4, h5, h6, h7, h8, h9, h10, h11, _⟩ := h
  exact ⟨h11, by rw [← h6, List.length_map]; lia, h10⟩
theorem WOK.abcd : ∀ w ∈ ABCD, WOK w w := by decide
theorem WOK.low : WOK [98] [66] := by decide
def names20 : List (List Nat) := [84, 85].flatMap fun c => (List.range 10).map fun k => [c, 48 + k]
theorem WOK.names : ∀ x ∈ names20, WOK (x.map lo1) x ∧ WOK x x := by decide
def NM (x : List Nat) : Prop := ∃ c k, (c = 84 ∨ c = 85) ∧ k < 10 ∧ x = [c, 48 + k]
theorem NM.mem {x : List Nat} (h : NM x) : x ∈ names20 := by
  obtain ⟨c, k, hc, hk, rfl⟩ := h
  exact List.mem_flatMap.mpr ⟨c, by simpa using hc, List.mem_map.mpr ⟨k, List.mem_range.mpr hk, rfl⟩⟩
theorem NM.lo {x : List Nat} (h : NM x) : WOK (x.map lo1) x := (WOK.names x h.mem).1
theorem NM.up {x : List Nat} (h : NM x) : WOK x x := (WOK.names x h.mem).2
def litPc (x : List Nat) : List Nat × List Tk := ([34] ++ x ++ [34], [(kLit, x)])
theorem NM.lit {x : List Nat} (h : NM x) : Pc (litPc x) := by
  obtain ⟨c, k, hc, hk, rfl⟩ := h
  refine .inr ⟨kLit, _, rfl, .lit (b := [c, 48 + k]) (by simp; lia) (by simp) (by simp), fun d hd => ?_, ?_⟩
  · simp [litPc] at hd; lia
  · rcases hc with rfl | rfl <;> rfl
theorem psPc_pc : Pc psPc := .inr ⟨kPseudo, _, rfl, .pseudo, by decide, by decide⟩
theorem dotPc_pc : Pc dotPc := .inr ⟨kSign, _, rfl, .dot, by decide, by decide⟩
/-- pieces that are no dots -/
def P0 (ps : Pcs) : Prop := ∀ p ∈ ps, Pc p ∧ p.1 ≠ [46]
theorem P0.app {a b : Pcs} (x : P0 a) (y : P0 b) : P0 (a ++ b) := fun p hp => (List.mem_append.mp hp).elim (x p) (y p)
theorem P0.one {p : List Nat × List Tk} (h : Pc p) (n : p.1 ≠ [46]) : P0 [p] := fun q hq => List.mem_singleton.mp hq ▸ ⟨h, n⟩
theorem WOK.p0 {s u : List Nat} (h : WOK s u) : P0 [wPc s u] := .one h.pc h.2.2.2.2.2.2.2.1
theorem RowG.dot {ps : Pcs} (h : P0 ps) (n : ps ≠ []) (l : (content ps).length ≤ 59) (f : (toks ps).length ≤ 50) : RowG (ps ++ [dotPc]) where
  pc := fun p hp => (List.mem_append.mp hp).elim (fun z => (h p z).1) fun z => List.mem_singleton.mp z ▸ dotPc_pc
  nd := fun p hp => by rw [List.dropLast_concat] at hp; exact (h p hp).2
  len := by rw [content_append n (by simp)]; simp [content, joinL] at l ⊢; lia
  last := ⟨content ps ++ [32], 46, by rw [content_append n (by simp)]; rfl, by decide⟩
  few := by simp [toks] at f ⊢; lia
theorem RowG.plain {ps : Pcs} (h : P0 ps) (l : (content ps).length ≤ 61) (f : (toks ps).length ≤ 50) (e : ∃ l c, content ps = l ++ [c] ∧ c ≠ 32) : RowG ps where
  pc := fun p hp => (h p hp).1
  nd := fun p hp => (h p ((List.dropLast_sublist _).mem hp)).2
  len := l
  last := e
  few := by lia
def sideP (ws : List (List Nat)) (bare : Bool) : Pcs := if bare = true ∧ ws.length = 1 then ws.map (fun w => wPc w w) else psPc :: ((if ws = [] then [([], [])] else ws.map fun w => wPc w w) ++ [psPc])
theorem sideP_ne {ws bare} : sideP ws bare ≠ [] := by
  unfold sideP
  by_cases h : bare = true ∧ ws.length = 1
  · rw [if_pos h]; intro z
    have := congrArg List.length z
    rw [List.length_map, h.2] at this; cases this
  · rw [if_neg h]; exact List.cons_ne_nil _ _
theorem words_p0 {ws : List (List Nat)} (h : ∀ w ∈ ws, w ∈ ABCD) : P0 (ws.map fun w => wPc w w) := fun p hp => by
  obtain ⟨w, hw, rfl⟩ := List.mem_map.mp hp
  exact (WOK.abcd w (h w hw)).p0 _ (.head _)
theorem words_uw {ws : List (List Nat)} (h : ∀ w ∈ ws, w ∈ ABCD) : ∀ x ∈ ws, UW x ∧ x ≠ COPYw := fun x hx => ⟨(WOK.abcd x (h x hx)).uw, (WOK.abcd x (h x hx)).2.2.2.2.2.2.2.2.2.2.2⟩
theorem ps_p0 : P0 [psPc] := .one psPc_pc (by decide)
theorem sideP_p0 {ws bare} (h : ∀ w ∈ ws, w ∈ ABCD) : P0 (sideP ws bare) := by
  unfold sideP
  split
  · exact words_p0 h
  · refine ps_p0.app (P0.app ?_ ps_p0)
    split
    · exact P0.one (.inl rfl) (by decide)
    · exact words_p0 h
theorem sideP_content {ws : List (List Nat)} {bare : Bool} (h : ws.length ≤ 2) : content (sideP ws bare) = sideS ws bare := by
  cases ws with
  | nil => cases bare <;> rfl
  | cons w ws => cases ws with
    | nil => cases bare <;> simp [content, sideP, sideS, joinL]
    | cons v ws => cases ws with
      | nil => cases bare <;> simp [content, sideP, sideS, joinL]
      | cons u ws => exact absurd h (by simp)
theorem sideP_toks {ws : List (List Nat)} {bare : Bool} (h : ∀ w ∈ ws, w ∈ ABCD) (hz : ws.length ≤ 2) : SideT (toks (sideP ws bare)) ws ∧ (toks (sideP ws bare)).length ≤ 4 := by
  cases ws with
  | nil => cases bare <;> exact ⟨.pseudo (ws := []) (by simp) (by simp), Nat.le_of_ble_eq_true rfl⟩
  | cons w ws => cases ws with
    | nil => cases bare with
      | true => exact ⟨.bare (WOK.abcd _ (h _ (.head _))).uw, Nat.le_of_ble_eq_true rfl⟩
      | false => exact ⟨.pseudo (ws := [w]) (words_uw h) (by simp), Nat.le_of_ble_eq_true rfl⟩
    | cons v ws => cases ws with
      | nil => cases bare <;> exact ⟨.pseudo (ws := [w, v]) (words_uw h) (by simp), Nat.le_of_ble_eq_true rfl⟩
      | cons u ws => exact absurd hz (by simp)
abbrev byPc := wPc BYw BYw
def pairP (bare : Bool) (p : Wp) : Pcs := sideP p.1 bare ++ (byPc :: sideP p.2 bare)
theorem by_ok : WOK BYw BYw := by decide
theorem pairP_p0 {b : Bool} {p : Wp} (h : PG p) : P0 (pairP b p) := (sideP_p0 h.2.2.2.1).app (by_ok.p0.app (sideP_p0 h.2.2.2.2))
theorem pairP_content {b : Bool} {p : Wp} (h : PG p) : (10 :: blk) ++ content (pairP b p) = pairS b p := by
  unfold pairP pairS
  rw [content_append sideP_ne (by simp), show byPc :: sideP p.2 b = [byPc] ++ sideP p.2 b from rfl, content_append (by simp) sideP_ne, sideP_content h.2.1, sideP_content h.2.2.1]
  simp [content, joinL]
theorem pairP_len {b : Bool} {p : Wp} (h : PG p) : (content (pairP b p)).length ≤ 28 := by
  have h1 := pairS_len (bare := b) h
  rw [← pairP_content h] at h1
  simp at h1; lia
theorem pairP_toks {b : Bool} {p : Wp} (h : PG p) : PairT (toks (pairP b p)) p ∧ (toks (pairP b p)).length ≤ 9 := by
  obtain ⟨a1, a2⟩ := sideP_toks (bare := b) h.2.2.2.1 h.2.1
  obtain ⟨b1, b2⟩ := sideP_toks (bare := b) h.2.2.2.2 h.2.2.1
  have e : toks (pairP b p) = toks (sideP p.1 b) ++ wt BYw :: toks (sideP p.2 b) := by simp [pairP, toks]
  rw [e]
  exact ⟨.mk a1 b1 h.1, by simp; lia⟩
theorem sideS_last {ws : List (List Nat)} {b : Bool} (hw : ∀ w ∈ ws, w ∈ ABCD) : ∃ l c, sideS ws b = l ++ [c] ∧ c ≠ 32 := by
  unfold sideS
  by_cases hb : b = true ∧ ws.length = 1
  · rw [if_pos hb]
    obtain ⟨w, rfl⟩ := List.length_eq_one_iff.mp hb.2
    have := hw _ (.head _)
    have key : ∀ w ∈ ABCD, ∃ l c, w = l ++ [c] ∧ c ≠ 32 := by
      intro w hw
      rcases List.mem_cons.mp hw with rfl | hw
      · exact ⟨[], 65, rfl, by decide⟩
      rcases List.mem_cons.mp hw with rfl | hw
      · exact ⟨[], 66, rfl, by decide⟩
      rcases List.mem_cons.mp hw with rfl | hw
      · exact ⟨[], 67, rfl, by decide⟩
      rcases List.mem_cons.mp hw with rfl | hw
      · exact ⟨[], 68, rfl, by decide⟩
      cases hw
    exact key _ this
  · rw [if_neg hb]; exact ⟨[61, 61, 32] ++ joinL [32] ws ++ [32, 61], 61, by simp, by decide⟩
theorem pairP_last {b : Bool} {p : Wp} (h : PG p) : ∃ l c, content (pairP b p) = l ++ [c] ∧ c ≠ 32 := by
  obtain ⟨l, c, e, hc⟩ := sideS_last (b := b) h.2.2.2.2
  unfold pairP
  rw [content_append sideP_ne (by simp), show byPc :: sideP p.2 b = [byPc] ++ sideP p.2 b from rfl, content_append (by simp) sideP_ne, sideP_content h.2.2.1, e]
  exact ⟨content (sideP p.1 b) ++ [32] ++ (content [byPc] ++ [32] ++ l), c, by simp, hc⟩
end W37
section W38
open PySem PySem.W PyProof.Rows
set_option maxHeartbeats 2000000
abbrev replPc := wPc REPLw REPLw
def namePc (x : List Nat) (way : Nat) : List Nat × List Tk := if way % 2 = 0 then wPc (x.map lo1) x else litPc x
def headP (x : List Nat) (way : Nat) : Pcs := wPc COPYw COPYw :: namePc x way :: (if way / 2 % 2 = 0 then [wPc OFw OFw, wPc [76, 73, 66] [76, 73, 66]] else [])
def rowsP : LT → List Pcs
  | .word w => [[wPc (if w = [66] then [98] else w) w]]
  | .copy x [] way => [headP x way ++ [dotPc]]
  | .copy x [p] way => [headP x way ++ [replPc], pairP (decide (3 < way)) p ++ [dotPc]]
  | .copy x (p :: q :: _) way => [headP x way ++ [replPc], pairP (decide (3 < way)) p, pairP (decide (3 < way)) q ++ [dotPc]]
theorem pc_of {s u : List Nat} (h : WOK s u) : P0 [wPc s u] := h.p0
theorem headP_ne {x way} : headP x way ≠ [] := by simp [headP]
theorem namePc_ok {x : List Nat} (way : Nat) (h : NM x) : P0 [namePc x way] := by
  unfold namePc
  split
  · exact h.lo.p0
  · exact .one h.lit (by simp [litPc])
theorem copy_pc : Pc (wPc COPYw COPYw) := .inr ⟨kWord, _, rfl, .word (by decide) (by decide) (by decide) (by decide), by decide, by decide⟩
theorem headP_p0 {x : List Nat} {way : Nat} (h : NM x) : P0 (headP x way) := by
  show P0 ([wPc COPYw COPYw] ++ ([namePc x way] ++ (if way / 2 % 2 = 0 then [wPc OFw OFw, wPc [76, 73, 66] [76, 73, 66]] else [])))
  refine (P0.one copy_pc (by decide)).app ((namePc_ok way h).app ?_)
  split
  · exact (WOK.p0 (by decide)).app (WOK.p0 (by decide))
  · intro p hp; cases hp
theorem headP_content {x : List Nat} {way : Nat} : content (headP x way) = headS x way := by
  unfold headP headS namePc content
  split <;> split <;> simp [joinL, litPc]
theorem headP_toks {x : List Nat} {way : Nat} (h : NM x) : ∃ t o, toks (headP x way) = wt COPYw :: t :: o ∧ NameT t x ∧ OfT o ∧ o.length ≤ 2 := by
  unfold headP namePc
  split <;> split
  · exact ⟨_, _, rfl, .word h.up.uw, .yes, by decide⟩
  · exact ⟨_, _, rfl, .word h.up.uw, .no, by decide⟩
  · exact ⟨_, _, rfl, .lit h.up.uw, .yes, by decide⟩
  · exact ⟨_, _, rfl, .lit h.up.uw, .no, by decide⟩
theorem toks_append {a b : Pcs} : toks (a ++ b) = toks a ++ toks b := by simp [toks]
theorem rowsP_text {t : LT} (hg : TG t) : lineS t = rowsOf ((rowsP t).map rowP) := by
  cases t with
  | word w => simp [lineS, spelled, rowsP, rowsOf, rowP, content, joinL]
  | copy x ps way =>
    obtain ⟨hx, hz, hps, hw⟩ := hg
    match ps, hz, hps with
    | [], _, _ =>
      have e : content (headP x way ++ [dotPc]) = headS x way ++ [32] ++ [46] := by rw [content_append headP_ne (by simp), headP_content]; rfl
      simp only [lineS, spelled, rowsP, rowsOf, rowP, List.map_cons, List.map_nil, List.flatMap_cons, List.flatMap_nil, e]
      simp
    | [p], _, h =>
      have e : content (headP x way ++ [replPc]) = headS x way ++ [32] ++ REPLw := by rw [content_append headP_ne (by simp), headP_content]; rfl
      have h1 := pairP_content (b := decide (3 < way)) (h p (.head _))
      have e2 : content (pairP (decide (3 < way)) p ++ [dotPc]) = content (pairP (decide (3 < way)) p) ++ [32] ++ [46] := by rw [content_append (by simp [pairP]) (by simp)]; rfl
      simp only [lineS, spelled, rowsP, rowsOf, rowP, List.map_cons, List.map_nil, List.flatMap_cons, List.flatMap_nil, e, e2, ← h1]
      simp
    | [p, q], _, h =>
      have e : content (headP x way ++ [replPc]) = headS x way ++ [32] ++ REPLw := by rw [content_append headP_ne (by simp), headP_content]; rfl
      have h1 := pairP_content (b := decide (3 < way)) (h p (.head _))
      have h2 := pairP_content (b := decide (3 < way)) (h q (.tail _ (.head _)))
      have e2 : content (pairP (decide (3 < way)) q ++ [dotPc]) = content (pairP (decide (3 < way)) q) ++ [32] ++ [46] := by rw [content_append (by simp [pairP]) (by simp)]; rfl
      simp only [lineS, spelled, rowsP, rowsOf, rowP, List.map_cons, List.map_nil, List.flatMap_cons, List.flatMap_nil, e, e2, ← h1, ← h2]
      simp
theorem rowsP_good {t : LT} (hg : TG t) : (∀ ps ∈ rowsP t, RowG ps) ∧ (rowsP t).length ≤ 3 := by
  cases t with
  | word w =>
    have hw : WOK (if w = [66] then [98] else w) w := by
      split
      · subst w; exact .low
      · exact WOK.abcd w hg
    refine ⟨fun ps hp => ?_, Nat.le_of_ble_eq_true rfl⟩
    cases List.mem_singleton.mp hp
    have hl : ∃ l c, (if w = [66] then [98] else w) = l ++ [c] ∧ c ≠ 32 := by
      generalize (if w = [66] then [98] else w) = s at hw
      obtain ⟨c, hc⟩ : ∃ c, s.getLast? = some c := by
        cases hq : s.getLast? with
        | none => exact absurd (List.getLast?_eq_none_iff.mp hq) hw.1
        | some c => exact ⟨c, rfl⟩
      obtain ⟨l, rfl⟩ := List.getLast?_eq_some_iff.mp hc
      exact ⟨l, c, rfl, fun z => hw.2.2.2.2.2.2.2.2.1 (by rw [hc, z])⟩
    exact .plain hw.p0 (by have := hw.2.2.2.2.1; simp [content, joinL]; lia) (by simp [toks]) hl
  | copy x ps way =>
    obtain ⟨hx, hz, hps, hw⟩ := hg
    have hl := headS_len (x := x) (way := way) (by obtain ⟨c, k, _, _, rfl⟩ := hx; rfl)
    rw [← headP_content] at hl
    have ht : (toks (headP x way)).length ≤ 4 := by
      obtain ⟨t, o, e, _, _, h⟩ := headP_toks (way := way) hx
      rw [e]; simp; lia
    have g1 : RowG (headP x way ++ [replPc]) := by
      refine .plain ((headP_p0 hx).app (WOK.p0 (by decide))) ?_ (by rw [toks_append]; simp [toks] at ht ⊢; lia) ?_
      · rw [content_append headP_ne (by simp)]; simp [content, joinL] at hl ⊢; lia
      · rw [content_append headP_ne (by simp)]
        exact ⟨content (headP x way) ++ [32, 82, 69, 80, 76, 65, 67, 73, 78], 71, by simp [content, joinL], by decide⟩
    have gd : ∀ p, PG p → RowG (pairP (decide (3 < way)) p ++ [dotPc]) := fun p h =>
      .dot (pairP_p0 h) (by simp [pairP]) (by have := pairP_len (b := decide (3 < way)) h; lia) (by have := (pairP_toks (b := decide (3 < way)) h).2; lia)
    match ps, hz, hps with
    | [], _, _ =>
      refine ⟨fun ps hp => ?_, Nat.le_of_ble_eq_true rfl⟩
      cases List.mem_singleton.mp hp
      exact .dot (headP_p0 hx) headP_ne (by lia) (by lia)
    | [p], _, h =>
      refine ⟨fun ps hp => ?_, Nat.le_of_ble_eq_true rfl⟩
      rcases List.mem_cons.mp hp with rfl | hp
      · exact g1
      · cases List.mem_singleton.mp hp; exact gd p (h p (.head _))
    | [p, q], _, h =>
      refine ⟨fun ps hp => ?_, Nat.le_of_ble_eq_true rfl⟩
      rcases List.mem_cons.mp hp with rfl | hp
      · exact g1
      rcases List.mem_cons.mp hp with rfl | hp
      · have hp' := h p (.head _)
        exact .plain (pairP_p0 hp') (by have := pairP_len (b := decide (3 < way)) hp'; lia) (by have := (pairP_toks (b := decide (3 < way)) hp').2; lia) (pairP_last hp')
      · cases List.mem_singleton.mp hp; exact gd q (h q (.tail _ (.head _)))
theorem rowsP_toks {t : LT} (hg : TG t) {ts th} (h : TextT ts th) : TextT ((rowsP t).flatMap toks ++ ts) (t.th :: th) := by
  cases t with
  | word w =>
    have hw := WOK.abcd w hg
    exact .word hw.uw hw.2.2.2.2.2.2.2.2.2.2.2 h
  | copy x ps way =>
    obtain ⟨hx, hz, hps, hw⟩ := hg
    obtain ⟨t, o, e, hn, ho, _⟩ := headP_toks (way := way) hx
    have e : (headP x way).flatMap (fun x => x.snd) = wt COPYw :: t :: o := e
    match ps, hz, hps with
    | [], _, _ =>
      have := TextT.copy (.mk hn ho .plain) h
      simpa [rowsP, toks_append, e, toks, LT.th] using this
    | [p], _, hp =>
      have a := (pairP_toks (b := decide (3 < way)) (hp p (.head _))).1
      have := TextT.copy (.mk hn ho (.repl a .nil (by decide))) h
      simpa [rowsP, toks_append, e, toks, LT.th] using this
    | [p, q], _, hp =>
      have a := (pairP_toks (b := decide (3 < way)) (hp p (.head _))).1
      have b := (pairP_toks (b := decide (3 < way)) (hp q (.tail _ (.head _)))).1
      have := TextT.copy (.mk hn ho (.repl a (.cons b .nil) (by simp))) h
      simpa [rowsP, toks_append, e, toks, LT.th] using this
theorem textS_ok {ts : List LT} (hg : ∀ t ∈ ts, TG t) (hz : ts.length ≤ 4) : TextS (textS ts) (ts.map LT.th) := by
  have key : ∀ ts : List LT, (∀ t ∈ ts, TG t) → textS ts = rowsOf ((ts.flatMap rowsP).map rowP) ∧ (∀ ps ∈ ts.flatMap rowsP, RowG ps) ∧ (ts.flatMap rowsP).length ≤ 3 * ts.length ∧ TextT ((ts.flatMap rowsP).flatMap toks) (ts.map LT.th) := by
    intro ts
    induction ts with
    | nil => exact fun _ => ⟨rfl, (by intro _ h; cases h), Nat.le_refl _, .nil⟩
    | cons t ts ih =>
      intro hg
      obtain ⟨h1, h2, h3, h4⟩ := ih fun x hx => hg x (.tail _ hx)
      have ht := hg t (.head _)
      obtain ⟨g1, g2⟩ := rowsP_good ht
      refine ⟨?_, fun ps hp => ?_, ?_, ?_⟩
      · rw [List.flatMap_cons, List.map_append, rowsOf_append, ← rowsP_text ht, ← h1]; rfl
      · rw [List.flatMap_cons] at hp
        exact (List.mem_append.mp hp).elim (g1 ps) (h2 ps)
      · rw [List.flatMap_cons, List.length_append, List.length_cons]; lia
      · rw [List.flatMap_cons, List.flatMap_append]; exact rowsP_toks ht h4
  obtain ⟨h1, h2, h3, h4⟩ := key ts hg
  rw [h1]
  exact textS_of h2 (by lia) h4
end W38
section W39
open PySem PySem.W PyProof.Rows
set_option maxHeartbeats 2000000
/-! sizes and words of what is due -/
theorem exch_good {ps : List Wp} {ws out : List (List Nat)} (h : Exch ps ws out) (hp : ∀ p ∈ ps, PG p) (hw : ∀ w ∈ ws, w ∈ ABCD) : out.length ≤ 2 * ws.length ∧ ∀ w ∈ out, w ∈ ABCD := by
  induction h with
  | nil => exact ⟨Nat.le_refl _, hw⟩
  | keep _ _ ih =>
    obtain ⟨h1, h2⟩ := ih fun w h => hw w (.tail _ h)
    refine ⟨by simp; lia, fun w h => ?_⟩
    rcases List.mem_cons.mp h with rfl | h
    · exact hw _ (.head _)
    · exact h2 w h
  | @swap w ws out p hf hne _ ih =>
    obtain ⟨h1, h2⟩ := ih fun w h => hw w (List.mem_of_mem_drop h)
    have hg := hp p (List.mem_of_find?_eq_some hf)
    have : 1 ≤ p.1.length := List.length_pos_iff.mpr hne
    have h3 := hg.2.2.1
    refine ⟨by simp only [List.length_append, List.length_drop, List.length_cons] at h1 ⊢; lia, fun w h => (List.mem_append.mp h).elim (hg.2.2.2.2 w) (h2 w)⟩
theorem dueT_good {f : List Nat → Option (List (List Nat))} {K : Nat} (hf : ∀ x us, f x = some us → us.length ≤ K ∧ ∀ w ∈ us, w ∈ ABCD)
    {ts : List LT} {ws} (hg : ∀ t ∈ ts, TG t) (h : dueT f (ts.map LT.th) = some ws) : ws.length ≤ ts.length + cps ts * (2 * K) ∧ ∀ w ∈ ws, w ∈ ABCD := by
  induction ts generalizing ws with
  | nil => cases h; exact ⟨Nat.zero_le _, by simp⟩
  | cons t ts ih => cases t with
    | word w =>
      obtain ⟨vs, h1, rfl⟩ := Option.map_eq_some_iff.mp (show (dueT f (ts.map LT.th)).map (w :: ·) = some ws from h)
      obtain ⟨a, b⟩ := ih (fun t ht => hg t (.tail _ ht)) h1
      refine ⟨by simp [cps, LT.cp] at a ⊢; lia, fun v hv => ?_⟩
      rcases List.mem_cons.mp hv with rfl | hv
      · exact hg _ (.head _)
      · exact b v hv
    | copy x ps way =>
      cases hx : f x with
      | none => simp [LT.th, dueT, hx] at h
      | some us =>
        have h : (dueT f (ts.map LT.th)).map (exch ps us ++ ·) = some ws := by rw [← h]; simp [LT.th, dueT, hx]
        obtain ⟨vs, h1, rfl⟩ := Option.map_eq_some_iff.mp h
        obtain ⟨a, b⟩ := ih (fun t ht => hg t (.tail _ ht)) h1
        obtain ⟨u1, u2⟩ := hf x us hx
        have hps := (hg _ (.head _)).2.2.1
        obtain ⟨c, d⟩ := exch_good (exch_exch (fun p hp => (hps p hp).1) us) hps u2
        refine ⟨?_, fun v hv => (List.mem_append.mp hv).elim (d v) (b v)⟩
        have e : cps (.copy x ps way :: ts) = 1 + cps ts := by simp [cps, LT.cp]
        rw [e, Nat.add_mul, List.length_append, List.length_cons]
        lia
def BB : Nat → Nat
  | 0 => 0
  | n + 1 => 4 + 4 * BB n
def LG (lt : LLib) : Prop := ∀ q ∈ lt, q.2.length ≤ 4 ∧ cps q.2 ≤ 2 ∧ ∀ t ∈ q.2, TG t
theorem libL_mem {lt : LLib} {x : List Nat} {th : List Th} (h : (libL lt).lookup x = some th) : ∃ q ∈ lt, th = q.2.map LT.th := by
  induction lt with
  | nil => cases h
  | cons q lt ih =>
    have h : ((q.1, q.2.map LT.th) :: libL lt).lookup x = some th := h
    rw [List.lookup_cons] at h
    cases z : x == q.1 with
    | true => rw [z] at h; cases h; exact ⟨q, .head _, rfl⟩
    | false => rw [z] at h; obtain ⟨q', a, b⟩ := ih h; exact ⟨q', .tail _ a, b⟩
theorem mul_le_two {a K : Nat} (h : a ≤ 2) : a * (2 * K) ≤ 4 * K := by
  have := Nat.mul_le_mul_right (2 * K) h
  lia
theorem dueX_good {lt : LLib} (g : LG lt) (n : Nat) : ∀ (names : List (List Nat)) (x : List Nat) (us : List (List Nat)), dueX (libL lt) n names x = some us → us.length ≤ BB n ∧ ∀ w ∈ us, w ∈ ABCD := by
  induction n with
  | zero => exact fun names x us h => nomatch h
  | succ n ih =>
    intro names x us h
    cases hc : names.contains x with
    | true => rw [dueX_in hc] at h; cases h
    | false =>
      rw [dueX_out hc] at h
      cases hl : (libL lt).lookup x with
      | none => rw [hl] at h; cases h
      | some th =>
        rw [hl] at h
        obtain ⟨q, hq, rfl⟩ := libL_mem hl
        obtain ⟨q1, q2, q3⟩ := g q hq
        obtain ⟨a, b⟩ := dueT_good (fun x us => ih (names ++ [_]) x us) q3 h
        exact ⟨Nat.le_trans a (Nat.add_le_add q1 (mul_le_two q2)), b⟩
theorem BB_mono : ∀ {n : Nat}, n ≤ 5 → BB n ≤ 1364 := by decide
theorem cps_take (ts : List LT) (k : Nat) : cps (ts.take k) ≤ cps ts := by
  have h : cps ts = cps (ts.take k) + cps (ts.drop k) := by
    unfold cps; rw [← List.sum_append_nat, ← List.map_append, List.take_append_drop]
  lia
theorem sm_good {lt : LLib} (g : LG lt) {n : Nat} (hn : n ≤ 5) {names : List (List Nat)} {ts : List LT} (hz : ts.length ≤ 4) (hc : cps ts ≤ 2) (hg : ∀ t ∈ ts, TG t) : Sm (dueX (libL lt) n names) (ts.map LT.th) := by
  intro k ws h
  rw [← List.map_take] at h
  obtain ⟨a, _⟩ := dueT_good (dueX_good g n names) (fun t ht => hg t (List.mem_of_mem_take ht)) h
  have h1 := cps_take ts k
  have h2 := BB_mono hn
  have h3 := mul_le_two (a := cps (ts.take k)) (K := BB n) (by lia)
  have h4 : (ts.take k).length ≤ 4 := by rw [List.length_take]; lia
  lia
theorem no_replace {lt : LLib} (g : LG lt) {ts : List LT} (hg : ∀ t ∈ ts, TG t) : ∀ ws, dueT (dueX (libL lt) 5 []) (ts.map LT.th) = some ws → ∀ x ∈ ws, x ≠ REPLACEw := fun ws h x hx z => by
  have := (dueT_good (dueX_good g 5 []) hg h).2 x hx
  rw [z] at this
  revert this; decide
/-- the library as the program sees it -/
def lbOf (lt : LLib) : LibT := lt.map fun q => (q.1, textS q.2, q.2.map LT.th)
theorem lbOf_T (lt : LLib) : libT (lbOf lt) = libL lt := by simp [libT, lbOf, libL]
theorem lbOf_S (lt : LLib) : libS (lbOf lt) = lt.map fun q => (q.1, textS q.2) := by simp [libS, lbOf]
section
variable {G : Ctx} {fs : List Env} {r : Nat} {H : AH} {Q : V → AH → Prop} {E : AH → Prop} {d : Addr}
theorem c_heard (hK : GK G) (hE : G.C = .ref 84) {lt : LLib} (g : LG lt) (hr : 47 ≤ r) {ts : List LT} (hz : ts.length ≤ 4) (hc : cps ts ≤ 2) (hg : ∀ t ∈ ts, TG t) (hlib : LibAt H d (lt.map fun q => (q.1, textS q.2)))
    (h1 : ∀ ws, dueT (dueX (libL lt) 5 []) (ts.map LT.th) = some ws → ∀ D H', Ext H H' → H D = none → H' D = some (.list (ws.map .str)) → Q (.ref D) H')
    (h2 : dueT (dueX (libL lt) 5 []) (ts.map LT.th) = none → ∀ H', Ext H H' → Q .none H') : CC G fs r (.ref 646) [.str (textS ts), .ref d] H Q E := by
  refine c_law_heard hK hE (lb := lbOf lt) (fun q hq => ?_) (fun n names q hn hq => ?_) hr (textS_ok hg hz) (by rw [lbOf_S]; exact hlib) ?_ ?_ ?_ ?_
  · obtain ⟨p, hp, rfl⟩ := List.mem_map.mp hq
    exact textS_ok (g p hp).2.2 (g p hp).1
  · obtain ⟨p, hp, rfl⟩ := List.mem_map.mp hq
    rw [lbOf_T]
    exact sm_good g hn (g p hp).1 (g p hp).2.1 (g p hp).2.2
  all_goals rw [lbOf_T]
  · exact sm_good g (Nat.le_refl _) hz hc hg
  · exact no_replace g hg
  · exact h1
  · exact h2
theorem c_due (hK : GK G) {H0 : AH} {lt : LLib} (g : LG lt) (hr : 15 ≤ r) {a ln : Addr} {vs : List V} {ts : List LT} (hz : ts.length ≤ 4) (hc : cps ts ≤ 2) (hg : ∀ t ∈ ts, TG t) (ha : H a = some (.list vs)) (hT : L2 (LTh H0 H) vs ts) (hlib : LawLib H0 H d lt) (hln : H ln = some (.list []))
    (h1 : ∀ ws, dueT (dueX (libL lt) 5 []) (ts.map LT.th) = some ws → ∀ D H', Ext H H' → H D = none → H' D = some (.list (ws.map .str)) → Q (.ref D) H')
    (h2 : dueT (dueX (libL lt) 5 []) (ts.map LT.th) = none → ∀ H', Ext H H' → Q .none H') : CC G fs r (.ref 641) [.ref a, .ref d, .ref ln] H Q E :=
  c_law_due hK (fun q hq => (g q hq).2.2) (fun n names q hn hq => sm_good g hn (g q hq).1 (g q hq).2.1 (g q hq).2.2) d 5 [] rfl (by lia) ha hT hg hlib hln (sm_good g (Nat.le_refl _) hz hc hg) h1 h2
end
end W39
section W40
open PySem PySem.W PyProof.Rows
set_option maxHeartbeats 2000000

section
variable {G : Ctx} {fs : List Env} {r : Nat} {env : Env} {m : Loc} {H : AH} {Q : V → AH → Prop} {E : AH → Prop}
theorem Ev_stand {t : Sem Value} {pos : Pos} (h : Ev G fs r env m t H Q E) : Ev G fs r env m (do let x ← t; standAt pos; pure x) H Q E := fun A s a b c =>
  wpAny_bind (wpAny_mono (h A s a b c) (fun _ _ q => wpAny_bind (wpAny_standAt (wpAny_pure q))) fun _ _ z => z)
abbrev KD6 (Q : V → AH → Prop) (D : Addr) (x1 y1 x2 y2 x3 : V) : V → AH → Prop := fun y3 H' => H' D = some (.dict [] 0) ∧ ∃ a b c, x1 = .str a ∧ x2 = .str b ∧ x3 = .str c ∧ [a, b, c].Nodup ∧ ∀ ep, Q (.ref D) (upd H' D (.dict [(a, y1), (b, y2), (c, y3)] ep))
abbrev KDv3 (G : Ctx) (fs : List Env) (r : Nat) (env : Env) (m : Loc) (v3 : Expr) (Q : V → AH → Prop) (E : AH → Prop) (D : Addr) (x1 y1 x2 y2 : V) : V → AH → Prop := fun x3 H => Ev G fs r env m (eval v3 env) H (KD6 Q D x1 y1 x2 y2 x3) E
abbrev KDk3 (G : Ctx) (fs : List Env) (r : Nat) (env : Env) (m : Loc) (k3 v3 : Expr) (Q : V → AH → Prop) (E : AH → Prop) (D : Addr) (x1 y1 x2 : V) : V → AH → Prop := fun y2 H => Ev G fs r env m (eval k3 env) H (KDv3 G fs r env m v3 Q E D x1 y1 x2 y2) E
abbrev KDv2 (G : Ctx) (fs : List Env) (r : Nat) (env : Env) (m : Loc) (v2 k3 v3 : Expr) (Q : V → AH → Prop) (E : AH → Prop) (D : Addr) (x1 y1 : V) : V → AH → Prop := fun x2 H => Ev G fs r env m (eval v2 env) H (KDk3 G fs r env m k3 v3 Q E D x1 y1 x2) E
abbrev KDk2 (G : Ctx) (fs : List Env) (r : Nat) (env : Env) (m : Loc) (k2 v2 k3 v3 : Expr) (Q : V → AH → Prop) (E : AH → Prop) (D : Addr) (x1 : V) : V → AH → Prop := fun y1 H => Ev G fs r env m (eval k2 env) H (KDv2 G fs r env m v2 k3 v3 Q E D x1 y1) E
abbrev KDv1 (G : Ctx) (fs : List Env) (r : Nat) (env : Env) (m : Loc) (v1 k2 v2 k3 v3 : Expr) (Q : V → AH → Prop) (E : AH → Prop) (D : Addr) : V → AH → Prop := fun x1 H => Ev G fs r env m (eval v1 env) H (KDk2 G fs r env m k2 v2 k3 v3 Q E D x1) E
theorem Ev_Dict3 {k1 k2 k3 v1 v2 v3 : Expr} {pos : Pos} (h : ∀ D, H D = none → (D == sysModules) = false → Ev G fs r env m (eval k1 env) (upd H D (.dict [] 0)) (KDv1 G fs r env m v1 k2 v2 k3 v3 Q E D) E) :
    Ev G fs r env m (eval (.Dict [some k1, some k2, some k3] [v1, v2, v3] pos) env) H Q E := by
  refine Ev_Dict (pairs := [(eval k1 env, do let x ← eval v1 env; standAt pos; pure x), (eval k2 env, do let x ← eval v2 env; standAt pos; pure x), (eval k3 env, do let x ← eval v3 env; standAt pos; pure x)]) rfl (by simp) (by simp) fun D hD hm => ?_
  refine (h D hD hm).mono (fun x1 H1 h => Ev_stand (h.mono (fun y1 H2 h => h.mono (fun x2 H3 h => Ev_stand (h.mono (fun y2 H4 h => h.mono (fun x3 H5 h => Ev_stand (h.mono (fun y3 H6 h => ?_) fun _ z => z)) fun _ z => z) fun _ z => z)) fun _ z => z) fun _ z => z)) fun _ z => z
  obtain ⟨q1, a, b, c, rfl, rfl, rfl, nd, q⟩ := h
  exact ⟨q1, [(a, y1), (b, y2), (c, y3)], rfl, nd, q⟩
theorem KLst_new {vs : List V} (hz : vs.length ≤ 1000) (h : ∀ l H', Ext H H' → H l = none → H' l = some (.list vs) → Q (.ref l) H') : KLst Q vs H :=
  ⟨by rw [sz24]; lia, fun l hl => h l _ (Ext.upd hl) hl upd_eq⟩
theorem KTup_mk {vs : List V} (hz : vs.length ≤ 1000) (h : Q (.tup vs) H) : KTup Q vs H := ⟨by rw [sz24]; lia, h⟩
end
theorem str10 : ∀ k : Nat, k < 10 → (toString (k : Int)).toList.map Char.toNat = [48 + k] := by decide +kernel
theorem law_keys {H0 H : AH} {kvs : List (List Nat × V)} {lt : LLib} (l : L2 (LawAt H0 H) kvs lt) : kvs.map (·.1) = lt.map (·.1) := by
  induction l with
  | nil => rfl
  | cons h t ih => rw [List.map_cons, List.map_cons, h.1, ih]
def RowW (H0 H : AH) (v : V) (q : List LT × Option (List (List Nat))) : Prop := ∃ a vs dv, v = .tup [.ref a, dv] ∧ H0 a = none ∧ H a = some (.list vs) ∧ L2 (LTh H0 H) vs q.1 ∧
  match q.2 with
  | none => dv = .none
  | some ws => ∃ o, dv = .ref o ∧ H0 o = none ∧ H o = some (.list (ws.map .str))
theorem RowW.news {H0 H H' : AH} {v q} (h : RowW H0 H v q) (e : News H0 H H') : RowW H0 H' v q := by
  refine byc fun hnn => ?_
  obtain ⟨a, vs, dv, h1, h2, h3, h4, h5⟩ := h
  refine hnn ?_; clear hnn
  refine ⟨a, vs, dv, h1, h2, e _ _ h2 h3, h4.mono fun _ _ q => q.news e, ?_⟩
  split
  · rename_i z; rw [z] at h5; exact h5
  · rename_i ws z
    rw [z] at h5
    refine byc fun hnn => ?_
    obtain ⟨o, o1, o2, o3⟩ := h5
    refine hnn ?_; clear hnn
    exact ⟨o, o1, o2, e _ _ o2 o3⟩
/-- the texts that the law writes out -/
def WL3 : LLib := [([84, 48], [.word [65], .copy [84, 49] [([[66]], [[67]])] 0]), ([84, 49], [.word [66], .word [65]]), ([84, 50], [.copy [84, 50] [] 0])]
def WU (n : Nat) : List Nat × List LT := ([85, 48 + n], if n < 5 then [.copy [85, 48 + (n + 1)] [] 0] else [.word [65]])
def WL : LLib := WL3 ++ (List.range 6).map WU
def WR : List (List LT × Option (List (List Nat))) := [([.copy [84, 48] [([[65]], [[68]]), ([[67]], [[66], [67]])] 0], some [[68], [66], [67], [68]]), ([.copy [84, 50] [] 1], none), ([.copy [84, 57] [] 2], none), ([.copy [85, 49] [] 0], some [[65]]), ([.copy [85, 48] [] 0], none)]
theorem TG_copy {c k way : Nat} {ps : List Wp} (hc : c = 84 ∨ c = 85) (hk : k < 10) (hz : ps.length ≤ 2) (hp : ∀ p ∈ ps, PG p) (hw : way < 8) : TG (.copy [c, 48 + k] ps way) := ⟨⟨c, k, hc, hk, rfl⟩, hz, hp, hw⟩
theorem one_copy {x : List Nat} {way : Nat} (h : TG (.copy x [] way)) : ([LT.copy x [] way]).length ≤ 4 ∧ cps [LT.copy x [] way] ≤ 2 ∧ ∀ t ∈ [LT.copy x [] way], TG t := ⟨Nat.le_of_ble_eq_true rfl, by simp [cps, LT.cp], fun t ht => List.mem_singleton.mp ht ▸ h⟩
theorem word_TG {k : Nat} (h : [k] ∈ ABCD) : TG (.word [k]) := h
theorem WR_good : ∀ q ∈ WR, q.1.length ≤ 4 ∧ cps q.1 ≤ 2 ∧ ∀ t ∈ q.1, TG t := by
  intro q hq
  rcases List.mem_cons.mp hq with rfl | hq
  · exact ⟨by decide, by simp [cps, LT.cp], fun t ht => List.mem_singleton.mp ht ▸ TG_copy (k := 0) (.inl rfl) (by decide) (by decide) (by simp only [PG]; decide) (by decide)⟩
  rcases List.mem_cons.mp hq with rfl | hq
  · exact one_copy (TG_copy (k := 2) (.inl rfl) (by decide) (by decide) nofun (by decide))
  rcases List.mem_cons.mp hq with rfl | hq
  · exact one_copy (TG_copy (k := 9) (.inl rfl) (by decide) (by decide) nofun (by decide))
  rcases List.mem_cons.mp hq with rfl | hq
  · exact one_copy (TG_copy (k := 1) (.inr rfl) (by decide) (by decide) nofun (by decide))
  rcases List.mem_cons.mp hq with rfl | hq
  · exact one_copy (TG_copy (k := 0) (.inr rfl) (by decide) (by decide) nofun (by decide))
  cases hq
theorem WL_good : LG WL := by
  intro q hq
  rcases List.mem_append.mp hq with hq | hq
  · rcases List.mem_cons.mp hq with rfl | hq
    · refine ⟨by decide, by simp [cps, LT.cp], fun t ht => ?_⟩
      rcases List.mem_cons.mp ht with rfl | ht
      · exact word_TG (by decide)
      · exact List.mem_singleton.mp ht ▸ TG_copy (k := 1) (.inl rfl) (by decide) (by decide) (by simp only [PG]; decide) (by decide)
    rcases List.mem_cons.mp hq with rfl | hq
    · refine ⟨by decide, by simp [cps, LT.cp], fun t ht => ?_⟩
      rcases List.mem_cons.mp ht with rfl | ht
      · exact word_TG (by decide)
      · exact List.mem_singleton.mp ht ▸ word_TG (by decide)
    · cases List.mem_singleton.mp hq
      exact one_copy (TG_copy (k := 2) (.inl rfl) (by decide) (by decide) nofun (by decide))
  · obtain ⟨i, hi, rfl⟩ := List.mem_map.mp hq
    have hi := List.mem_range.mp hi
    unfold WU
    by_cases z : i < 5
    · rw [if_pos z]
      exact one_copy (TG_copy (.inr rfl) (by lia) (by decide) nofun (by decide))
    · rw [if_neg z]
      exact ⟨Nat.le_of_ble_eq_true rfl, by simp [cps, LT.cp], fun t ht => List.mem_singleton.mp ht ▸ word_TG (by decide)⟩
theorem WL_keys : (WL.map (·.1)).Nodup ∧ ∀ q ∈ WL, UW q.1 := by
  refine ⟨by decide, fun q hq => ?_⟩
  have h1 : ∀ q ∈ WL, q.1 ∈ names20 := by decide
  exact (WOK.names _ (h1 q hq)).2.uw
theorem lookup_nodup {kvs : List (List Nat × V)} (n : (kvs.map (·.1)).Nodup) : ∀ {i : Nat} {kv : List Nat × V}, kvs[i]? = some kv → kvs.lookup kv.1 = some kv.2 := by
  induction kvs with
  | nil => intro i kv h; cases h
  | cons a kvs ih =>
    intro i kv h
    rw [List.map_cons, List.nodup_cons] at n
    rw [List.lookup_cons]
    cases i with
    | zero => cases h; simp
    | succ i =>
      have : (kv.1 == a.1) = false := by
        rw [beq_eq_false_iff_ne]
        intro z
        exact n.1 (z ▸ List.mem_map.mpr ⟨kv, List.mem_of_getElem? h, rfl⟩)
      rw [this]
      exact ih n.2 h
theorem libAt_of {H : AH} {d : Addr} {lt : LLib} {ep : Nat} (h : H d = some (.dict (lt.map fun q => (q.1, V.str (textS q.2))) ep)) (m : (d == sysModules) = false) (z : lt.length < 64) (u : ∀ q ∈ lt, UW q.1) : LibAt H d (lt.map fun q => (q.1, textS q.2)) where
  h := ⟨ep, by rw [List.map_map]; exact h⟩
  m := m
  z := by rw [List.length_map]; exact z
  u := fun p hp => by
    obtain ⟨q, hq, rfl⟩ := List.mem_map.mp hp
    exact u q hq
theorem WR_due : ∀ q ∈ WR, dueT (dueX (libL WL) 5 []) (q.1.map LT.th) = q.2 := by decide +kernel
section
variable {G : Ctx} {fs : List Env} {r : Nat} {H : AH} {Q : V → AH → Prop} {E : AH → Prop} {d : Addr}
theorem c_law_written (hK : GK G) (hE : G.C = .ref 84) (hr : 60 ≤ r) (h : ∀ H', Ext H H' → Q (.bool true) H') : CC G fs r (.ref 651) [] H Q E := by
  refine FC (env := env651) hK (lq hr rfl) rfl rfl rfl rfl rfl (ps := []) (fun cs hl => by obtain rfl := List.length_eq_zero_iff.mp hl; rfl) rfl (by intro p hp; cases hp) (by intro n p hp; rcases List.mem_cons.mp hp with rfl | hp; exact rfl; cases hp) rfl rfl rfl (fun _ => rfl) fun hC L hL => ?_
  simp only [locs]
  repeat wtm_at "w2"
  with_reducible refine Ev_Dict3 ?_
  intro D hD hm
  have e0 := Ext.upd (o := .dict [] 0) hD
  have k0 : upd H D (.dict [] 0) D = some (.dict [] 0) := upd_eq
  generalize upd H D (.dict [] 0) = H0 at e0 k0
  (repeat wtm_at "w2"); wtm_at "nl"
  intro l1 H1 e1 n1 k1
  (repeat wtm_at "w2"); wtm_at "nl"
  intro l2 H2 e2 n2 k2
  (repeat wtm_at "w2"); wtm_at "nl"
  intro l3 H3 e3 n3 k3
  (repeat wtm_at "w2"); wtm_at "nl"
  intro l4 H4 e4 n4 k4
  (repeat wtm_at "w2"); wtm_at "nl"
  intro l5 H5 e5 n5 k5
  (repeat wtm_at "w2"); wtm_at "nl"
  intro l6 H6 e6 n6 k6
  (repeat wtm_at "w2"); wtm_at "nl"
  intro l7 H7 e7 n7 k7
  have x2 : Ext H0 H2 := by wtm_at "x"
  have x3 : Ext H0 H3 := by wtm_at "x"
  have x4 : Ext H0 H4 := by wtm_at "x"
  have x5 : Ext H0 H5 := by wtm_at "x"
  have x6 : Ext H0 H6 := by wtm_at "x"
  have x7 : Ext H0 H7 := by wtm_at "x"
  have q2 := off_of e1 n2
  have q3 := off_of x2 n3
  have q4 := off_of x3 n4
  have q5 := off_of x4 n5
  have q6 := off_of x5 n6
  have q7 := off_of x6 n7
  refine ⟨x7 _ _ k0, _, _, _, rfl, rfl, rfl, by decide, fun ep => ?_⟩
  have nw : ∀ {H' : AH} {o : O}, Ext H' H7 → News H0 H' (upd H7 D o) := fun e => e.news.up (by rw [k0]; simp)
  have lib3 : LawLib H0 (upd H7 D (.dict [([84, 48], V.ref l4), ([84, 49], V.ref l5), ([84, 50], V.ref l7)] ep)) D WL3 := by
    refine ⟨_, _, upd_eq, hm, .cons ⟨rfl, l4, _, rfl, q4, nw (by wtm_at "x") _ _ q4 k4, .cons rfl (.cons ⟨l3, _, rfl, q3, nw (by wtm_at "x") _ _ q3 k3, .cons ⟨l1, l2, rfl, n1, q2, nw (by wtm_at "x") _ _ n1 k1, nw (by wtm_at "x") _ _ q2 k2⟩ .nil⟩ .nil)⟩
      (.cons ⟨rfl, l5, _, rfl, q5, nw (by wtm_at "x") _ _ q5 k5, .cons rfl (.cons rfl .nil)⟩ (.cons ⟨rfl, l7, _, rfl, q7, nw (by wtm_at "x") _ _ q7 k7, .cons ⟨l6, _, rfl, q6, nw (by wtm_at "x") _ _ q6 k6, .nil⟩ .nil⟩ .nil))⟩
  have f8 : ExtB D H (upd H7 D (.dict [([84, 48], V.ref l4), ([84, 49], V.ref l5), ([84, 50], V.ref l7)] ep)) := (e0.trans x7).b.trans ExtB.upd
  have d8 : ∀ a, upd H7 D (.dict [([84, 48], V.ref l4), ([84, 49], V.ref l5), ([84, 50], V.ref l7)] ep) a = none → H0 a = none := fun a ha => off_of x7 (none_up ha)
  generalize upd H7 D (.dict [([84, 48], V.ref l4), ([84, 49], V.ref l5), ([84, 50], V.ref l7)] ep) = H8 at lib3 f8 d8
  clear nw x2 x3 x4 x5 x6 k1 k2 k3 k4 k5 k6 k7 q2 q3 q4 q5 q6 q7 n1 n2 n3 n4 n5 n6 n7 e1 e2 e3 e4 e5 e6 e7 x7
  clear H1 H2 H3 H4 H5 H6 H7
  (repeat wtm_at "w2"); wtm_at "nl"
  intro p1 A1 e1 n1 k1
  (repeat wtm_at "w2"); wtm_at "nl"
  intro p2 A2 e2 n2 k2
  (repeat wtm_at "w2"); wtm_at "nl"
  intro p3 A3 e3 n3 k3
  (repeat wtm_at "w2"); wtm_at "nl"
  intro p4 A4 e4 n4 k4
  (repeat wtm_at "w2"); wtm_at "nl"
  intro p5 A5 e5 n5 k5
  (repeat wtm_at "w2"); wtm_at "nl"
  intro p6 A6 e6 n6 k6
  (repeat wtm_at "w2"); wtm_at "nl"
  intro p7 A7 e7 n7 k7
  (repeat wtm_at "w2"); wtm_at "nl"
  intro p8 A8 e8 n8 k8
  (repeat wtm_at "w2"); wtm_at "nl"
  intro p9 A9 e9 n9 k9
  (repeat wtm_at "w2"); wtm_at "nl"
  intro p10 A10 e10 n10 k10
  (repeat wtm_at "w2"); wtm_at "nl"
  intro p11 A11 e11 n11 k11
  (repeat wtm_at "w2"); wtm_at "nl"
  intro p12 A12 e12 n12 k12
  have x2 : Ext H8 A2 := by wtm_at "x"
  have x3 : Ext H8 A3 := by wtm_at "x"
  have x4 : Ext H8 A4 := by wtm_at "x"
  have x5 : Ext H8 A5 := by wtm_at "x"
  have x6 : Ext H8 A6 := by wtm_at "x"
  have x7 : Ext H8 A7 := by wtm_at "x"
  have x8 : Ext H8 A8 := by wtm_at "x"
  have x9 : Ext H8 A9 := by wtm_at "x"
  have x10 : Ext H8 A10 := by wtm_at "x"
  have x11 : Ext H8 A11 := by wtm_at "x"
  have x12 : Ext H8 A12 := by wtm_at "x"
  have q1 := d8 _ n1
  have q2 := d8 _ (off_of e1 n2)
  have q3 := d8 _ (off_of x2 n3)
  have q4 := d8 _ (off_of x3 n4)
  have q5 := d8 _ (off_of x4 n5)
  have q6 := d8 _ (off_of x5 n6)
  have q7 := d8 _ (off_of x6 n7)
  have q8 := d8 _ (off_of x7 n8)
  have q9 := d8 _ (off_of x8 n9)
  have q10 := d8 _ (off_of x9 n10)
  have q11 := d8 _ (off_of x10 n11)
  have q12 := d8 _ (off_of x11 n12)
  have rows3 : L2 (RowW H0 A12) [V.tup [V.ref p6, V.ref p7], V.tup [V.ref p9, V.none], V.tup [V.ref p11, V.none]] (WR.take 3) :=
    .cons ⟨p6, _, _, rfl, q6, (by wtm_at "x" : Ext A6 A12) _ _ k6, .cons ⟨p5, _, rfl, q5, (by wtm_at "x" : Ext A5 A12) _ _ k5, .cons ⟨p1, p2, rfl, q1, q2, (by wtm_at "x" : Ext A1 A12) _ _ k1, (by wtm_at "x" : Ext A2 A12) _ _ k2⟩
        (.cons ⟨p3, p4, rfl, q3, q4, (by wtm_at "x" : Ext A3 A12) _ _ k3, (by wtm_at "x" : Ext A4 A12) _ _ k4⟩ .nil)⟩ .nil, ⟨p7, rfl, q7, (by wtm_at "x" : Ext A7 A12) _ _ k7⟩⟩
      (.cons ⟨p9, _, _, rfl, q9, (by wtm_at "x" : Ext A9 A12) _ _ k9, .cons ⟨p8, _, rfl, q8, (by wtm_at "x" : Ext A8 A12) _ _ k8, .nil⟩ .nil, rfl⟩
      (.cons ⟨p11, _, _, rfl, q11, (by wtm_at "x" : Ext A11 A12) _ _ k11, .cons ⟨p10, _, rfl, q10, (by wtm_at "x" : Ext A10 A12) _ _ k10, .nil⟩ .nil, rfl⟩ .nil))
  have f12 := f8.trans x12.b
  have d12 : ∀ a, A12 a = none → H0 a = none := fun a ha => d8 a (off_of x12 ha)
  have lib3 := lib3.ext x12
  clear x2 x3 x4 x5 x6 x7 x8 x9 x10 x11 k1 k2 k3 k4 k5 k6 k7 k8 k9 k10 k11 q1 q2 q3 q4 q5 q6 q7 q8 q9 q10 q11 n1 n2 n3 n4 n5 n6 n7 n8 n9 n10 n11 n12 x12 f8 d8 e1 e2 e3 e4 e5 e6 e7 e8 e9 e10 e11 e12
  clear A1 A2 A3 A4 A5 A6 A7 A8 A9 A10 A11
  have nD : ∀ {a : Addr}, H0 a = none → a ≠ D := fun ha z => by rw [z, k0] at ha; cases ha
  have k0n : H0 D ≠ none := by rw [k0]; simp
  repeat wtm_at "w2"
  refine Ex_For (L := L) rfl ?_
  refine Itb_range (nr hK) ?_ rfl rfl rfl rfl rfl
  repeat wtm_at "w2"
  refine ⟨by decide, fun i m' H' => A8 (ExtB D H H') (∀ a, H' a = none → H0 a = none) (m' "library" = some (.ref D)) (m' "rows" = some (.ref p12)) (i ≤ 6) (LawLib H0 H' D (WL3 ++ (List.range i).map WU)) (L2 (RowW H0 H') [V.tup [V.ref p6, V.ref p7], V.tup [V.ref p9, V.none], V.tup [V.ref p11, V.none]] (WR.take 3)) (H' p12 = some (.list [V.tup [V.ref p6, V.ref p7], V.tup [V.ref p9, V.none], V.tup [V.ref p11, V.none]])),
    ⟨⟨f12, d12, put_ne (by decide) put_eq, put_eq, Nat.zero_le _, by simpa using lib3, rows3, k12⟩, fun _ _ _ _ => trivial, fun i x m' H' B hB1 hB2 hB3 hB4 hx ⟨g1, g2, m1, m2, hi, g3, g4, g5⟩ => ?_, fun m' H' ⟨g1, g2, m1, m2, hi, g3, g4, g5⟩ => ?_⟩⟩
  · obtain ⟨hid, rfl⟩ : i < 6 ∧ x = .int (i : Int) := by
      simp only [Src.items, List.getElem?_map] at hx
      refine byc fun hnn => ?_
      obtain ⟨k, h1, h2⟩ := Option.map_eq_some_iff.mp hx
      refine hnn ?_; clear hnn
      obtain ⟨h3, h4⟩ := List.getElem?_eq_some_iff.mp h1
      simp at h3 h4
      subst h4
      exact ⟨h3, h2.symm⟩
    refine byc fun hnn => ?_
    obtain ⟨kvs, ep, hd, hm, hlt⟩ := g3
    refine hnn ?_; clear hnn
    repeat (fail_if_success (with_reducible refine Ev_IfExp ?_)); wtm_at "w2"
    refine Ev.mono (Q := fun v H2 => Ext H' H2 ∧ ∃ a vs, v = .ref a ∧ H0 a = none ∧ H2 a = some (.list vs) ∧ L2 (LTh H0 H2) vs (WU i).2) (E := E) ?_ ?_ fun _ z => z
    · repeat wtm_at "w2"
      refine ite_b (fun z => ?_) fun z => ?_
      · repeat wtm_at "w2"
        refine Cl_str_int (n := i + 1) (by lia) ?_
        rw [str10 _ (by lia)]
        refine BOp_cat (by rw [sz24]; simp) ?_
        (repeat wtm_at "w2"); wtm_at "nl"
        intro l1 H1 e1 n1 k1
        (repeat wtm_at "w2"); wtm_at "nl"
        intro l2 H2 e2 n2 k2
        refine ⟨e1.trans e2, l2, _, rfl, g2 _ (off_of e1 n2), k2, ?_⟩
        rw [WU, if_pos (by simp at z; lia)]
        exact .cons ⟨l1, _, rfl, g2 _ n1, e2 _ _ k1, .nil⟩ .nil
      · (repeat wtm_at "w2"); wtm_at "nl"
        intro l2 H2 e2 n2 k2
        refine ⟨e2, l2, _, rfl, g2 _ n2, k2, ?_⟩
        rw [WU, if_neg (by simp at z; lia)]
        exact .cons rfl .nil
    rintro v H2 ⟨e2, a, vs, rfl, ha, hav, hL⟩
    repeat wtm_at "w2"
    refine Cl_str_int (by lia) ?_
    rw [str10 _ (by lia)]
    refine BOp_cat (by rw [sz24]; simp) ?_
    have hkk : ∀ i < 6, ([85] ++ [48 + i] : List Nat) ∉ (WL3 ++ (List.range i).map WU).map (·.1) := by decide
    refine SetI_dict (e2 _ _ hd) (by rw [law_keys hlt]; exact hkk i hid) (by rw [hlt.length]; simp [WL3]; lia) fun ep' => ?_
    have nw : News H0 H' (upd H2 D (.dict (kvs ++ [([85] ++ [48 + i], .ref a)]) ep')) := e2.news.up k0n
    have nw2 : News H0 H2 (upd H2 D (.dict (kvs ++ [([85] ++ [48 + i], .ref a)]) ep')) := Ext.refl.news.up k0n
    repeat wtm_at "w2"
    refine hB1 _ _ ⟨(g1.trans e2.b).trans ExtB.upd, fun b hb => g2 _ (off_of e2 (none_up hb)), put_ne (by decide) m1, put_ne (by decide) m2, by lia, ⟨_, _, upd_eq, hm, ?_⟩, g4.mono fun _ _ q => q.news nw, nw _ _ q12 g5⟩
    rw [List.range_succ, List.map_append, ← List.append_assoc]
    exact (hlt.mono fun _ _ q => q.news nw).snoc ⟨rfl, a, vs, rfl, ha, nw2 _ _ ha hav, hL.mono fun _ _ q => q.news nw2⟩
  · (repeat wtm_at "w2"); wtm_at "nl"
    intro s1 B1 e1 n1 k1
    (repeat wtm_at "w2"); wtm_at "nl"
    intro s2 B2 e2 n2 k2
    (repeat wtm_at "w2"); wtm_at "nl"
    intro s3 B3 e3 n3 k3
    (repeat wtm_at "w2"); wtm_at "nl"
    intro s4 B4 e4 n4 k4
    (repeat wtm_at "w2"); wtm_at "nl"
    intro s5 B5 e5 n5 k5
    (repeat wtm_at "w2"); wtm_at "nl"
    intro s6 B6 e6 n6 k6
    have x2 : Ext H' B2 := by wtm_at "x"
    have x3 : Ext H' B3 := by wtm_at "x"
    have x4 : Ext H' B4 := by wtm_at "x"
    have x6 : Ext H' B6 := by wtm_at "x"
    have q1 := g2 _ n1
    have q2 := g2 _ (off_of e1 n2)
    have q3 := g2 _ (off_of x2 n3)
    have q4 := g2 _ (off_of x3 n4)
    have q5 := g2 _ (off_of x4 n5)
    have rows5 : L2 (RowW H0 B6) ([V.tup [V.ref p6, V.ref p7], V.tup [V.ref p9, V.none], V.tup [V.ref p11, V.none]] ++ [V.tup [V.ref s2, V.ref s3], V.tup [V.ref s5, V.none]]) WR :=
      ((g4.mono fun _ _ q => q.news x6.news).snoc (b := ([.copy [85, 49] [] 0], some [[65]])) ⟨s2, _, _, rfl, q2, (by wtm_at "x" : Ext B2 B6) _ _ k2, .cons ⟨s1, _, rfl, q1, (by wtm_at "x" : Ext B1 B6) _ _ k1, .nil⟩ .nil, ⟨s3, rfl, q3, (by wtm_at "x" : Ext B3 B6) _ _ k3⟩⟩).snoc
        (b := ([.copy [85, 48] [] 0], none)) ⟨s5, _, _, rfl, q5, (by wtm_at "x" : Ext B5 B6) _ _ k5, .cons ⟨s4, _, rfl, q4, (by wtm_at "x" : Ext B4 B6) _ _ k4, .nil⟩ .nil, rfl⟩
    refine BOp_lists (x6 _ _ g5) k6 (by rw [sz24]; exact Nat.le_of_ble_eq_true rfl) fun R hR => ?_
    have e7 := x6.trans (Ext.upd (o := .list ([V.tup [V.ref p6, V.ref p7], V.tup [V.ref p9, V.none], V.tup [V.ref p11, V.none]] ++ [V.tup [V.ref s2, V.ref s3], V.tup [V.ref s5, V.none]])) hR)
    have rows5 := rows5.mono fun _ _ q => q.news (Ext.upd (o := .list ([V.tup [V.ref p6, V.ref p7], V.tup [V.ref p9, V.none], V.tup [V.ref p11, V.none]] ++ [V.tup [V.ref s2, V.ref s3], V.tup [V.ref s5, V.none]])) hR).news
    have kR : upd B6 R (.list ([V.tup [V.ref p6, V.ref p7], V.tup [V.ref p9, V.none], V.tup [V.ref p11, V.none]] ++ [V.tup [V.ref s2, V.ref s3], V.tup [V.ref s5, V.none]])) R = some (.list ([V.tup [V.ref p6, V.ref p7], V.tup [V.ref p9, V.none], V.tup [V.ref p11, V.none]] ++ [V.tup [V.ref s2, V.ref s3], V.tup [V.ref s5, V.none]])) := upd_eq
    generalize upd B6 R (.list _) = HH at e7 rows5 kR
    generalize ([V.tup [V.ref p6, V.ref p7], V.tup [V.ref p9, V.none], V.tup [V.ref p11, V.none]] ++ [V.tup [V.ref s2, V.ref s3], V.tup [V.ref s5, V.none]]) = rws at kR rows5
    have lib := g3.ext e7
    have gH : Ext H HH := fun b o hb => (g1.trans e7.b) b o (fun z => by rw [z, hD] at hb; cases hb) hb
    have m1' : put m' "rows" (V.ref R) "library" = some (.ref D) := put_ne (by decide) m1
    have m2' : put m' "rows" (V.ref R) "rows" = some (.ref R) := put_eq
    change LawLib H0 HH D WL at lib
    clear e1 e2 e3 e4 e5 e6 e7 n1 n2 n3 n4 n5 n6 k1 k2 k3 k4 k5 k6 x2 x3 x4 x6 q1 q2 q3 q4 q5 g1 g2 g3 g4 g5 hR
    repeat wtm_at "w2"
    refine byc fun hnn => ?_
    obtain ⟨kvs, epD, hd, _, hlt⟩ := lib
    refine hnn ?_; clear hnn
    have hkv := law_keys hlt
    have hnd : (kvs.map (·.1)).Nodup := by rw [hkv]; exact WL_keys.1
    refine Ev_ListComp (put noLoc "library" (.ref D)) (Itb_keys ?_) rfl (fun p hp => hp) (one_mC m1' (by show some NameKind.cell ≠ some NameKind.local; decide) (by show some NameKind.cell ≠ some NameKind.local; decide) rfl) rfl (by decide) (by decide) rfl rfl (by decide) (fun _ => rfl)
    repeat wtm_at "w2"
    refine ⟨D, kvs, epD, rfl, hd, hm, fun D2 i acc H' => H' = upd HH D2 (.list acc) ∧ acc = (WL.take i).map fun q => V.tup [.str q.1, .str (textS q.2)], fun D2 hD2 => ⟨⟨rfl, rfl⟩, fun i acc H' q => ?_, fun C i v acc H' hv q hD' => ?_⟩, fun D2 acc H' hD2 hD' q => ?_⟩
    · obtain ⟨rfl, rfl⟩ := q
      exact ⟨upd_of hd hD2, by rw [sz24, List.length_map, List.length_take]; have : WL.length = 9 := rfl; lia⟩
    · obtain ⟨rfl, rfl⟩ := q
      have e2 := Ext.upd (o := .list ((WL.take i).map fun q => V.tup [.str q.1, .str (textS q.2)])) hD2
      obtain ⟨kv, hkvi, rfl⟩ : ∃ kv, kvs[i]? = some kv ∧ v = .str kv.1 := by
        simp only [Src.items, List.getElem?_map] at hv
        refine byc fun hnn => ?_
        obtain ⟨a, h1, h2⟩ := Option.map_eq_some_iff.mp hv
        refine hnn ?_; clear hnn
        exact ⟨a, h1, h2.symm⟩
      refine byc fun hnn => ?_
      obtain ⟨q, hqi, hq1, a, vs, hq2, _, hq3, hq4⟩ := hlt.get hkvi
      refine hnn ?_; clear hnn
      have hlook := lookup_nodup hnd hkvi
      refine byc fun hnn => ?_
      obtain ⟨z1, _, z3⟩ := WL_good q (List.mem_of_getElem? hqi)
      refine hnn ?_; clear hnn
      rw [hq2] at hlook
      refine Tst_nil (ite_tt ?_)
      repeat wtm_at "w2"
      refine GetI_dict (e2 _ _ hd) hlook ?_
      repeat wtm_at "w2"
      refine (c_law_text hK (lr hr rfl) (e2 _ _ hq3) (hq4.mono fun _ _ q => q.news e2.news) z1 z3 ?_).cl
      repeat wtm_at "w2"
      rw [hq1]
      refine ⟨by rw [sz24]; exact Nat.le_of_ble_eq_true rfl, ?_⟩
      repeat wtm_at "w2"
      exact ⟨hD', upd_upd, by rw [List.take_add_one, hqi]; simp⟩
    obtain ⟨rfl, rfl⟩ := q
    have kk : (WL.take (Src.items (.keys D kvs epD)).length).map (fun q => V.tup [.str q.1, .str (textS q.2)]) = (WL.map fun q => (q.1, V.str (textS q.2))).map fun p => V.tup [.str p.1, p.2] := by
      rw [List.take_of_length_le (by simp [Src.items, hlt.length]), List.map_map]; rfl
    rw [kk]
    repeat wtm_at "w2"
    refine Cl_dict_pairs upd_eq (by rw [List.map_map]; exact WL_keys.1) (by decide) fun T epT hT hTm => ?_
    have e3 := (Ext.upd (o := .list ((WL.map fun q => (q.1, V.str (textS q.2))).map fun p => V.tup [.str p.1, p.2])) hD2).trans (Ext.upd (o := .dict (WL.map fun q => (q.1, V.str (textS q.2))) epT) hT)
    have kT : upd (upd HH D2 (.list ((WL.map fun q => (q.1, V.str (textS q.2))).map fun p => V.tup [.str p.1, p.2]))) T (.dict (WL.map fun q => (q.1, V.str (textS q.2))) epT) T = some (.dict (WL.map fun q => (q.1, V.str (textS q.2))) epT) := upd_eq
    generalize upd (upd HH D2 _) T _ = H5 at e3 kT
    have libT := libAt_of kT hTm (by decide) WL_keys.2
    have libL : LawLib H0 H5 D WL := ⟨kvs, epD, e3 _ _ hd, hm, hlt.mono fun _ _ q => q.news e3.news⟩
    have rows5 := rows5.mono fun _ _ q => q.news e3.news
    have kR := e3 _ _ kR
    have gH := gH.trans e3
    clear e3 hd hlt kk hnd hkv hT hD2
    generalize put m' "rows" (V.ref R) = mm at m1' m2'
    repeat wtm_at "w2"
    refine Ex_For (L := L) rfl ?_
    refine Itb_list ?_
    repeat wtm_at "w2"
    refine ⟨R, rws, rfl, kR, ?_⟩
    refine ⟨fun i m' H' => A3 (Ext H5 H') (m' "library" = some (.ref D)) (m' "texts" = some (.ref T)), ⟨⟨.refl, put_ne (by decide) m1', put_eq⟩, fun i m' H' q => q.1 _ _ kR, fun i x m' H' B hB1 hB2 hB3 hB4 hx q => ?_, fun m' H' q => ?_⟩⟩
    · refine byc fun hnn => ?_
      obtain ⟨eX, m1, m2⟩ := q
      refine hnn ?_; clear hnn
      obtain ⟨q, hqi, a, vs, dv, rfl, _, ha, hTh, hdv⟩ := rows5.get hx
      have hqm := List.mem_of_getElem? hqi
      refine byc fun hnn => ?_
      obtain ⟨z1, z2, z3⟩ := WR_good q hqm
      refine hnn ?_; clear hnn
      have hdue := WR_due q hqm
      have hTh := hTh.mono fun _ _ q => q.news eX.news
      repeat wtm_at "w2"
      refine (c_law_text hK (lr hr rfl) (eX _ _ ha) hTh z1 z3 ?_).cl
      repeat wtm_at "w2"
      cases hq2 : q.2 with
      | none =>
        rw [hq2] at hdue hdv
        subst hdv
        refine (c_heard hK hE WL_good (lr hr rfl) z1 z2 z3 (libT.ext eX) (fun ws hws => by rw [hdue] at hws; cases hws) fun _ H6 e6 => ?_).cl
        repeat wtm_at "w2"
        refine COp_ne_none ?_
        repeat wtm_at "w2"
        refine ite_f rfl ?_
        repeat wtm_at "w2"
        (repeat wtm_at "w2"); wtm_at "nl"
        intro l7 H7 e7 n7 k7
        have e57 := (eX.trans e6).trans e7
        repeat wtm_at "w2"
        refine (c_due hK WL_good (lr hr rfl) z1 z2 z3 (e7 _ _ (e6 _ _ (eX _ _ ha))) (hTh.mono fun _ _ q => q.news (e6.trans e7).news) (libL.ext e57) k7 (fun ws hws => by rw [hdue] at hws; cases hws) fun _ H8 e8 => ?_).cl
        repeat wtm_at "w2"
        refine COp_ne_none ?_
        repeat wtm_at "w2"
        refine ite_f rfl ?_
        repeat wtm_at "w2"
        refine ite_f rfl ?_
        repeat wtm_at "w2"
        exact hB1 _ _ ⟨e57.trans e8, put_ne (by decide) (put_ne (by decide) m1), put_ne (by decide) (put_ne (by decide) m2)⟩
      | some ws0 =>
        rw [hq2] at hdue hdv
        obtain ⟨o, rfl, _, ho⟩ := hdv
        have fl : ((ws0.map V.str).all flatV) = true := by simp [List.all_eq_true, flatV]
        have fe : (!eqL feq (ws0.map V.str) (ws0.map V.str)) = false := by rw [eqL_strs]; simp
        refine (c_heard hK hE WL_good (lr hr rfl) z1 z2 z3 (libT.ext eX) (fun ws hws D6 H6 e6 hD6 k6 => ?_) fun hn => by rw [hdue] at hn; cases hn).cl
        obtain rfl : ws0 = ws := by rw [hdue] at hws; exact Option.some.inj hws
        repeat wtm_at "w2"
        refine COp_ne_list k6 (e6 _ _ (eX _ _ ho)) (.inl fl) fl ?_
        rw [fe]
        repeat wtm_at "w2"
        refine ite_f rfl ?_
        repeat wtm_at "w2"
        (repeat wtm_at "w2"); wtm_at "nl"
        intro l7 H7 e7 n7 k7
        have e57 := (eX.trans e6).trans e7
        repeat wtm_at "w2"
        refine (c_due hK WL_good (lr hr rfl) z1 z2 z3 (e7 _ _ (e6 _ _ (eX _ _ ha))) (hTh.mono fun _ _ q => q.news (e6.trans e7).news) (libL.ext e57) k7 (fun ws hws D8 H8 e8 hD8 k8 => ?_) fun hn => by rw [hdue] at hn; cases hn).cl
        obtain rfl : ws0 = ws := by rw [hdue] at hws; exact Option.some.inj hws
        repeat wtm_at "w2"
        refine COp_ne_list k8 (e8 _ _ (e57 _ _ ho)) (.inl fl) fl ?_
        rw [fe]
        repeat wtm_at "w2"
        refine ite_f rfl ?_
        repeat wtm_at "w2"
        refine ite_f rfl ?_
        repeat wtm_at "w2"
        exact hB1 _ _ ⟨e57.trans e8, put_ne (by decide) (put_ne (by decide) m1), put_ne (by decide) (put_ne (by decide) m2)⟩
    · repeat wtm_at "w2"
      exact RetQ.now (h _ (gH.trans q.1))
end
end W40
section W41
open PySem PySem.W PyProof.Rows
set_option maxHeartbeats 2000000

/-- a pair of a name and its things, as the law lists it -/
def PairA (H0 H : AH) (v : V) (q : List Nat × List LT) : Prop := (X2 fun a vs => A4 (v = .tup [.str q.1, .ref a]) (H0 a = none) (H a = some (.list vs)) (L2 (LTh H0 H) vs q.2))
theorem PairA.news {H0 H H' : AH} {v q} (h : PairA H0 H v q) (e : News H0 H H') : PairA H0 H' v q := by
  obtain ⟨a, vs, h1, h2, h3, h4⟩ := h
  exact ⟨a, vs, h1, h2, e _ _ h2 h3, h4.mono fun _ _ q => q.news e⟩
theorem pairs_lib {H0 H : AH} {acc : List V} {lt : LLib} (l : L2 (PairA H0 H) acc lt) : ∃ kvs : List (List Nat × V), acc = kvs.map (fun p => .tup [.str p.1, p.2]) ∧ L2 (LawAt H0 H) kvs lt := by
  induction l with
  | nil => exact ⟨[], rfl, .nil⟩
  | @cons v q acc lt h t ih =>
    refine byc fun hnn => ?_
    obtain ⟨a, vs, h1, h2, h3, h4⟩ := h
    refine hnn ?_; clear hnn
    refine byc fun hnn => ?_
    obtain ⟨kvs, e, l⟩ := ih
    refine hnn ?_; clear hnn
    exact ⟨(_, .ref a) :: kvs, by rw [h1, e]; rfl, .cons ⟨rfl, a, vs, rfl, h2, h3, h4⟩ l⟩
theorem keys4 : (((List.range 4).map fun k => ([84, 48 + k] : List Nat)).Nodup) ∧ ∀ x ∈ (List.range 4).map fun k => ([84, 48 + k] : List Nat), UW x := by
  refine ⟨by decide, fun x hx => ?_⟩
  have h1 : ∀ x ∈ (List.range 4).map (fun k => ([84, 48 + k] : List Nat)), x ∈ names20 := by decide
  exact (WOK.names _ (h1 x hx)).2.uw
section
variable {G : Ctx} {fs : List Env} {r : Nat} {H : AH} {Q : V → AH → Prop} {E : AH → Prop}
theorem c_law (hK : GK G) (hE : G.C = .ref 84) (hr : 70 ≤ r) {la : Addr} {vs : List Value} {ns : List Int} (hl : G.s₀.heap.IsList la vs.toArray) (hi : IntsAre vs ns) (hz : ns.length ≤ 1000) (h : ∀ H', Ext H H' → Q (.bool true) H') : CC G fs r (.ref 656) [.ref la] H Q E := by
  refine FC (env := env656) hK (lq hr rfl) rfl rfl rfl rfl rfl (ps := ["script"]) (fun cs hl => by obtain ⟨c1, rfl⟩ := one_of hl; rfl) rfl (by intro p hp; rcases List.mem_cons.mp hp with rfl | hp; exact .inl rfl; cases hp) (by intro n p hp; rcases List.mem_cons.mp hp with rfl | hp; exact rfl; rcases List.mem_cons.mp hp with rfl | hp; exact rfl; cases hp) rfl rfl rfl (fun _ => rfl) fun hC L hL => ?_
  simp only [locs]
  repeat wtm_at "w2"
  refine (c_law_box hK (lr hr rfl) hl hi hz fun B c H1 e1 hB hb1 => ?_).cl
  repeat wtm_at "w2"
  refine (c_law_written hK hE (lr hr rfl) fun H2 e2 => ?_).cl
  have e2 := e1.trans e2
  have hb2 := hb1.ext ‹Ext H1 H2›
  repeat wtm_at "w2"
  refine ite_f rfl ?_
  repeat wtm_at "w2"
  refine Ev_ListComp (put noLoc "box" (.ref B)) (Itb_range (nr hK) ?_ rfl rfl rfl rfl rfl) rfl (fun p hp => List.mem_singleton.mp hp ▸ .tail _ (.head _)) (one_mC put_eq (by show some NameKind.cell ≠ some NameKind.local; decide) (by show some NameKind.cell ≠ some NameKind.local; decide) rfl) rfl (by decide) (by decide) rfl rfl (by decide) (fun _ => rfl)
  repeat wtm_at "w2"
  refine ⟨by decide, fun D i acc H' => A5 (∀ a, H' a = none → upd H2 D (.list []) a = none) (ExtB B H2 H') (BoxAt H' B c (69 * i)) (i ≤ 4) (∃ lt : LLib, A3 (L2 (PairA (upd H2 D (.list [])) H') acc lt) (lt.map (·.1) = (List.range i).map (fun k => ([84, 48 + k] : List Nat))) (LG lt)), fun D hD => ⟨⟨fun _ z => z, (Ext.upd hD).b, hb2.ext (Ext.upd hD), Nat.zero_le _, [], .nil, rfl, by intro q hq; cases hq⟩, fun i acc H' q => ?_, fun C i v acc H' hv q hD' => ?_⟩, fun D acc H' hD hD' q => ?_⟩
  · refine byc fun hnn => ?_
    obtain ⟨_, _, _, h4, lt, l1, l2, _⟩ := q
    refine hnn ?_; clear hnn
    have := congrArg List.length l2
    simp only [List.length_map, List.length_range] at this
    exact ⟨trivial, by rw [l1.length, this, sz24]; lia⟩
  · refine byc fun hnn => ?_
    obtain ⟨dom, eB, hbx, h4, lt, l1, l2, l3⟩ := q
    refine hnn ?_; clear hnn
    obtain ⟨hid, rfl⟩ : i < 4 ∧ v = .int (i : Int) := by
      simp only [Src.items, List.getElem?_map] at hv
      refine byc fun hnn => ?_
      obtain ⟨k, h1, h2⟩ := Option.map_eq_some_iff.mp hv
      refine hnn ?_; clear hnn
      obtain ⟨h3, h4⟩ := List.getElem?_eq_some_iff.mp h1
      simp at h3 h4
      subst h4
      exact ⟨h3, h2.symm⟩
    have nD := hb2.ne hD
    refine Tst_nil (ite_tt ?_)
    repeat wtm_at "w2"
    refine Cl_str_int (by lia) ?_
    rw [str10 _ (by lia)]
    refine BOp_cat (by rw [sz24]; simp) ?_
    repeat wtm_at "w2"
    refine (c_law_things hK (lr hr rfl) (by lia) hbx (by lia) fun D3 H3 vs3 ts e3 hD3 k3 t3 hb3 z1 z2 z3 => ?_).cl
    repeat wtm_at "w2"
    refine ⟨by rw [sz24]; exact Nat.le_of_ble_eq_true rfl, ?_⟩
    have base := dom _ hD3
    have D3D : D3 ≠ D := fun z => by rw [z, upd_eq] at base; cases base
    have bB : upd H2 D (.list []) B ≠ none := by rw [upd_ne nD.1.symm]; exact hb2.nn
    have bD : upd H2 D (.list []) D ≠ none := by rw [upd_eq]; simp
    have nw : News (upd H2 D (.list [])) H' (upd H3 D (.list (acc ++ [.tup [.str ([84] ++ [48 + i]), .ref D3]]))) := (e3.news bB).up bD
    have nw3 : News (upd H2 D (.list [])) H3 (upd H3 D (.list (acc ++ [.tup [.str ([84] ++ [48 + i]), .ref D3]]))) := Ext.refl.news.up bD
    refine ⟨e3 _ _ nD.1 hD', fun a ha => dom _ (e3.none hb3.nn (none_up ha)), (eB.trans e3).upn hD, (hb3.le (by lia)).up nD, by lia, lt ++ [([84, 48 + i], ts)], (l1.mono fun _ _ q => q.news nw).snoc ⟨D3, vs3, rfl, base, nw3 _ _ base k3, t3.mono fun _ _ q => (q.old dom).news nw3⟩, by rw [List.map_append, l2, List.range_succ, List.map_append]; rfl,
      fun q hq => (List.mem_append.mp hq).elim (l3 q) fun z => List.mem_singleton.mp z ▸ ⟨z1, z2, z3⟩⟩
  refine byc fun hnn => ?_
  obtain ⟨dom, eB, hbx, -, lt, l1, l2, l3⟩ := q
  refine hnn ?_; clear hnn
  have nD := hb2.ne hD
  have bB : upd H2 D (.list []) B ≠ none := by rw [upd_ne nD.1.symm]; exact hb2.nn
  have bD : upd H2 D (.list []) D ≠ none := by rw [upd_eq]; simp
  have oldH : ∀ a, upd H2 D (.list []) a = none → H a = none := fun a ha => off_of (e2.updT hD) ha
  generalize upd H2 D (.list []) = HB at dom l1 bB bD oldH
  change lt.map (·.1) = (List.range 4).map (fun k => ([84, 48 + k] : List Nat)) at l2
  change BoxAt H' B c 276 at hbx
  have lz : lt.length = 4 := by have := congrArg List.length l2; simpa using this
  obtain ⟨kvs, rfl, hlt⟩ := pairs_lib l1
  have hkv := law_keys hlt
  have hnd : (kvs.map (·.1)).Nodup := by rw [hkv, l2]; exact keys4.1
  repeat wtm_at "w2"
  refine Cl_dict_pairs hD' hnd (by rw [hlt.length]; lia) fun T epT hT hTm => ?_
  have eT := Ext.upd (o := .dict kvs epT) hT
  have kT : upd H' T (.dict kvs epT) T = some (.dict kvs epT) := upd_eq
  have hlt := hlt.mono fun _ _ q => q.news eT.news
  have hbT := hbx.ext eT
  have eB := eB.trans eT.b
  have dom := fun a ha => dom a (off_of eT ha)
  have TB := (hbx.ne hT).1
  generalize upd H' T (.dict kvs epT) = H3 at eT kT hlt hbT eB dom
  clear hD' l1 hbx hT
  repeat wtm_at "w2"
  refine (c_law_things hK (lr hr rfl) (by lia) hbT (by lia) fun P H4 vsP ts e4 hP kP tP hb4 z1 z2 z3 => ?_).cl
  have eX : ExtB B H2 H4 := eB.trans e4
  have fin : ∀ {H5}, Ext H4 H5 → Ext H H5 := fun e5 b o hb => e5 _ _ (eX b o (fun z => by rw [z, hB] at hb; cases hb) (e2 b o hb))
  have kT := e4 _ _ TB kT
  have hlt := hlt.mono fun _ _ q => q.news (e4.news bB)
  have tP := tP.mono fun _ _ q => q.old dom
  clear hbT eB e4 hP hb4 eT dom TB
  repeat wtm_at "w2"
  refine Ev_ListComp (put noLoc "library" (.ref T)) (Itb_keys ?_) rfl (fun p hp => List.mem_singleton.mp hp ▸ .head _) (one_mC (put_ne (by decide) put_eq) (by show some NameKind.cell ≠ some NameKind.local; decide) (by show some NameKind.cell ≠ some NameKind.local; decide) rfl) rfl (by decide) (by decide) rfl rfl (by decide) (fun _ => rfl)
  repeat wtm_at "w2"
  refine ⟨T, kvs, epT, rfl, kT, hTm, fun D2 i acc H' => H' = upd H4 D2 (.list acc) ∧ acc = (lt.take i).map fun q => V.tup [.str q.1, .str (textS q.2)], fun D2 hD2 => ⟨⟨rfl, rfl⟩, fun i acc H' q => ?_, fun C i v acc H' hv q hD' => ?_⟩, fun D2 acc H' hD2 hD' q => ?_⟩
  · obtain ⟨rfl, rfl⟩ := q
    exact ⟨upd_of kT hD2, by rw [sz24, List.length_map, List.length_take]; lia⟩
  · obtain ⟨rfl, rfl⟩ := q
    have e2 := Ext.upd (o := .list ((lt.take i).map fun q => V.tup [.str q.1, .str (textS q.2)])) hD2
    obtain ⟨kv, hkvi, rfl⟩ : ∃ kv, kvs[i]? = some kv ∧ v = .str kv.1 := by
      simp only [Src.items, List.getElem?_map] at hv
      refine byc fun hnn => ?_
      obtain ⟨a, h1, h2⟩ := Option.map_eq_some_iff.mp hv
      refine hnn ?_; clear hnn
      exact ⟨a, h1, h2.symm⟩
    refine byc fun hnn => ?_
    obtain ⟨q, hqi, hq1, a, vs, hq2, _, hq3, hq4⟩ := hlt.get hkvi
    refine hnn ?_; clear hnn
    have hlook := lookup_nodup hnd hkvi
    refine byc fun hnn => ?_
    obtain ⟨y1, _, y3⟩ := l3 q (List.mem_of_getElem? hqi)
    refine hnn ?_; clear hnn
    rw [hq2] at hlook
    refine Tst_nil (ite_tt ?_)
    repeat wtm_at "w2"
    refine GetI_dict (e2 _ _ kT) hlook ?_
    repeat wtm_at "w2"
    refine (c_law_text hK (lr hr rfl) (e2 _ _ hq3) (hq4.mono fun _ _ q => q.news e2.news) y1 y3 ?_).cl
    repeat wtm_at "w2"
    rw [hq1]
    refine ⟨by rw [sz24]; exact Nat.le_of_ble_eq_true rfl, ?_⟩
    repeat wtm_at "w2"
    exact ⟨hD', upd_upd, by rw [List.take_add_one, hqi]; simp⟩
  obtain ⟨rfl, rfl⟩ := q
  have kk : (lt.take (Src.items (.keys T kvs epT)).length).map (fun q => V.tup [.str q.1, .str (textS q.2)]) = (lt.map fun q => (q.1, V.str (textS q.2))).map fun p => V.tup [.str p.1, p.2] := by
    rw [List.take_of_length_le (by simp [Src.items, hlt.length]), List.map_map]; rfl
  rw [kk]
  repeat wtm_at "w2"
  refine Cl_dict_pairs upd_eq (by rw [List.map_map]; exact l2 ▸ keys4.1) (by rw [List.length_map]; lia) fun X epX hX hXm => ?_
  have e5 := (Ext.upd (o := .list ((lt.map fun q => (q.1, V.str (textS q.2))).map fun p => V.tup [.str p.1, p.2])) hD2).trans (Ext.upd (o := .dict (lt.map fun q => (q.1, V.str (textS q.2))) epX) hX)
  have kX : upd (upd H4 D2 (.list ((lt.map fun q => (q.1, V.str (textS q.2))).map fun p => V.tup [.str p.1, p.2]))) X (.dict (lt.map fun q => (q.1, V.str (textS q.2))) epX) X = some (.dict (lt.map fun q => (q.1, V.str (textS q.2))) epX) := upd_eq
  generalize upd (upd H4 D2 _) X _ = H5 at e5 kX
  repeat wtm_at "w2"
  refine Cl_dict_dict kX hXm (by rw [List.length_map]; lia) fun Y epY hY hYm => ?_
  have e6 := e5.trans (Ext.upd (o := .dict (lt.map fun q => (q.1, V.str (textS q.2))) epY) hY)
  have kY : upd H5 Y (.dict (lt.map fun q => (q.1, V.str (textS q.2))) epY) Y = some (.dict (lt.map fun q => (q.1, V.str (textS q.2))) epY) := upd_eq
  have kX := upd_of (o2 := .dict (lt.map fun q => (q.1, V.str (textS q.2))) epY) kX hY
  generalize upd H5 Y _ = H6 at e6 kY kX
  have libX := libAt_of kX hXm (by lia) (fun q hq => keys4.2 _ (l2 ▸ List.mem_map.mpr ⟨q, hq, rfl⟩))
  have libT : LawLib HB H6 T lt := ⟨kvs, epT, e6 _ _ kT, hTm, hlt.mono fun _ _ q => q.news e6.news⟩
  have tP := tP.mono fun _ _ q => q.news e6.news
  have kP := e6 _ _ kP
  have dicts : lt.map (fun q => (q.1, V.str (textS q.2))) = (lt.map fun q => (q.1, textS q.2)).map fun p => (p.1, V.str p.2) := by rw [List.map_map]; rfl
  rw [dicts] at kX kY
  clear e5 hD2 hX hY kk dicts
  repeat wtm_at "w2"
  refine (c_law_text hK (lr hr rfl) kP tP z1 z3 ?_).cl
  repeat wtm_at "w2"
  cases hdue : dueT (dueX (libL lt) 5 []) (ts.map LT.th) with
  | none =>
    refine (c_heard hK hE l3 (lr hr rfl) z1 z2 z3 libX (fun ws hws => by rw [hdue] at hws; cases hws) fun _ H7 e7 => ?_).cl
    (repeat wtm_at "w2"); wtm_at "nl"
    intro l8 H8 e8 n8 k8
    have e68 := e7.trans e8
    repeat wtm_at "w2"
    refine (c_due hK l3 (lr hr rfl) z1 z2 z3 (e68 _ _ kP) (tP.mono fun _ _ q => q.news e68.news) (libT.ext e68) k8 (fun ws hws => by rw [hdue] at hws; cases hws) fun _ H9 e9 => ?_).cl
    have e69 := e68.trans e9
    refine COp_eq_none ?_
    repeat wtm_at "w2"
    refine ite_t rfl ?_
    repeat wtm_at "w2"
    refine COp_eq_dict (e69 _ _ kX) (e69 _ _ kY) hXm hYm ?_
    exact RetQ.now (h _ (fin (e6.trans e69)))
  | some ws0 =>
    have fl : ((ws0.map V.str).all flatV) = true := by simp [List.all_eq_true, flatV]
    have fe : (eqL feq (ws0.map V.str) (ws0.map V.str)) = true := by rw [eqL_strs]; simp
    refine (c_heard hK hE l3 (lr hr rfl) z1 z2 z3 libX (fun ws hws D7 H7 e7 hD7 k7 => ?_) fun hn => by rw [hdue] at hn; cases hn).cl
    obtain rfl : ws0 = ws := by rw [hdue] at hws; exact Option.some.inj hws
    (repeat wtm_at "w2"); wtm_at "nl"
    intro l8 H8 e8 n8 k8
    have e68 := e7.trans e8
    repeat wtm_at "w2"
    refine (c_due hK l3 (lr hr rfl) z1 z2 z3 (e68 _ _ kP) (tP.mono fun _ _ q => q.news e68.news) (libT.ext e68) k8 (fun ws hws D9 H9 e9 hD9 k9 => ?_) fun hn => by rw [hdue] at hn; cases hn).cl
    obtain rfl : ws0 = ws := by rw [hdue] at hws; exact Option.some.inj hws
    have e69 := e68.trans e9
    refine COp_eq_list ((e8.trans e9) _ _ k7) k9 (.inl fl) fl ?_
    rw [fe]
    repeat wtm_at "w2"
    refine ite_t rfl ?_
    repeat wtm_at "w2"
    refine COp_eq_dict (e69 _ _ kX) (e69 _ _ kY) hXm hYm ?_
    exact RetQ.now (h _ (fin (e6.trans e69)))
end
end W41
/-- the whole call -/
theorem run_law {prog : Program} {w : World} {s : Shared} {p : Program} {loose : List Str} {mg mb : Str → Option Value} {fa la : Addr} {vals : List Value} {ns : List Int} (KX : (Z.heap_1 w.params).In s.heap) (TR : TopRead p loose mg mb s.heap)
    (hmg : mg (Str.ofString "law") = some (.ref fa)) (hg : s.gens = #[]) (hl : s.heap.IsList la vals.toArray) (hi : IntsAre vals ns) (hz : ns.length ≤ 1000) :
    codeAny (model prog w) callerA (.call (.ref fa) ⟨[.ref la], []⟩) (fun res s' => res = .ok (.ret (.bool true)) ∧ (∀ b o, s.heap.get? b = some o → s'.heap.get? b = some o) ∧ s'.os = s.os ∧ s'.gens = #[]) s := by
  let G : Mine.Ctx := ⟨prog, w, Z.heap_1 w.params, s, p, loose, mg, mb, KX, TR, .ref 84⟩
  have hK : GK G := rfl
  have rel : Rel G [] (fun _ => none) s := ⟨fun _ _ e => e, fun _ _ _ => rfl, fun _ _ e => (nomatch e), trivial, fun _ h => (nomatch h), rfl, rfl⟩
  have hfa : fa = 656 := by
    have := mg_of (K := G.K) KX TR.g (show nsIn (Z.heap_1 w.params) mainGlobals "law" = some (some (.ref 656)) from rfl)
    rw [show mg (Str.ofString "law") = mg "law" from rfl, this] at hmg
    cases hmg; rfl
  subst hfa
  have c := c_law (fs := []) (r := 70) (H := fun _ => none) (Q := fun v _ => v = .bool true) (E := fun _ => False) hK rfl (Nat.le_refl _) hl hi hz fun _ _ => rfl
  refine codeAny_mono (c callerA s (.ref 656) [.ref la] ⟨rfl, rfl, by decide, by decide⟩ rel (.ref _) (.cons (.ref _) .nil)) fun res s' q => ?_
  rcases res with e | (_ | _ | _ | v)
  · obtain ⟨_, _, _, z⟩ := q; exact z.elim
  · exact q.elim
  · exact q.elim
  · exact q.elim
  · obtain ⟨a, H', h1, h2, rfl⟩ := q
    cases h2
    exact ⟨rfl, h1.1.base, h1.1.os, h1.1.gens.trans hg⟩
/-! names that the head asks for are taken, so that it lays no twins -/
theorem A.tw10030969785850798338 : True := trivial
theorem A.tw10039980691251726572 : True := trivial
theorem A.tw10054515746485545695 : True := trivial
theorem A.tw10082186590243426278 : True := trivial
theorem A.tw10121268718762244251 : True := trivial
theorem A.tw10152246154050322472 : True := trivial
theorem A.tw10153110420852926750 : True := trivial
theorem A.tw10196773732981162440 : True := trivial
theorem A.tw10197097089835379856 : True := trivial
theorem A.tw10207993365563939225 : True := trivial
theorem A.tw10245683147324411250 : True := trivial
theorem A.tw10253156908603326946 : True := trivial
theorem A.tw10325025573206000152 : True := trivial
theorem A.tw10377669377139287063 : True := trivial
theorem A.tw10399376537197688595 : True := trivial
theorem A.tw1041045915675412149 : True := trivial
theorem A.tw10464261132558860693 : True := trivial
theorem A.tw10496668177746076443 : True := trivial
theorem A.tw10560450822253899665 : True := trivial
theorem A.tw105892155891997504 : True := trivial
theorem A.tw10635995277014176919 : True := trivial
theorem A.tw1065936620178687560 : True := trivial
theorem A.tw10664972489193876424 : True := trivial
theorem A.tw10684294760638869255 : True := trivial
theorem A.tw10699875410250872069 : True := trivial
theorem A.tw10706603742142423536 : True := trivial
theorem A.tw10716599561833208153 : True := trivial
theorem A.tw1074485552284268750 : True := trivial
theorem A.tw10778058994300049312 : True := trivial
theorem A.tw10782379631193864376 : True := trivial
theorem A.tw10787138224356140933 : True := trivial
theorem A.tw10827532261440953462 : True := trivial
theorem A.tw10886064689946728755 : True := trivial
theorem A.tw10901983248858414004 : True := trivial
theorem A.tw10934564066474580313 : True := trivial
theorem A.tw10947257748996816584 : True := trivial
theorem A.tw10992855661375223638 : True := trivial
theorem A.tw10993533799054453109 : True := trivial
theorem A.tw11000814773589610604 : True := trivial
theorem A.tw11015472347083230262 : True := trivial
theorem A.tw11021700259399054941 : True := trivial
theorem A.tw1103745858528659188 : True := trivial
theorem A.tw11091090640047338270 : True := trivial
theorem A.tw1113617588754079833 : True := trivial
theorem A.tw11141763647842648424 : True := trivial
theorem A.tw11189993024330764420 : True := trivial
theorem A.tw11243315551754283482 : True := trivial
theorem A.tw11281133222697004258 : True := trivial
theorem A.tw11320809503829365003 : True := trivial
theorem A.tw11362764593936253274 : True := trivial
theorem A.tw11363359926213762747 : True := trivial
theorem A.tw11384763724287260210 : True := trivial
theorem A.tw113856523858392798 : True := trivial
theorem A.tw11433832083034314483 : True := trivial
theorem A.tw11458423111026640595 : True := trivial
theorem A.tw11489756488826593796 : True := trivial
theorem A.tw11528415690378899637 : True := trivial
theorem A.tw11548965140843021987 : True := trivial
theorem A.tw11564516825237151809 : True := trivial
theorem A.tw1158314378726466149 : True := trivial
theorem A.tw11614280353470332292 : True := trivial
theorem A.tw117206164609102789 : True := trivial
theorem A.tw11764716563344706947 : True := trivial
theorem A.tw11785866793061704493 : True := trivial
theorem A.tw11786510399890765612 : True := trivial
theorem A.tw11806210694099675482 : True := trivial
theorem A.tw11840606308053180062 : True := trivial
theorem A.tw11852887670757298677 : True := trivial
theorem A.tw11885572162647014744 : True := trivial
theorem A.tw11911168570880277447 : True := trivial
theorem A.tw11950277046930813729 : True := trivial
theorem A.tw11954576275216591812 : True := trivial
theorem A.tw12036506529984650785 : True := trivial
theorem A.tw12060175795875190380 : True := trivial
theorem A.tw12100544146232882060 : True := trivial
theorem A.tw12131059939518088305 : True := trivial
theorem A.tw12158403248636069845 : True := trivial
theorem A.tw12193266790592918035 : True := trivial
theorem A.tw12246642416830312850 : True := trivial
theorem A.tw1229683965002552573 : True := trivial
theorem A.tw1231048032295646701 : True := trivial
theorem A.tw12325721819787044348 : True := trivial
theorem A.tw12340207142866818254 : True := trivial
theorem A.tw12362366240969758108 : True := trivial
theorem A.tw12366543459812851483 : True := trivial
theorem A.tw12427154826966451747 : True := trivial
theorem A.tw12427603787274352968 : True := trivial
theorem A.tw1245441031800876097 : True := trivial
theorem A.tw12465477987476379550 : True := trivial
theorem A.tw12475027643131727008 : True := trivial
theorem A.tw12479364158820999098 : True := trivial
theorem A.tw12496947018832167012 : True := trivial
theorem A.tw12507005154258244781 : True := trivial
theorem A.tw12632305223598658551 : True := trivial
theorem A.tw12687672070917233148 : True := trivial
theorem A.tw12705115487834423570 : True := trivial
theorem A.tw1271620941395032083 : True := trivial
theorem A.tw12718378577592398934 : True := trivial
theorem A.tw12742595397925445583 : True := trivial
theorem A.tw12749917835139898517 : True := trivial
theorem A.tw12759292786942606714 : True := trivial
theorem A.tw12868137353044972199 : True := trivial
theorem A.tw12889269496251464945 : True := trivial
theorem A.tw12893078980488640160 : True := trivial
theorem A.tw12943326520175269150 : True := trivial
theorem A.tw12966225125333578685 : True := trivial
theorem A.tw1310802193599200633 : True := trivial
theorem A.tw13134376616442799597 : True := trivial
theorem A.tw13203302294251429491 : True := trivial
theorem A.tw13241002363687044797 : True := trivial
theorem A.tw13281012944092047066 : True := trivial
theorem A.tw13301902382459413100 : True := trivial
theorem A.tw13302363273671260167 : True := trivial
theorem A.tw13324856581928621811 : True := trivial
theorem A.tw13329578011662183439 : True := trivial
theorem A.tw13332559842603280762 : True := trivial
theorem A.tw13358197449699821863 : True := trivial
theorem A.tw13386690434208254547 : True := trivial
theorem A.tw134646261756989039 : True := trivial
theorem A.tw13505018483675510766 : True := trivial
theorem A.tw13510605366103745194 : True := trivial
theorem A.tw13519192087330691358 : True := trivial
theorem A.tw13537463591308599714 : True := trivial
theorem A.tw13549644542960460276 : True := trivial
theorem A.tw13612085399911519502 : True := trivial
theorem A.tw1361641454171103028 : True := trivial
theorem A.tw13634319274872625274 : True := trivial
theorem A.tw13642742781253394154 : True := trivial
theorem A.tw13663073509283590788 : True := trivial
theorem A.tw13674457819765298903 : True := trivial
theorem A.tw13699956607400889491 : True := trivial
theorem A.tw13705009445313279812 : True := trivial
theorem A.tw13716001590904515836 : True := trivial
theorem A.tw13753184630324279969 : True := trivial
theorem A.tw13778750117072980034 : True := trivial
theorem A.tw13793731102141371229 : True := trivial
theorem A.tw13853701808809393263 : True := trivial
theorem A.tw1385828106889595713 : True := trivial
theorem A.tw13861101173324344108 : True := trivial
theorem A.tw13864539485622963178 : True := trivial
theorem A.tw13872578380606020597 : True := trivial
theorem A.tw1394220340806483022 : True := trivial
theorem A.tw13958309605164916494 : True := trivial
theorem A.tw13964624513649076710 : True := trivial
theorem A.tw13965079843612598301 : True := trivial
theorem A.tw14005302590413841028 : True := trivial
theorem A.tw1407346102288598335 : True := trivial
theorem A.tw14074640794080373042 : True := trivial
theorem A.tw14079619297737985768 : True := trivial
theorem A.tw14154834401945157658 : True := trivial
theorem A.tw14213590927497897544 : True := trivial
theorem A.tw14245635815743029402 : True := trivial
theorem A.tw14284554016526456933 : True := trivial
theorem A.tw14293655213214525087 : True := trivial
theorem A.tw14297070786644662553 : True := trivial
theorem A.tw14377531038707566188 : True := trivial
theorem A.tw1439865979569209556 : True := trivial
theorem A.tw14422174058144415194 : True := trivial
theorem A.tw14438389001676706811 : True := trivial
theorem A.tw14458194473201753207 : True := trivial
theorem A.tw14516451754878594844 : True := trivial
theorem A.tw14572341046819143359 : True := trivial
theorem A.tw14573882801119379157 : True := trivial
theorem A.tw14607113684941794566 : True := trivial
theorem A.tw14669557720211274128 : True := trivial
theorem A.tw14686074749013615236 : True := trivial
theorem A.tw14702201813950733645 : True := trivial
theorem A.tw14705889260992872993 : True := trivial
theorem A.tw14732702020305184979 : True := trivial
theorem A.tw14741808364667031746 : True := trivial
theorem A.tw14742132386696888150 : True := trivial
theorem A.tw14790748961416948911 : True := trivial
theorem A.tw14795539740201543242 : True := trivial
theorem A.tw14826913835153369450 : True := trivial
theorem A.tw148890740115094477 : True := trivial
theorem A.tw14932170225777500111 : True := trivial
theorem A.tw14932834201408268047 : True := trivial
theorem A.tw14945935432437476554 : True := trivial
theorem A.tw15002345158649886170 : True := trivial
theorem A.tw15011190026600635986 : True := trivial
theorem A.tw15111303947679536969 : True := trivial
theorem A.tw15111863493457439586 : True := trivial
theorem A.tw15124920886646140497 : True := trivial
theorem A.tw1515702419191719287 : True := trivial
theorem A.tw15162241933437821675 : True := trivial
theorem A.tw15170479923799075306 : True := trivial
theorem A.tw15178048850594536657 : True := trivial
theorem A.tw15181888531085275548 : True := trivial
theorem A.tw1518222452301904096 : True := trivial
theorem A.tw15184861372777856647 : True := trivial
theorem A.tw15198033181134836251 : True := trivial
theorem A.tw15198502237903285606 : True := trivial
theorem A.tw15220165724613779042 : True := trivial
theorem A.tw15235753295579347311 : True := trivial
theorem A.tw1524894922436691342 : True := trivial
theorem A.tw15293696794703194942 : True := trivial
theorem A.tw15303074500943646729 : True := trivial
theorem A.tw15342614390913295647 : True := trivial
theorem A.tw15353610703277637174 : True := trivial
theorem A.tw15354953269843191302 : True := trivial
theorem A.tw15358105072341482811 : True := trivial
theorem A.tw15364495290004752866 : True := trivial
theorem A.tw15367602884171047255 : True := trivial
theorem A.tw15393187782234676106 : True := trivial
theorem A.tw15408949549868101519 : True := trivial
theorem A.tw1544815690887323754 : True := trivial
theorem A.tw15448522643604768557 : True := trivial
theorem A.tw15452647047682044880 : True := trivial
theorem A.tw15497127780042791359 : True := trivial
theorem A.tw15506024562825930269 : True := trivial
theorem A.tw15525712448779921934 : True := trivial
theorem A.tw15570443329584937765 : True := trivial
theorem A.tw15581840223784076585 : True := trivial
theorem A.tw1558536377343616890 : True := trivial
theorem A.tw15703972413860346071 : True := trivial
theorem A.tw15764628548652911469 : True := trivial
theorem A.tw15766315853903485041 : True := trivial
theorem A.tw15792703391983847090 : True := trivial
theorem A.tw15806694122827694765 : True := trivial
theorem A.tw15824228466421876341 : True := trivial
theorem A.tw15842805041320169664 : True := trivial
theorem A.tw15909743287994251183 : True := trivial
theorem A.tw15927242249926865035 : True := trivial
theorem A.tw1597903915225667921 : True := trivial
theorem A.tw16019834809333034135 : True := trivial
theorem A.tw16024005098661063716 : True := trivial
theorem A.tw16029876854807162041 : True := trivial
theorem A.tw16111458794243136383 : True := trivial
theorem A.tw16139747840005603707 : True := trivial
theorem A.tw16184407018313707753 : True := trivial
theorem A.tw1618849812798959209 : True := trivial
theorem A.tw162176119987761239 : True := trivial
theorem A.tw16229667660273776000 : True := trivial
theorem A.tw1626379720213444100 : True := trivial
theorem A.tw16321642426560474979 : True := trivial
theorem A.tw16346770047892695733 : True := trivial
theorem A.tw16404361268704588655 : True := trivial
theorem A.tw16416462768213931728 : True := trivial
theorem A.tw16422375273577659187 : True := trivial
theorem A.tw1644830645247699362 : True := trivial
theorem A.tw16488007879775838487 : True := trivial
theorem A.tw16515436210137474786 : True := trivial
theorem A.tw16617273978208773232 : True := trivial
theorem A.tw16627337840181207693 : True := trivial
theorem A.tw16630346918049151353 : True := trivial
theorem A.tw16700816230120442408 : True := trivial
theorem A.tw16722388022564052092 : True := trivial
theorem A.tw16727976243033487564 : True := trivial
theorem A.tw16735566038340238387 : True := trivial
theorem A.tw16737173053404651633 : True := trivial
theorem A.tw16778984739872747439 : True := trivial
theorem A.tw16780720457367482748 : True := trivial
theorem A.tw16791639729399313340 : True := trivial
theorem A.tw16812395977264597804 : True := trivial
theorem A.tw1683608423951821142 : True := trivial
theorem A.tw16853338072351604013 : True := trivial
theorem A.tw16865932995392713332 : True := trivial
theorem A.tw16892929051993037992 : True := trivial
theorem A.tw16901909952716669009 : True := trivial
theorem A.tw16914969052437096690 : True := trivial
theorem A.tw16928538612152250864 : True := trivial
theorem A.tw16949904339927074615 : True := trivial
theorem A.tw16968332620267311704 : True := trivial
theorem A.tw17006504522219559285 : True := trivial
theorem A.tw17007070484686770688 : True := trivial
theorem A.tw1701950017690343762 : True := trivial
theorem A.tw17056287566603356427 : True := trivial
theorem A.tw17078412658248649703 : True := trivial
theorem A.tw1711519048115537211 : True := trivial
theorem A.tw17144881831755178340 : True := trivial
theorem A.tw17172642111217200383 : True := trivial
theorem A.tw1717514337358173748 : True := trivial
theorem A.tw17187560865463396386 : True := trivial
theorem A.tw17198268661124911014 : True := trivial
theorem A.tw17252311132398872637 : True := trivial
theorem A.tw17254371600449239856 : True := trivial
theorem A.tw17261256947298579399 : True := trivial
theorem A.tw17279437854136511551 : True := trivial
theorem A.tw1728546883027405083 : True := trivial
theorem A.tw17319026822952528080 : True := trivial
theorem A.tw1740639744480888156 : True := trivial
theorem A.tw17411698529081564730 : True := trivial
theorem A.tw17445035016331381763 : True := trivial
theorem A.tw17445874427371686762 : True := trivial
theorem A.tw17511447841963775698 : True := trivial
theorem A.tw17572975399819727341 : True := trivial
theorem A.tw17582863806713053146 : True := trivial
theorem A.tw17623182121723998141 : True := trivial
theorem A.tw17637520544956895164 : True := trivial
theorem A.tw17695215439152662216 : True := trivial
theorem A.tw17708045373672667275 : True := trivial
theorem A.tw17726509667999022358 : True := trivial
theorem A.tw17729939769917958669 : True := trivial
theorem A.tw17774000384168601086 : True := trivial
theorem A.tw17774262120541857366 : True := trivial
theorem A.tw1778905860063359991 : True := trivial
theorem A.tw17789818160385244433 : True := trivial
theorem A.tw17828685124681892069 : True := trivial
theorem A.tw17842558928576503819 : True := trivial
theorem A.tw17851522674078917031 : True := trivial
theorem A.tw17989046979602641947 : True := trivial
theorem A.tw18060508965523648178 : True := trivial
theorem A.tw18065293817477989839 : True := trivial
theorem A.tw18079562977478430837 : True := trivial
theorem A.tw18091670199125000859 : True := trivial
theorem A.tw18151371164494463335 : True := trivial
theorem A.tw1816781321809317404 : True := trivial
theorem A.tw18183724183139090585 : True := trivial
theorem A.tw18198288870959493098 : True := trivial
theorem A.tw1822280848354100679 : True := trivial
theorem A.tw18251455610491598297 : True := trivial
theorem A.tw18272282179467803961 : True := trivial
theorem A.tw18366248523328362812 : True := trivial
theorem A.tw18372935253766988584 : True := trivial
theorem A.tw1848788643357270234 : True := trivial
theorem A.tw1857497897089954606 : True := trivial
theorem A.tw1882485678071942688 : True := trivial
theorem A.tw1890348984136609126 : True := trivial
theorem A.tw1941937502131451318 : True := trivial
theorem A.tw1978263028780728743 : True := trivial
theorem A.tw1989584958251935626 : True := trivial
theorem A.tw1989681020099856581 : True := trivial
theorem A.tw1995052235986895560 : True := trivial
theorem A.tw2021334768612723253 : True := trivial
theorem A.tw2033709361202529910 : True := trivial
theorem A.tw2068095952898283249 : True := trivial
theorem A.tw2096321079000042813 : True := trivial
theorem A.tw2121679836130591182 : True := trivial
theorem A.tw2155076996935490513 : True := trivial
theorem A.tw2157620221401762600 : True := trivial
theorem A.tw229555187091518648 : True := trivial
theorem A.tw2302171872704932423 : True := trivial
theorem A.tw230719643355981704 : True := trivial
theorem A.tw233852822117997145 : True := trivial
theorem A.tw2343703721601032456 : True := trivial
theorem A.tw2453432458015146504 : True := trivial
theorem A.tw2498218675769655482 : True := trivial
theorem A.tw2626987849787342264 : True := trivial
theorem A.tw2650498732622703421 : True := trivial
theorem A.tw2691987867316795052 : True := trivial
theorem A.tw2704465089706716795 : True := trivial
theorem A.tw2719326401542931062 : True := trivial
theorem A.tw2738302439124239648 : True := trivial
theorem A.tw2794244015835466568 : True := trivial
theorem A.tw281312121101414765 : True := trivial
theorem A.tw2846676160279990293 : True := trivial
theorem A.tw2867448953391578550 : True := trivial
theorem A.tw290793765993549792 : True := trivial
theorem A.tw2983930941685541555 : True := trivial
theorem A.tw2986620743576821348 : True := trivial
theorem A.tw2990296663331124662 : True := trivial
theorem A.tw2994093271542915424 : True := trivial
theorem A.tw3001089778539913221 : True := trivial
theorem A.tw302016051254600017 : True := trivial
theorem A.tw302668335785087709 : True := trivial
theorem A.tw3034898434740506213 : True := trivial
theorem A.tw3060796935923001353 : True := trivial
theorem A.tw3103251571041700422 : True := trivial
theorem A.tw3103876832987870754 : True := trivial
theorem A.tw3144026583849049972 : True := trivial
theorem A.tw3152016977839566736 : True := trivial
theorem A.tw322010221257359560 : True := trivial
theorem A.tw3241095689136103988 : True := trivial
theorem A.tw3265121273768773025 : True := trivial
theorem A.tw3276922788982941814 : True := trivial
theorem A.tw3315877299916700816 : True := trivial
theorem A.tw332227564094166473 : True := trivial
theorem A.tw3387082644501678384 : True := trivial
theorem A.tw340161975755724998 : True := trivial
theorem A.tw341478566822719925 : True := trivial
theorem A.tw3427252344199117746 : True := trivial
theorem A.tw3455362176076280055 : True := trivial
theorem A.tw3522591381920636448 : True := trivial
theorem A.tw3525185211849331285 : True := trivial
theorem A.tw3531853567894826188 : True := trivial
theorem A.tw3558308169987851572 : True := trivial
theorem A.tw3566977455642383461 : True := trivial
theorem A.tw357549740246314947 : True := trivial
theorem A.tw3597207893216273645 : True := trivial
theorem A.tw3683637174161348509 : True := trivial
theorem A.tw3693375145720758667 : True := trivial
theorem A.tw3711944908718072746 : True := trivial
theorem A.tw3756379168132043198 : True := trivial
theorem A.tw3787196646587983723 : True := trivial
theorem A.tw3827510880450631956 : True := trivial
theorem A.tw3851507347041232047 : True := trivial
theorem A.tw3870514314323647179 : True := trivial
theorem A.tw397552376429756457 : True := trivial
theorem A.tw4003538837783809199 : True := trivial
theorem A.tw4096281004277565650 : True := trivial
theorem A.tw4142204089375440440 : True := trivial
theorem A.tw41467161542082443 : True := trivial
theorem A.tw4177491286777998250 : True := trivial
theorem A.tw4241463567310230257 : True := trivial
theorem A.tw4283187160794679355 : True := trivial
theorem A.tw4318359662433650853 : True := trivial
theorem A.tw4324975020755613165 : True := trivial
theorem A.tw4363507154648135753 : True := trivial
theorem A.tw442604470993400513 : True := trivial
theorem A.tw4476387939949685900 : True := trivial
theorem A.tw4495097246209251437 : True := trivial
theorem A.tw4578268429168223704 : True := trivial
theorem A.tw4581747767452299540 : True := trivial
theorem A.tw4588919097312896568 : True := trivial
theorem A.tw4601626554470748678 : True := trivial
theorem A.tw4601982294008917340 : True := trivial
theorem A.tw463229727475673333 : True := trivial
theorem A.tw4664349957502263005 : True := trivial
theorem A.tw4676781529247952531 : True := trivial
theorem A.tw4708313201835116548 : True := trivial
theorem A.tw4714456759454363153 : True := trivial
theorem A.tw4813540811399121240 : True := trivial
theorem A.tw4821854052742153661 : True := trivial
theorem A.tw4876279042700653 : True := trivial
theorem A.tw4912160966946978341 : True := trivial
theorem A.tw4913244045017263520 : True := trivial
theorem A.tw4938111933279912937 : True := trivial
theorem A.tw4942722097312869221 : True := trivial
theorem A.tw4948511072425908601 : True := trivial
theorem A.tw4963733813414692350 : True := trivial
theorem A.tw4986024064371678857 : True := trivial
theorem A.tw4995154887116759528 : True := trivial
theorem A.tw5021738518795588109 : True := trivial
theorem A.tw5026163348108221705 : True := trivial
theorem A.tw5044704966264099943 : True := trivial
theorem A.tw5063265584592608465 : True := trivial
theorem A.tw5067473193643472443 : True := trivial
theorem A.tw5100197160733989415 : True := trivial
theorem A.tw5135821422420049767 : True := trivial
theorem A.tw5141753246339041141 : True := trivial
theorem A.tw5145046979489060286 : True := trivial
theorem A.tw517391637356942978 : True := trivial
theorem A.tw5232294631958126339 : True := trivial
theorem A.tw5294602339387276445 : True := trivial
theorem A.tw5313523192416160052 : True := trivial
theorem A.tw5322700968422311472 : True := trivial
theorem A.tw5329886100434002191 : True := trivial
theorem A.tw5333213388882881414 : True := trivial
theorem A.tw5342078207762976328 : True := trivial
theorem A.tw5356475710577156502 : True := trivial
theorem A.tw5362117252743699964 : True := trivial
theorem A.tw5376474746746286626 : True := trivial
theorem A.tw5405975800759377696 : True := trivial
theorem A.tw5426125447679386644 : True := trivial
theorem A.tw5447429984653860870 : True := trivial
theorem A.tw546252540664836203 : True := trivial
theorem A.tw5465113280888568353 : True := trivial
theorem A.tw5491272723243818238 : True := trivial
theorem A.tw5522922830891960191 : True := trivial
theorem A.tw5525506619184209308 : True := trivial
theorem A.tw5558181821312234106 : True := trivial
theorem A.tw5596661095637165943 : True := trivial
theorem A.tw5609786825092685699 : True := trivial
theorem A.tw565024805516441454 : True := trivial
theorem A.tw5661212720337484705 : True := trivial
theorem A.tw5663125518234443012 : True := trivial
theorem A.tw569320996083047417 : True := trivial
theorem A.tw570599273892811136 : True := trivial
theorem A.tw5732411481989589454 : True := trivial
theorem A.tw5740182093048826336 : True := trivial
theorem A.tw5745949430111062186 : True := trivial
theorem A.tw5785287908296545557 : True := trivial
theorem A.tw578725537813546053 : True := trivial
theorem A.tw5873133099403595559 : True := trivial
theorem A.tw5885808011532980552 : True := trivial
theorem A.tw5891669589090673116 : True := trivial
theorem A.tw5964306485257880316 : True := trivial
theorem A.tw5976275392931216005 : True := trivial
theorem A.tw5991100614444472539 : True := trivial
theorem A.tw6073714590368113042 : True := trivial
theorem A.tw6075370937233167855 : True := trivial
theorem A.tw6081536174910290610 : True := trivial
theorem A.tw6145105265101424918 : True := trivial
theorem A.tw6148100849159943478 : True := trivial
theorem A.tw6148318766127819457 : True := trivial
theorem A.tw6167327907100800515 : True := trivial
theorem A.tw6174615397625764429 : True := trivial
theorem A.tw6180422979385777931 : True := trivial
theorem A.tw6200677353980987283 : True := trivial
theorem A.tw6229813349293771102 : True := trivial
theorem A.tw6352638602532022311 : True := trivial
theorem A.tw6402153540119456224 : True := trivial
theorem A.tw6414601312885482961 : True := trivial
theorem A.tw6426530911337749557 : True := trivial
theorem A.tw6448185719210057764 : True := trivial
theorem A.tw6468741206299424547 : True := trivial
theorem A.tw6468940820060667122 : True := trivial
theorem A.tw6475647610949480167 : True := trivial
theorem A.tw6502480036502485981 : True := trivial
theorem A.tw6518798166069976561 : True := trivial
theorem A.tw6542490134599160212 : True := trivial
theorem A.tw6549690930979339652 : True := trivial
theorem A.tw6550055961528863725 : True := trivial
theorem A.tw6632345203002116351 : True := trivial
theorem A.tw668457866403310422 : True := trivial
theorem A.tw6713707114120337353 : True := trivial
theorem A.tw6754069668726002468 : True := trivial
theorem A.tw6765051138570842040 : True := trivial
theorem A.tw6779176893993351 : True := trivial
theorem A.tw6801634708982509723 : True := trivial
theorem A.tw6802202167095752631 : True := trivial
theorem A.tw6805983509398822599 : True := trivial
theorem A.tw6833889667460942794 : True := trivial
theorem A.tw6869296924386542698 : True := trivial
theorem A.tw6875743677477454974 : True := trivial
theorem A.tw6911318377633560299 : True := trivial
theorem A.tw69259440045396363 : True := trivial
theorem A.tw7019732296079481987 : True := trivial
theorem A.tw7021984004230497101 : True := trivial
theorem A.tw7089000837978701949 : True := trivial
theorem A.tw7184847402537656951 : True := trivial
theorem A.tw7207417240860743663 : True := trivial
theorem A.tw727218913294293990 : True := trivial
theorem A.tw7273123470285882862 : True := trivial
theorem A.tw729612983677015548 : True := trivial
theorem A.tw7302889509745325350 : True := trivial
theorem A.tw7395539038209279507 : True := trivial
theorem A.tw7410570936850781706 : True := trivial
theorem A.tw7415098300063569896 : True := trivial
theorem A.tw7422551537154267925 : True := trivial
theorem A.tw747633730229003494 : True := trivial
theorem A.tw7555788288500834546 : True := trivial
theorem A.tw757410147631527221 : True := trivial
theorem A.tw7578311351047902286 : True := trivial
theorem A.tw7689528141724246599 : True := trivial
theorem A.tw7767305879533047990 : True := trivial
theorem A.tw7784331132069836346 : True := trivial
theorem A.tw7788861358757541700 : True := trivial
theorem A.tw7800310591332906236 : True := trivial
theorem A.tw7856020643645666245 : True := trivial
theorem A.tw7863794080286472452 : True := trivial
theorem A.tw7875639981601895420 : True := trivial
theorem A.tw7881348807825279512 : True := trivial
theorem A.tw7882389697036757160 : True := trivial
theorem A.tw7894559999750541928 : True := trivial
theorem A.tw7940554161576261857 : True := trivial
theorem A.tw7981049492782428448 : True := trivial
theorem A.tw7985751437379131891 : True := trivial
theorem A.tw7989747543591340807 : True := trivial
theorem A.tw8007522310385180039 : True := trivial
theorem A.tw8025421187048091372 : True := trivial
theorem A.tw8051648730566024701 : True := trivial
theorem A.tw808611013826683564 : True := trivial
theorem A.tw8107739916254605040 : True := trivial
theorem A.tw8110313385410489805 : True := trivial
theorem A.tw8124276655620397586 : True := trivial
theorem A.tw8174073653292924972 : True := trivial
theorem A.tw8224758442933862661 : True := trivial
theorem A.tw8255354749423965772 : True := trivial
theorem A.tw8258908346934067610 : True := trivial
theorem A.tw8268692081168693369 : True := trivial
theorem A.tw8324415286953085957 : True := trivial
theorem A.tw8387316399447734064 : True := trivial
theorem A.tw8431199786579120263 : True := trivial
theorem A.tw8437942734809108490 : True := trivial
theorem A.tw8442281297758624122 : True := trivial
theorem A.tw8470089090482493528 : True := trivial
theorem A.tw8510242198634029530 : True := trivial
theorem A.tw8543628141363716316 : True := trivial
theorem A.tw8603494004865984291 : True := trivial
theorem A.tw8622490268207807038 : True := trivial
theorem A.tw8627900308243942073 : True := trivial
theorem A.tw8634840584588412540 : True := trivial
theorem A.tw8639361828474849301 : True := trivial
theorem A.tw8651708485334460258 : True := trivial
theorem A.tw8739021578403187269 : True := trivial
theorem A.tw8763866945861171675 : True := trivial
theorem A.tw8781410483228315553 : True := trivial
theorem A.tw8809495626711171035 : True := trivial
theorem A.tw8827216752121748883 : True := trivial
theorem A.tw8836011190742962181 : True := trivial
theorem A.tw8849408868955199120 : True := trivial
theorem A.tw888164528164302253 : True := trivial
theorem A.tw8887591926954186818 : True := trivial
theorem A.tw888906988712513282 : True := trivial
theorem A.tw890882281269897351 : True := trivial
theorem A.tw892802988501306937 : True := trivial
theorem A.tw8932079608749711352 : True := trivial
theorem A.tw8991393393144275178 : True := trivial
theorem A.tw9007505359280877524 : True := trivial
theorem A.tw904050510047792493 : True := trivial
theorem A.tw9052406537778684019 : True := trivial
theorem A.tw9059722746389179260 : True := trivial
theorem A.tw9067454957540896269 : True := trivial
theorem A.tw9110278445771817543 : True := trivial
theorem A.tw9111376605082624861 : True := trivial
theorem A.tw911150015966983538 : True := trivial
theorem A.tw9140186190471281412 : True := trivial
theorem A.tw917891835049747375 : True := trivial
theorem A.tw9194577319213030251 : True := trivial
theorem A.tw9194727271225694402 : True := trivial
theorem A.tw9387637107894843904 : True := trivial
theorem A.tw9391394383717131108 : True := trivial
theorem A.tw9489363944639135692 : True := trivial
theorem A.tw955040287796916085 : True := trivial
theorem A.tw9570166199797422820 : True := trivial
theorem A.tw9587895488526826239 : True := trivial
theorem A.tw9596116689226838689 : True := trivial
theorem A.tw965040345084606948 : True := trivial
theorem A.tw966069312818546542 : True := trivial
theorem A.tw9661235906119300052 : True := trivial
theorem A.tw970233873283155555 : True := trivial
theorem A.tw9728050766246559140 : True := trivial
theorem A.tw9728843627108605995 : True := trivial
theorem A.tw9744780006082562904 : True := trivial
theorem A.tw9777228407585520658 : True := trivial
theorem A.tw9851222564256179563 : True := trivial
theorem A.tw9932821238158273799 : True := trivial
theorem A.tw9951386245276991990 : True := trivial
theorem A.tw9974519379101544631 : True := trivial
theorem A.tw9996034907989314055 : True := trivial
theorem A.tw15537491124474475108 : True := trivial
set_option maxHeartbeats 8000000 in
set_option Elab.async true in
theorem A : PySem.Challenge.rw_og0100_01.Holds := by
  w_on
  o_law
  o_head (kHook Z.heap_1 [2, 3, 15, 17, 18, 20, 21, 22, 29, 30, 31, 33, 34, 36, 37, 38, 40, 41, 43, 44, 45, 46, 47, 48, 51, 58, 59, 60, 63, 70, 71, 72, 75, 82, 83, 84, 94, 96, 97, 99, 100, 101, 103, 104, 106, 107, 108, 110, 111, 113, 114, 115, 116, 117, 118, 119, 129, 131, 132, 134, 135, 136, 138, 139, 141, 142, 143, 144, 145, 146, 147, 150, 152, 153, 155, 156, 157, 159, 160, 162, 163, 164, 167, 168, 169, 171, 172, 174, 175, 176, 178, 179, 181, 182, 183, 185, 186, 188, 189, 190, 193, 194, 195, 197, 198, 200, 201, 202, 204, 205, 207, 208, 209, 211, 212, 214, 215, 216, 217, 220, 221, 222, 223, 225, 226, 228, 229, 237, 238, 239, 241, 242, 244, 245, 246, 248, 249, 251, 252, 253, 254, 255, 256, 257, 260, 262, 263, 265, 266, 267, 270, 271, 272, 274, 275, 277, 278, 279, 281, 282, 284, 285, 286, 288, 289, 291, 292, 293, 295, 296, 298, 299, 300, 302, 303, 305, 306, 307, 309, 310, 312, 313, 314, 316, 317, 319, 320, 321, 324, 325, 326, 328, 329, 331, 332, 333, 335, 336, 338, 339, 340, 342, 343, 345, 346, 347, 349, 350, 352, 353, 354, 356, 357, 359, 360, 361, 363, 364, 366, 367, 368, 370, 371, 373, 374, 375, 377, 378, 380, 381, 382, 384, 385, 387, 388, 389, 391, 392, 394, 395, 396, 398, 399, 401, 402, 410, 411, 413, 414, 416, 417, 418, 420, 421, 423, 424, 425, 427, 428, 430, 431, 432, 434, 435, 437, 438, 439, 441, 442, 444, 445, 446, 448, 449, 451, 452, 453, 455, 456, 458, 459, 460, 462, 463, 465, 466, 467, 468, 469, 470, 471, 474, 476, 477, 479, 480, 481, 483, 484, 486, 487, 488, 490, 491, 493, 494, 495, 497, 498, 500, 501, 502, 504, 505, 507, 508, 509, 511, 512, 514, 515, 516, 518, 519, 521, 522, 523, 525, 526, 528, 529, 530, 532, 533, 535, 536, 537, 539, 540, 542, 543, 544, 546, 547, 549, 550, 551, 553, 554, 556, 557, 558, 560, 561, 563, 564, 565, 567, 568, 570, 571, 572, 573, 575, 576, 578, 579, 580, 583, 584, 585, 587, 588, 590, 591, 592, 595, 596, 597, 599, 600, 602, 603, 604, 606, 607, 609, 610, 611, 613, 614, 616, 617, 618, 620, 621, 623, 624, 625, 628, 629, 630, 633, 634, 635, 637, 638, 640, 641, 642, 645, 646, 647, 650, 651, 652, 655, 656] (fun _ => by kernel_rfl))
  (case hw => w_witness2)
  intro w s₀ s₁ mg mb G Y fa o pm cd doc dV kV ho hd hcd hD hmg hg args vals as hpre hlay hrd hwl hlo
  have KX := kIn_of Y
  refine Ground.open G ?_
  intro T B D TE TW
  have TR := topRead_of T
  clear hd hcd hD T B D TE TW G Y ho
  wrow_args hpre hlay hrd hwl hlo
  refine enter_call ?_
  refine codeAny_mono (run_law KX TR hmg hg (by assumption) (by assumption) (by omega)) ?_
  rintro res s' ⟨rfl, h1, h2, h3⟩
  exact ⟨.inl ⟨_, _, _, rfl, fun _ => rfl, .bool true, (by wrow_post), fun _ => ⟨List.nodup_nil, fun _ h => (nomatch h)⟩⟩, .of_keep h1, h2, .of_eq h3⟩
end Mine
theorem PySem.Challenge.cw_og0100_01_holds : PySem.Challenge.rw_og0100_01.Holds :=
  Mine.A
