import PyProof.Rows.All
import Wide.All
import OpenK.AllK
import Wide.FinOn
import KE.KRevSl
import KE.KPopAny
import KE.KTup
import KE.RegKIsAll
import KE.KSorted
import KE.KSlice
import Open.Line
import PySem.Challenge.RW_pc0075_01
set_option Elab.async false
set_option maxRecDepth 100000
set_option maxHeartbeats 0
set_option linter.all false
set_option bootstrap.genMatcherCode false
set_option genSizeOf false
set_option genSizeOfSpec false
set_option genInjectivity false
section
open PySem
namespace Mine

/-! An evaluator of our own: values and objects without addresses and tokens. A list is kept with its last item first. -/
inductive V where
  | none | bool (b : Bool) | int (i : Int) | cg (m r : Nat) | str (s : Str) | ref (i : Nat) | nd (i : Nat) | top (a : Nat) | ty (n : String) | bi (n : String)
inductive O where
  | list (xs : List V) | tup (xs : List V) | inst (C d : Nat) | dict (es : List (Str × V)) | rng (b : Int)
-- what a for loop goes through, and how far it is
inductive Src where
  | list (l : V) (pos : Nat) | tup (l : V) (pos : Nat) | str (s : Str) (pos : Nat) | rng (x left : Int)
structure C where
  H : List O
  loc : List (Str × V)
inductive Ans where
  | v (v : V) | b (b : Bool) | n | r (v : V) | vs (l : List V)
inductive Rs where
  | ok (a : Ans) (c : C) | exc (cls d : Nat) (c : C)
inductive T where
  | ex (e : PySem.Expr) | exs (es : List PySem.Expr) | tr (e : PySem.Expr) | trs (op : BoolOp) (es : List PySem.Expr) | st (s : PySem.Stmt) | sts (ss : List PySem.Stmt)
  | call (f : Nat) (args : List V) | wh (test : PySem.Expr) (body : List PySem.Stmt) | fo (target : PySem.Expr) (src : Src) (body : List PySem.Stmt)

structure Fn where
  params : Arguments
  body : List PySem.Stmt
  scope : Scope

structure Tops where
  fn : Nat → Option Fn
  glob : Str → Option V
  obj : Nat → Option O
  meth : Nat → Str → Option Nat
  init : Nat → Option Nat
  gets : Nat → Str → Bool
  sets : Nat → Str → Bool

noncomputable def eqL : List Nat → List Nat → Bool
  | [], [] => true
  | a :: x, b :: y => match Nat.beq a b with
    | true => eqL x y
    | false => false
  | _, _ => false
noncomputable def eqS (x y : Str) : Bool := eqL x.cps.toList y.cps.toList
theorem eqL_iff : ∀ {x y : List Nat}, eqL x y = true ↔ x = y
  | [], [] => by simp [eqL]
  | [], _ :: _ => by simp [eqL]
  | _ :: _, [] => by simp [eqL]
  | a :: x, b :: y => by
    unfold eqL
    cases h : Nat.beq a b with
    | true => rw [List.cons.injEq, Nat.eq_of_beq_eq_true h]; simpa using eqL_iff
    | false =>
      have : a ≠ b := fun e => by subst e; rw [Nat.beq_refl] at h; cases h
      simp [this]
theorem eqS_iff {x y : Str} : eqS x y = true ↔ x = y := by
  unfold eqS
  rw [eqL_iff]
  constructor
  · intro h; cases x; cases y; exact congrArg Str.mk (Array.ext' h)
  · intro h; rw [h]
theorem eqS_beq (x y : Str) : eqS x y = (x == y) := by
  rw [Bool.eq_iff_iff, eqS_iff, beq_iff_eq]

noncomputable def lk (x : Str) : List (Str × V) → Option V
  | [] => .none
  | p :: r => match eqS p.1 x with
    | true => some p.2
    | false => lk x r
noncomputable def st (x : Str) (v : V) : List (Str × V) → List (Str × V)
  | [] => [(x, v)]
  | p :: r => match eqS p.1 x with
    | true => (p.1, v) :: r
    | false => p :: st x v r

noncomputable def C.get (t : Tops) (c : C) : V → Option O
  | .ref i => c.H[i]?
  | .top a => t.obj a
  | _ => .none
noncomputable def C.set (c : C) (i : Nat) (o : O) : C := { c with H := c.H.set i o }
noncomputable def C.new (c : C) (o : O) : C := { c with H := c.H ++ [o] }
noncomputable def C.put (c : C) (x : Str) (v : V) : C := { c with loc := st x v c.loc }

noncomputable def isIn (x : Str) : List V → Option Bool
  | [] => some false
  | .str y :: r => match isIn x r with
    | some b => some (eqS y x || b)
    | .none => .none
  | _ => .none
noncomputable def isNone : V → Option Bool
  | .none => some true
  | .bi _ => .none
  | _ => some false

noncomputable def onPair (a b : V) (f : Int → Int → Option Bool) (g : Str → Str → Option Bool) : Option Bool := match a with
  | .int i => match b with
    | .int j => f i j
    | _ => .none
  | .str x => match b with
    | .str y => g x y
    | _ => .none
  | _ => .none
theorem onPair_some {a b : V} {f : Int → Int → Option Bool} {g : Str → Str → Option Bool} {r : Bool} (h : onPair a b f g = some r) : (∃ i j, a = .int i ∧ b = .int j ∧ f i j = some r) ∨ ∃ x y, a = .str x ∧ b = .str y ∧ g x y = some r := by
  cases a <;> first | (cases h; done) | skip
  · cases b <;> first | (cases h; done) | exact .inl ⟨_, _, rfl, rfl, h⟩
  · cases b <;> first | (cases h; done) | exact .inr ⟨_, _, rfl, rfl, h⟩
noncomputable def onStr {α : Type} (a : V) (g : Str → Option α) : Option α := match a with
  | .str x => g x
  | _ => .none
theorem onStr_some {α : Type} {a : V} {g : Str → Option α} {r : α} (h : onStr a g = some r) : ∃ x, a = .str x ∧ g x = some r := by
  cases a <;> first | (cases h; done) | exact ⟨_, rfl, h⟩
noncomputable def onRef {α : Type} (a : V) (g : Nat → Option α) : Option α := match a with
  | .ref x => g x
  | _ => .none
theorem onRef_some {α : Type} {a : V} {g : Nat → Option α} {r : α} (h : onRef a g = some r) : ∃ x, a = .ref x ∧ g x = some r := by
  cases a <;> first | (cases h; done) | exact ⟨_, rfl, h⟩
noncomputable def onInts {α : Type} (a b : V) (g : Int → Int → Option α) : Option α := match a with
  | .int i => match b with
    | .int j => g i j
    | _ => .none
  | _ => .none
theorem onInts_some {α : Type} {a b : V} {g : Int → Int → Option α} {r : α} (h : onInts a b g = some r) : ∃ i j, a = .int i ∧ b = .int j ∧ g i j = some r := by
  cases a <;> first | (cases h; done) | skip
  cases b <;> first | (cases h; done) | exact ⟨_, _, rfl, rfl, h⟩
noncomputable def onNo {α : Type} (b : V) (o : Option α) : Option α := match b with
  | .none => o
  | _ => .none
theorem onNo_some {α : Type} {b : V} {o : Option α} {r : α} (h : onNo b o = some r) : b = .none ∧ o = some r := by
  cases b <;> first | (cases h; done) | exact ⟨rfl, h⟩
noncomputable def onInt {α : Type} (a : V) (g : Int → Option α) : Option α := match a with
  | .int x => g x
  | _ => .none
theorem onInt_some {α : Type} {a : V} {g : Int → Option α} {r : α} (h : onInt a g = some r) : ∃ x, a = .int x ∧ g x = some r := by
  cases a <;> first | (cases h; done) | exact ⟨_, rfl, h⟩
noncomputable def arg1 {α : Type} (l : List V) (g : V → Option α) : Option α := match l with
  | [v] => g v
  | _ => .none
theorem arg1_some {α : Type} {l : List V} {g : V → Option α} {r : α} (h : arg1 l g = some r) : ∃ x, l = [x] ∧ g x = some r := by
  rcases l with _ | ⟨a, _ | ⟨b, l⟩⟩ <;> first | (cases h; done) | exact ⟨_, rfl, h⟩
noncomputable def arg2 {α : Type} (l : List V) (g : V → V → Option α) : Option α := match l with
  | [v, w] => g v w
  | _ => .none
theorem arg2_some {α : Type} {l : List V} {g : V → V → Option α} {r : α} (h : arg2 l g = some r) : ∃ x y, l = [x, y] ∧ g x y = some r := by
  rcases l with _ | ⟨a, _ | ⟨b, _ | ⟨d, l⟩⟩⟩ <;> first | (cases h; done) | exact ⟨_, _, rfl, h⟩
noncomputable def inTab (t : Tops) (c : C) (x : Str) (v : V) : Option Bool := match c.get t v with
  | some (.tup xs) => isIn x xs
  | some (.dict es) => some (lk x es).isSome
  | _ => .none
noncomputable def notInTab (t : Tops) (c : C) (x : Str) (v : V) : Option Bool := match c.get t v with
  | some (.tup xs) => (isIn x xs).map (!·)
  | _ => .none
noncomputable def inV (t : Tops) (c : C) (x : Str) (b : V) : Option Bool := match b with
  | .str y => some !(Builtin.Str.occurrences y x 0 y.length 1).isEmpty
  | v => inTab t c x v
noncomputable def neLists (c : C) (i j : Nat) : Option Bool := match Nat.beq i j with
  | true => .none
  | false => match c.H[i]?, c.H[j]? with
    | some (.list []), some (.list []) => some false
    | _, _ => .none
noncomputable def neV (c : C) (a b : V) : Option Bool := match a with
  | .ref i => onRef b fun j => neLists c i j
  | a => onPair a b (fun i j => some (!decide (i = j))) fun x y => some (!eqS x y)
noncomputable def cmpV (t : Tops) (c : C) (op : CmpOp) (a b : V) : Option Bool :=
  match op with
  | .Eq => onPair a b (fun i j => some (decide (i = j))) fun x y => some (eqS x y)
  | .NotEq => neV c a b
  | .Lt => onPair a b (fun i j => some (decide (i < j))) fun _ _ => .none
  | .LtE => onPair a b (fun i j => some (decide (i ≤ j))) fun x y => some (!decide (y.cps.toList < x.cps.toList))
  | .Gt => onPair a b (fun i j => some (decide (j < i))) fun _ _ => .none
  | .Is => onNo b (isNone a)
  | .IsNot => onNo b ((isNone a).map (!·))
  | .In => onStr a fun x => inV t c x b
  | .NotIn => onStr a fun x => notInTab t c x b
  | _ => .none

noncomputable def small (i : Int) : Bool := decide (-(2 ^ 40) < i) && decide (i < 2 ^ 40)
noncomputable def addI (i : Int) (b : V) : Option V := match b with
  | .int j => some (.int (i + j))
  | .cg m r => if 0 < m then some (.cg m ((i + r).fmod m).toNat) else .none
  | _ => .none
noncomputable def addV (a b : V) : Option V := match a with
  | .int i => addI i b
  | .str x => onStr b fun y => if x.length + y.length ≤ 1000 then some (.str (x ++ y)) else .none
  | _ => .none
noncomputable def modV (a b : V) : Option V := match a with
  | .cg m r => match b with
    | .int j => if j = (m : Int) ∧ 0 < m then some (.int r) else .none
    | _ => .none
  | a => onInts a b fun i j => if 0 < j then some (.int (i.fmod j)) else .none
noncomputable def binV (op : Operator) (a b : V) : Option V :=
  match op with
  | .Add => addV a b
  | .Sub => onInts a b fun i j => some (.int (i - j))
  | .Mult => onInts a b fun i j => if small i && small j then some (.int (i * j)) else .none
  | .Mod => modV a b
  | _ => .none

noncomputable def noBi : V → Bool
  | .bi _ => false
  | _ => true
noncomputable def getA (t : Tops) (c : C) (v : V) (a : Str) : Option V :=
  match v with
  | .ref i => match c.H[i]? with
    | some (.inst C d) => match t.gets C a with
      | true => match c.H[d]? with
        | some (.dict es) => match lk a es with
          | some w => match noBi w with
            | true => some w
            | false => .none
          | .none => .none
        | _ => .none
      | false => .none
    | _ => .none
  | _ => .none
noncomputable def setA (t : Tops) (c : C) (v : V) (a : Str) (x : V) : Option C :=
  match v with
  | .ref i => match c.H[i]? with
    | some (.inst C d) => match t.sets C a with
      | true => match c.H[d]? with
        | some (.dict es) => match Nat.blt es.length 50 with
          | true => some (c.set d (.dict (st a x es)))
          | false => .none
        | _ => .none
      | false => .none
    | _ => .none
  | _ => .none

noncomputable def itemV (t : Tops) (c : C) (v i : V) : Option V :=
  match i with
  | .int (.ofNat k) => match v with
    | .str s => match Nat.blt s.cps.toList.length 1000 with
      | true => (s.cps.toList[k]?).map fun x => .str ⟨#[x]⟩
      | false => .none
    | v => match c.get t v with
      | some (.tup xs) => match Nat.blt xs.length 1000 with
        | true => xs[k]?
        | false => .none
      | some (.list xs) => match Nat.blt xs.length 1000 with
        | true => xs.reverse[k]?
        | false => .none
      | _ => .none
  | .str k => match c.get t v with
    | some (.dict es) => lk k es
    | _ => .none
  | _ => .none

noncomputable abbrev Rec := Nat → Scope → T → C → Option Rs
noncomputable def onV (r : Option Rs) (k : V → C → Option Rs) : Option Rs := match r with
  | some (.ok (.v v) c) => k v c
  | some (.exc a b c) => some (.exc a b c)
  | _ => .none
noncomputable def onB (r : Option Rs) (k : Bool → C → Option Rs) : Option Rs := match r with
  | some (.ok (.b v) c) => k v c
  | some (.exc a b c) => some (.exc a b c)
  | _ => .none
noncomputable def onVs (r : Option Rs) (k : List V → C → Option Rs) : Option Rs := match r with
  | some (.ok (.vs v) c) => k v c
  | some (.exc a b c) => some (.exc a b c)
  | _ => .none
noncomputable def onN (r : Option Rs) (k : C → Option Rs) : Option Rs := match r with
  | some (.ok .n c) => k c
  | some (.ok (.r v) c) => some (.ok (.r v) c)
  | some (.exc a b c) => some (.exc a b c)
  | _ => .none
noncomputable def val (v : V) (c : C) : Option Rs := some (.ok (.v v) c)
noncomputable def valO (v : Option V) (c : C) : Option Rs := match v with
  | some v => some (.ok (.v v) c)
  | .none => .none
noncomputable def valN (c : C) (o : O) : Option Rs := some (.ok (.v (.ref c.H.length)) (c.new o))
end Mine

end
section
open PySem PySem.W PySem.Calls PyProof.Rows PySem.Spec
namespace Mine

inductive F2 {α β : Type} (R : α → β → Prop) : List α → List β → Prop
  | nil : F2 R [] []
  | cons {a b x y} : R a b → F2 R x y → F2 R (a :: x) (b :: y)
namespace F2
variable {α β : Type} {R R' : α → β → Prop}
theorem mono (h : ∀ a b, R a b → R' a b) : ∀ {x : List α} {y : List β}, F2 R x y → F2 R' x y
  | _, _, .nil => .nil
  | _, _, .cons r t => .cons (h _ _ r) (mono h t)
theorem length : ∀ {x : List α} {y : List β}, F2 R x y → x.length = y.length
  | _, _, .nil => rfl
  | _, _, .cons _ t => congrArg (· + 1) (length t)
theorem append : ∀ {x x' : List α} {y y' : List β}, F2 R x y → F2 R x' y' → F2 R (x ++ x') (y ++ y')
  | _, _, _, _, .nil, h => h
  | _, _, _, _, .cons r t, h => .cons r (append t h)
theorem reverse : ∀ {x : List α} {y : List β}, F2 R x y → F2 R x.reverse y.reverse
  | _, _, .nil => .nil
  | _, _, .cons r t => by rw [List.reverse_cons, List.reverse_cons]; exact append (reverse t) (.cons r .nil)
theorem get : ∀ {x : List α} {y : List β}, F2 R x y → ∀ {i : Nat} {a : α}, x[i]? = some a → ∃ b, y[i]? = some b ∧ R a b
  | _, _, .nil, _, _, h => by simp at h
  | _, _, .cons r t, 0, _, h => by simp at h; subst h; exact ⟨_, rfl, r⟩
  | _, _, .cons r t, i + 1, _, h => by
    rw [List.getElem?_cons_succ] at h ⊢
    exact get t h
theorem get' : ∀ {x : List α} {y : List β}, F2 R x y → ∀ {i : Nat} {b : β}, y[i]? = some b → ∃ a, x[i]? = some a ∧ R a b
  | _, _, .nil, _, _, h => by simp at h
  | _, _, .cons r t, 0, _, h => by simp at h; subst h; exact ⟨_, rfl, r⟩
  | _, _, .cons r t, i + 1, _, h => by
    rw [List.getElem?_cons_succ] at h ⊢
    exact get' t h
theorem set : ∀ {x : List α} {y : List β}, F2 R x y → ∀ {i : Nat} {a : α} {b : β}, R a b → F2 R (x.set i a) (y.set i b)
  | _, _, .nil, _, _, _, _ => .nil
  | _, _, .cons r t, 0, _, _, h => .cons h t
  | _, _, .cons r t, i + 1, _, _, h => .cons r (set t h)
end F2

structure Cx where
  prog : Program
  w : World
  K : Frag
  loose : List Str
  mg : Str → Option Value
  mb : Str → Option Value
  base : Heap
  nd : List Addr
  g : Array GenState
  dr : Drawn
  os : OsState
  t : Tops

section
variable (X : Cx)
noncomputable def VR (as : List Addr) : V → Value → Prop
  | .none, u => u = .none
  | .bool b, u => u = .bool b
  | .int i, u => ∃ t, u = .int i t
  | .cg m r, u => ∃ i t, u = .int i t ∧ i.fmod m = r
  | .str s, u => ∃ t, u = .str s t
  | .ref i, u => ∃ a, as[i]? = some a ∧ u = .ref a
  | .nd i, u => ∃ a, X.nd[i]? = some a ∧ u = .ref a
  | .top a, u => u = .ref a
  | .ty n, u => u = .type n
  | .bi n, u => u = .builtin n
noncomputable def ER (as : List Addr) (p : Str × V) (e : DictEntry) : Prop := (∃ t, e.key = .str p.1 t) ∧ e.hash = PyData.keyHash X.w.params p.1 ∧ VR X as p.2 e.val
noncomputable def OR (as : List Addr) : O → Obj → Prop
  | .list xs, o => ∃ (ys : List Value) (n : Nat), o = listOf ys.toArray n ∧ F2 (VR X as) xs.reverse ys
  | .tup xs, o => ∃ (ys : List Value) (n : Nat), o = { cls := .type "tuple", data := .seq ys.toArray n } ∧ F2 (VR X as) xs ys
  | .inst C d, o => ∃ dx, as[d]? = some dx ∧ o = instObj C dx
  | .dict es, o => ∃ (ds : List DictEntry) (n : Nat), o = dictOf ds n ∧ F2 (ER X as) es ds
  | .rng b, o => ∃ t u v, o = { cls := .type "range", dict := none, data := .fields #[.int 0 t, .int b u, .int 1 v], slots := #[] }
noncomputable def HR (as : List Addr) (H : List O) (objs : List (Addr × Obj)) : Prop := objs.map (·.1) = as ∧ F2 (fun O p => OR X as O p.2) H objs
noncomputable def LR (as : List Addr) (loc : List (Str × V)) (m : Str → Option Value) : Prop := ∀ x v, lk x loc = some v → ∃ u, m x = some u ∧ VR X as v u

noncomputable def NdOk (rest : List (Addr × Obj)) : Prop := ∀ a ∈ X.nd, ∃ dx od, (a, instObj 31 dx) ∈ rest ∧ (dx, od) ∈ rest
structure St (h₀ : Heap) (L : Addr) (rest : List (Addr × Obj)) (as : List Addr) (c : C) (s : Shared) : Prop where
  ex : ∃ m objs, Fr h₀ L s.heap m ∧ News h₀ L s.heap (objs ++ rest) ∧ ((objs ++ rest).map (·.1)).Nodup ∧ HR X as c.H objs ∧ LR X as c.loc m
  nds : NdOk X rest
  sh : s.gens = X.g ∧ s.drawn = X.dr ∧ s.os = X.os

/-- What stands ready when a frame of `d` more calls to come is at work. -/
structure Sit (d : Nat) (A : Around) (sc : Scope) (env : Env) (h₀ : Heap) (L : Addr) : Prop where
  below : ∃ A₀ outer, Below A₀ X.base outer h₀ ∧ A.frames = some (env :: outer)
  envis : ∃ nm a cd, env = envOf nm sc L a cd
  kind : sc.kind = .function
  stays : X.base.StaysIn h₀
  depth : A.depth + 2 * d + 2 < recursionLimit
  units : A.units + 20 * d + 100 < cLine
  handled : A.handled = none
  K : X.K.In h₀
  T : TopRead X.prog X.loose X.mg X.mb h₀
end

variable {X : Cx} {as as' : List Addr}
noncomputable abbrev Ext (as as' : List Addr) : Prop := as <+: as'
theorem Ext.at (h : Ext as as') {i : Nat} {a : Addr} (e : as[i]? = some a) : as'[i]? = some a := by
  obtain ⟨r, rfl⟩ := h
  have := (List.getElem?_eq_some_iff.mp e).1
  rw [List.getElem?_append_left this]; exact e
theorem VR.ext (x : Ext as as') : ∀ {v : V} {u : Value}, VR X as v u → VR X as' v u := by
  intro v u h
  cases v <;> first | exact h | exact (let ⟨a, e, q⟩ := h; ⟨a, x.at e, q⟩)
theorem ER.ext (x : Ext as as') {p : Str × V} {e : DictEntry} (h : ER X as p e) : ER X as' p e := ⟨h.1, h.2.1, h.2.2.ext x⟩
theorem OR.ext (x : Ext as as') : ∀ {v : O} {u : Obj}, OR X as v u → OR X as' v u := by
  intro v u h
  cases v with
  | list xs => obtain ⟨ys, n, e, f⟩ := h; exact ⟨ys, n, e, f.mono fun _ _ r => r.ext x⟩
  | tup xs => obtain ⟨ys, n, e, f⟩ := h; exact ⟨ys, n, e, f.mono fun _ _ r => r.ext x⟩
  | inst C d => obtain ⟨dx, e, q⟩ := h; exact ⟨dx, x.at e, q⟩
  | dict es => obtain ⟨ds, n, e, f⟩ := h; exact ⟨ds, n, e, f.mono fun _ _ r => r.ext x⟩
  | rng b => exact h
theorem LR.ext (x : Ext as as') {loc : List (Str × V)} {m : Str → Option Value} (h : LR X as loc m) : LR X as' loc m := fun y v e => let ⟨u, q, r⟩ := h y v e; ⟨u, q, r.ext x⟩
theorem Ext.refl (as : List Addr) : Ext as as := List.prefix_refl as
theorem Ext.trans {a b c : List Addr} (x : Ext a b) (y : Ext b c) : Ext a c := List.IsPrefix.trans x y
theorem Ext.push (as : List Addr) (a : Addr) : Ext as (as ++ [a]) := List.prefix_append as [a]

theorem lk_st (x y : Str) (v : V) : ∀ loc : List (Str × V), lk y (st x v loc) = if y = x then some v else lk y loc
  | [] => by
    show (match eqS x y with | true => some v | false => none) = _
    by_cases h : y = x
    · subst h; rw [eqS_iff.mpr rfl]; simp
    · have : eqS x y = false := by rw [Bool.eq_false_iff]; exact fun e => h (eqS_iff.mp e).symm
      rw [this, if_neg h]; rfl
  | (z, u) :: r => by
    unfold st
    by_cases hz : z = x
    · subst hz
      rw [eqS_iff.mpr rfl]
      show (match eqS z y with | true => some v | false => lk y r) = if y = z then some v else (match eqS z y with | true => some u | false => lk y r)
      by_cases h : y = z
      · subst h; rw [eqS_iff.mpr rfl, if_pos rfl]
      · have : eqS z y = false := by rw [Bool.eq_false_iff]; exact fun e => h (eqS_iff.mp e).symm
        rw [this, if_neg h]
    · have e1 : eqS z x = false := by rw [Bool.eq_false_iff]; exact fun e => hz (eqS_iff.mp e)
      rw [e1]
      show (match eqS z y with | true => some u | false => lk y (st x v r)) = if y = x then some v else (match eqS z y with | true => some u | false => lk y r)
      by_cases h : y = z
      · subst h; rw [eqS_iff.mpr rfl, if_neg hz]
      · have : eqS z y = false := by rw [Bool.eq_false_iff]; exact fun e => h (eqS_iff.mp e).symm
        rw [this]; exact lk_st x y v r
theorem LR.put {loc : List (Str × V)} {m : Str → Option Value} (h : LR X as loc m) {x : Str} {v : V} {u : Value} (r : VR X as v u) : LR X as (st x v loc) (fun y => if y = x then some u else m y) := by
  intro y w e
  rw [lk_st] at e
  by_cases hy : y = x
  · rw [if_pos hy] at e; cases e; exact ⟨u, if_pos hy, r⟩
  · rw [if_neg hy] at e
    obtain ⟨u', q, r'⟩ := h y w e
    exact ⟨u', (if_neg hy).trans q, r'⟩

section
variable {h₀ : Heap} {L : Addr} {rest : List (Addr × Obj)} {c : C} {s : Shared}
theorem St.toks (S : St X h₀ L rest as c s) (n : Nat) : St X h₀ L rest as c { s with toks := n } := ⟨S.ex, S.nds, S.sh⟩

theorem HR.at {H : List O} {objs : List (Addr × Obj)} (h : HR X as H objs) {i : Nat} {o : O} {a : Addr} (e : H[i]? = some o) (q : as[i]? = some a) : ∃ ob, objs[i]? = some (a, ob) ∧ OR X as o ob := by
  obtain ⟨p, hp, r⟩ := h.2.get e
  obtain ⟨b, ob⟩ := p
  have : as[i]? = some b := by rw [← h.1, List.getElem?_map, hp]; rfl
  rw [q] at this; cases this
  exact ⟨ob, hp, r⟩

theorem St.here (S : St X h₀ L rest as c s) {i : Nat} {o : O} {a : Addr} (e : c.H[i]? = some o) (q : as[i]? = some a) : ∃ ob, s.heap.get? a = some ob ∧ OR X as o ob := by
  obtain ⟨m, objs, F, N, nd, hH, hL⟩ := S.ex
  obtain ⟨ob, hm, r⟩ := hH.at e q
  exact ⟨ob, N.get (List.mem_append.mpr (.inl (List.mem_of_getElem? hm))), r⟩

theorem upd_at {D : Addr} {o o' : Obj} : ∀ {news : List (Addr × Obj)} {i : Nat}, news[i]? = some (D, o) → (news.map (·.1)).Nodup → Upd D o o' news (news.set i (D, o'))
  | [], _, h, _ => by simp at h
  | p :: r, 0, h, nd => by
    simp at h; subst h
    rw [List.map_cons, List.nodup_cons] at nd
    refine .head fun q hq e => nd.1 ?_
    have := List.mem_map_of_mem (f := (·.1)) hq
    rw [← e]; exact this
  | p :: r, i + 1, h, nd => by
    rw [List.getElem?_cons_succ] at h
    rw [List.map_cons, List.nodup_cons] at nd
    refine .tail (fun e => nd.1 ?_) (upd_at h nd.2)
    have := List.mem_map_of_mem (f := (·.1)) (List.mem_of_getElem? h)
    rw [e]; exact this

theorem keys_set {D : Addr} {o o' : Obj} : ∀ {news : List (Addr × Obj)} {i : Nat}, news[i]? = some (D, o) → (news.set i (D, o')).map (·.1) = news.map (·.1)
  | [], _, h => by simp at h
  | p :: r, 0, h => by simp at h; subst h; rfl
  | p :: r, i + 1, h => by rw [List.getElem?_cons_succ] at h; rw [List.set_cons_succ, List.map_cons, List.map_cons, keys_set h]

/-- A new object at the end of the heap. -/
theorem mk_alloc {m : Str → Option Value} {objs : List (Addr × Obj)} (S : St X h₀ L rest as c s) (nd : ((objs ++ rest).map (·.1)).Nodup) (hH : HR X as c.H objs) (hL : LR X as c.loc m) {h' : Heap} {n : Nat} {a : Addr} {ob : Obj} {o : O}
    (F' : Fr h₀ L h' m) (N' : News h₀ L h' ((a, ob) :: (objs ++ rest))) (lt : ∀ p ∈ objs ++ rest, p.1 < a) (r : OR X (as ++ [a]) o ob) : St X h₀ L rest (as ++ [a]) (c.new o) { s with heap := h', toks := n } := by
  refine ⟨⟨m, objs ++ [(a, ob)], F', fun p hp => N' p ?_, ?_, ⟨?_, ?_⟩, hL.ext (Ext.push _ _)⟩, S.nds, S.sh⟩
  · simp only [List.mem_append, List.mem_cons, List.not_mem_nil, or_false] at hp ⊢
    rcases hp with (h | h) | h
    · exact .inr (.inl h)
    · exact .inl h
    · exact .inr (.inr h)
  · have e : (objs ++ [(a, ob)] ++ rest).map (·.1) = objs.map (·.1) ++ a :: rest.map (·.1) := by simp
    rw [e]
    rw [List.map_append] at nd
    have ha : a ∉ objs.map (·.1) ++ rest.map (·.1) := fun hm => by
      rw [← List.map_append] at hm
      obtain ⟨p, hp, e⟩ := List.mem_map.mp hm
      exact Nat.lt_irrefl _ (e ▸ lt p hp)
    exact (List.perm_middle).nodup_iff.mpr (List.nodup_cons.mpr ⟨ha, nd⟩)
  · rw [List.map_append, hH.1]; rfl
  · exact (hH.2.mono fun _ _ q => q.ext (Ext.push _ _)).append (.cons r .nil)

/-- An object changed in its place. -/
theorem mk_upd {m : Str → Option Value} {objs : List (Addr × Obj)} (S : St X h₀ L rest as c s) (nd : ((objs ++ rest).map (·.1)).Nodup) (hH : HR X as c.H objs) (hL : LR X as c.loc m) {h' : Heap} {n : Nat} {i : Nat} {a : Addr} {o' : O} {o₁ ob : Obj}
    (hm : objs[i]? = some (a, o₁)) (F' : Fr h₀ L h' m) (N' : News h₀ L h' ((objs ++ rest).set i (a, ob))) (r : OR X as o' ob) : St X h₀ L rest as (c.set i o') { s with heap := h', toks := n } := by
  have hi := (List.getElem?_eq_some_iff.mp hm).1
  rw [List.set_append_left _ _ hi] at N'
  have k := keys_set (o' := ob) hm
  refine ⟨⟨m, objs.set i (a, ob), F', N', ?_, ⟨by rw [k, hH.1], hH.2.set r⟩, hL⟩, S.nds, S.sh⟩
  rw [List.map_append, k, ← List.map_append]; exact nd
theorem upd_in {objs : List (Addr × Obj)} {i : Nat} {a : Addr} {o₁ ob : Obj} (nd : ((objs ++ rest).map (·.1)).Nodup) (hm : objs[i]? = some (a, o₁)) : Upd a o₁ ob (objs ++ rest) ((objs ++ rest).set i (a, ob)) :=
  upd_at (by rw [List.getElem?_append_left (List.getElem?_eq_some_iff.mp hm).1]; exact hm) nd

/-- A local name bound anew. -/
theorem St.bound (S : St X h₀ L rest as c s) {M : Model} {A : Around} {E : Value → Shared → Prop} {sc : Scope} {nm : Str} {a : Addr} {cd : Value} {x : Str} {v : V} {u : Value} {Q : Unit → Shared → Prop}
    (r : VR X as v u) (hk : sc.kind = .function) (hx : sc.names.lookup x = some .local)
    (h : ∀ s', St X h₀ L rest as (c.put x v) s' → Q () s') : wpAny M A (storeName (envOf nm sc L a cd) x u) Q E s := by
  obtain ⟨m, objs, F, N, nd, hH, hL⟩ := S.ex
  refine stN F N (fun h' F' N' => h _ ⟨⟨_, objs, F', N', nd, hH, hL.put r⟩, S.nds, S.sh⟩) hk ?_
  exact hx
end
end Mine

end
section
open PySem
namespace Mine

noncomputable def noStar : List PySem.Expr → Bool
  | [] => true
  | e :: r => match e with
    | .Starred .. => false
    | _ => noStar r
noncomputable def nameOf : PySem.Expr → Option Str
  | .Name x _ => some x
  | _ => .none
noncomputable def localName (sc : Scope) (x : Str) : Bool := match sc.names.lookup x with
  | some .local => true
  | _ => false

noncomputable def loadN (t : Tops) (sc : Scope) (x : Str) (c : C) : Option V := match eqS x "__debug__" with
  | true => .none
  | false => match sc.names.lookup x with
    | some .local => lk x c.loc
    | some .globalImplicit => t.glob x
    | _ => .none

noncomputable def isMinusOne : PySem.Expr → Bool
  | .UnaryOp op x _ => match op, x with
    | .USub, .Constant (.int i) _ _ => decide (i = 1)
    | _, _ => false
  | _ => false
inductive SK where
  | rev | cut (a b : PySem.Expr) | idx | no
noncomputable def skOf : PySem.Expr → SK
  | .Slice lo hi st _ => match lo, hi, st with
    | some a, some b, .none => .cut a b
    | .none, .none, some e => match isMinusOne e with
      | true => .rev
      | false => .no
    | _, _, _ => .no
  | .Starred .. => .no
  | _ => .idx

noncomputable def keysOf : List (Option PySem.Expr) → Option (List Str)
  | [] => some []
  | some (.Constant (.str s) _ _) :: r => match keysOf r with
    | some l => some (s :: l)
    | .none => .none
  | _ => .none
noncomputable def zipS : List Str → List V → Option (List (Str × V))
  | [], [] => some []
  | a :: as, v :: vs => match zipS as vs with
    | some l => some ((a, v) :: l)
    | .none => .none
  | _, _ => .none

noncomputable def exSub (t : Tops) (rec : Rec) (d : Nat) (sc : Scope) (v sl : PySem.Expr) (c : C) : Option Rs :=
  match skOf sl with
  | .rev => onV (rec d sc (.ex v) c) fun v c => match v with
    | .ref i => match c.H[i]? with
      | some (.list xs) => match Nat.blt xs.length 1000 with
        | true => valN c (.list xs.reverse)
        | false => .none
      | _ => .none
    | _ => .none
  | .cut a b => onV (rec d sc (.ex v) c) fun v c => onV (rec d sc (.ex a) c) fun a c => onV (rec d sc (.ex b) c) fun b c =>
    match v, a, b with
    | .str s, .int (.ofNat i), .int (.ofNat j) => match Nat.blt s.length 1000 && Nat.blt i 1000 && Nat.blt j 1000 with
      | true => val (.str (Txt.slice s (some (.ofNat i)) (some (.ofNat j)))) c
      | false => .none
    | _, _, _ => .none
  | .idx => onV (rec d sc (.ex v) c) fun v c => onV (rec d sc (.ex sl) c) fun i c => valO (itemV t c v i) c
  | .no => .none

/-- isinstance: of Node, or of the pair (list, tuple) -/
noncomputable def isInst (c : C) (v k : V) : Option Bool :=
  match k with
  | .top C => match Nat.beq C 31 with
    | true => match v with
      | .ref i => match c.H[i]? with
        | some (.inst D dd) => match Nat.beq D 31 with
          | true => match c.H[dd]? with
            | some (.dict _) => some true
            | _ => .none
          | false => .none
        | some (.list _) | some (.tup _) => some false
        | _ => .none
      | .nd _ => some true
      | .str _ | .none | .bool _ => some false
      | _ => .none
    | false => .none
  | .ref j => match c.H[j]? with
    | some (.tup [.ty a, .ty b]) => match decide (a = "list") && decide (b = "tuple") with
      | true => match v with
        | .ref i => match c.H[i]? with
          | some (.list _) | some (.tup _) => some true
          | _ => .none
        | .str _ | .none | .bool _ => some false
        | _ => .none
      | false => .none
    | _ => .none
  | _ => .none

inductive BK where
  | len | ord | min | max | sorted | isi | no
noncomputable def bkOf (f : String) : BK := match decide (f = "len") with
  | true => .len
  | false => match decide (f = "ord") with
    | true => .ord
    | false => match decide (f = "min") with
      | true => .min
      | false => match decide (f = "max") with
        | true => .max
        | false => match decide (f = "sorted") with
          | true => .sorted
          | false => match decide (f = "isinstance") with
            | true => .isi
            | false => .no
noncomputable def lenT (t : Tops) (c : C) (v : V) : Option Rs := match c.get t v with
  | some (.list xs) => match Nat.blt xs.length 1000 with
    | true => val (.int xs.length) c
    | false => .none
  | some (.tup xs) => match Nat.blt xs.length 1000 with
    | true => val (.int xs.length) c
    | false => .none
  | _ => .none
noncomputable def lenV (t : Tops) (c : C) (v : V) : Option Rs := match v with
  | .str s => match Nat.blt s.length 1000 with
    | true => val (.int s.length) c
    | false => .none
  | v => lenT t c v
noncomputable def ordS (c : C) (s : Str) : Option Rs := match s.cps.toList with
  | [i] => val (.int i) c
  | _ => .none
noncomputable def sort1 (c : C) (i : Nat) : Option Rs := match c.H[i]? with
  | some (.list [x]) => valN c (.list [x])
  | _ => .none
noncomputable def isiV (c : C) (v k : V) : Option Rs := match isInst c v k with
  | some b => val (.bool b) c
  | .none => .none
noncomputable def builtin (t : Tops) (c : C) (f : String) (args : List V) : Option Rs :=
  match bkOf f with
  | .len => arg1 args (lenV t c)
  | .ord => arg1 args fun v => onStr v (ordS c)
  | .min => arg2 args fun a b => onInts a b fun i j => val (.int (if j < i then j else i)) c
  | .max => arg2 args fun a b => onInts a b fun i j => val (.int (if i < j then j else i)) c
  | .sorted => arg1 args fun v => onRef v (sort1 c)
  | .isi => arg2 args (isiV c)
  | .no => .none
inductive TK where
  | list | tuple | range | no
noncomputable def tkOf (f : String) : TK := match decide (f = "list") with
  | true => .list
  | false => match decide (f = "tuple") with
    | true => .tuple
    | false => match decide (f = "range") with
      | true => .range
      | false => .no
noncomputable def listT (t : Tops) (c : C) (v : V) : Option Rs := match c.get t v with
  | some (.list xs) => match Nat.blt xs.length 1000 with
    | true => valN c (.list xs)
    | false => .none
  | some (.tup xs) => match Nat.blt xs.length 1000 with
    | true => valN c (.list xs.reverse)
    | false => .none
  | _ => .none
noncomputable def tupT (t : Tops) (c : C) (v : V) : Option Rs := match c.get t v with
  | some (.list xs) => match Nat.blt xs.length 1000 with
    | true => valN c (.tup xs.reverse)
    | false => .none
  | _ => .none
noncomputable def rngI (c : C) (n : Int) : Option Rs := match small n with
  | true => valN c (.rng n)
  | false => .none
noncomputable def typeCall (t : Tops) (c : C) (f : String) (args : List V) : Option Rs :=
  match tkOf f with
  | .list => arg1 args (listT t c)
  | .tuple => arg1 args (tupT t c)
  | .range => arg1 args fun v => onInt v (rngI c)
  | .no => .none
noncomputable def strMeth (s : Str) (args : List V) (c : C) : Option Rs := match args with
  | [.str y] => match Nat.blt s.length 1000 with
    | true => val (.int (Builtin.Str.occurrences s y 0 s.length (s.length + 1)).length) c
    | false => .none
  | _ => .none
inductive MK where
  | append | pop | extend | no
noncomputable def mkOf (name : Str) : MK := match eqS name "append" with
  | true => .append
  | false => match eqS name "pop" with
    | true => .pop
    | false => match eqS name "extend" with
      | true => .extend
      | false => .no
noncomputable def listMeth (k : MK) (i : Nat) (xs : List V) (args : List V) (c : C) : Option Rs := match k, args with
  | .append, [v] => match Nat.blt xs.length 1000 with
    | true => val .none (c.set i (.list (v :: xs)))
    | false => .none
  | .pop, [] => match xs with
    | v :: xs => match Nat.blt xs.length 1000 with
      | true => val v (c.set i (.list xs))
      | false => .none
    | [] => .none
  | .extend, [.ref j] => match Nat.beq i j with
    | true => .none
    | false => match c.H[j]? with
      | some (.list ys) => match Nat.blt xs.length 1000 && Nat.blt ys.length 1000 with
        | true => val .none (c.set i (.list (ys ++ xs)))
        | false => .none
      | _ => .none
  | _, _ => .none
noncomputable def dictMeth (es : List (Str × V)) (args : List V) (c : C) : Option Rs := match args with
  | [.str k] => match lk k es with
    | some v => val v c
    | .none => val .none c
  | _ => .none
/-- a call of `o.name(args)`, o being evaluated -/
noncomputable def methCall (t : Tops) (rec : Rec) (d : Nat) (sc : Scope) (ov : V) (name : Str) (args : List PySem.Expr) (c : C) : Option Rs := match ov with
  | .str s => match eqS name "count" with
    | true => onVs (rec d sc (.exs args) c) fun vs c => strMeth s vs c
    | false => .none
  | .ref i => match c.H[i]? with
    | some (.list _) => match mkOf name with
      | .no => .none
      | k => onVs (rec d sc (.exs args) c) fun vs c => match c.H[i]? with
        | some (.list xs) => listMeth k i xs vs c
        | _ => .none
    | some (.dict _) => match eqS name "get" with
      | true => onVs (rec d sc (.exs args) c) fun vs c => match c.H[i]? with
        | some (.dict es) => dictMeth es vs c
        | _ => .none
      | false => .none
    | some (.inst C dd) => match t.meth C name with
      | some f => match c.H[dd]? with
        | some (.dict es) => match lk name es with
          | .none => onVs (rec d sc (.exs args) c) fun vs c => rec d sc (.call f (ov :: vs)) c
          | some _ => .none
        | _ => .none
      | .none => .none
    | _ => .none
  | _ => .none
noncomputable def callable (t : Tops) (a : Nat) : Bool := (t.fn a).isSome || (t.init a).isSome || Nat.beq a 233 || Nat.beq a 387
noncomputable def okBase : PySem.Expr → Bool
  | .Name .. => true
  | .Dict .. => true
  | _ => false

noncomputable def exCall (t : Tops) (rec : Rec) (d : Nat) (sc : Scope) (f : PySem.Expr) (args : List PySem.Expr) (kw : List PySem.Keyword) (pos : Pos) (c : C) : Option Rs :=
  match kw with
  | _ :: _ => .none
  | [] => match noStar args && Nat.blt args.length 20 with
    | false => .none
    | true => match f with
      | .Attribute o name apos => match okBase o && Nat.beq apos.endLine pos.line with
        | true => onV (rec d sc (.ex o) c) fun ov c => methCall t rec d sc ov name args c
        | false => .none
      | .Name x _ => match loadN t sc x c with
        | some (.bi n) => onVs (rec d sc (.exs args) c) fun vs c => builtin t c n vs
        | some (.ty n) => onVs (rec d sc (.exs args) c) fun vs c => typeCall t c n vs
        | some (.top a) => match callable t a with
          | true => onVs (rec d sc (.exs args) c) fun vs c => rec d sc (.call a vs) c
          | false => .none
        | _ => .none
      | _ => .none

noncomputable def exCmp (t : Tops) (rec : Rec) (d : Nat) (sc : Scope) (l : PySem.Expr) (ops : List CmpOp) (rs : List PySem.Expr) (c : C) (out : Bool → C → Option Rs) : Option Rs :=
  match ops with
  | [] => .none
  | op :: ops => match ops with
    | [] => match rs with
      | [r] => match behindInMarks op r with
        | true => .none
        | false => onV (rec d sc (.ex l) c) fun a c => onV (rec d sc (.ex r) c) fun b c => match cmpV t c op a b with
          | some v => out v c
          | .none => .none
      | _ => .none
    | o2 :: ops => match ops with
      | _ :: _ => .none
      | [] => match rs with
        | [r1, r2] => match behindInMarks o2 r2 with
          | true => .none
          | false => onV (rec d sc (.ex l) c) fun a c => onV (rec d sc (.ex r1) c) fun b c => match cmpV t c op a b with
            | some true => onV (rec d sc (.ex r2) c) fun z c => match cmpV t c o2 b z with
              | some v => out v c
              | .none => .none
            | some false => out false c
            | .none => .none
        | _ => .none

/-- the values of a written dict: names and written strs alone -/
noncomputable def pureVals (t : Tops) (sc : Scope) (c : C) : List PySem.Expr → Option (List V)
  | [] => some []
  | e :: r => match e with
    | .Name x _ => match loadN t sc x c with
      | some v => match pureVals t sc c r with
        | some l => some (v :: l)
        | .none => .none
      | .none => .none
    | .Constant (.str x) _ _ => match pureVals t sc c r with
      | some l => some (.str x :: l)
      | .none => .none
    | _ => .none
noncomputable def freshKeys : List Str → Bool
  | [] => true
  | k :: r => r.all (fun j => !eqS k j) && freshKeys r
noncomputable def exDict (t : Tops) (sc : Scope) (ks : List (Option PySem.Expr)) (es : List PySem.Expr) (c : C) : Option Rs :=
  match keysOf ks with
  | some names => match pureVals t sc c es with
    | some vs => match zipS names vs with
      | some l => match freshKeys names && Nat.blt names.length 10 && Nat.blt 0 names.length with
        | true => valN c (.dict l)
        | false => .none
      | .none => .none
    | .none => .none
  | .none => .none
noncomputable def exConst (k : PySem.Const) (c : C) : Option Rs := match k with
  | .none => val .none c
  | .bool b => val (.bool b) c
  | .int i => val (.int i) c
  | .str s => val (.str s) c
  | _ => .none
noncomputable def exArm (t : Tops) (rec : Rec) (d : Nat) (sc : Scope) (e : PySem.Expr) (c : C) : Option Rs :=
  match e with
  | .Constant k _ _ => exConst k c
  | .Name x _ => valO (loadN t sc x c) c
  | .Attribute o a _ => match nameOf o with
    | some x => match loadN t sc x c with
      | some ov => valO (getA t c ov a) c
      | .none => .none
    | .none => .none
  | .BinOp l op r _ => onV (rec d sc (.ex l) c) fun a c => onV (rec d sc (.ex r) c) fun b c => valO (binV op a b) c
  | .Compare l ops rs _ => exCmp t rec d sc l ops rs c fun b c => val (.bool b) c
  | .BoolOp op vs _ => match op, vs with
    | .And, [a, b] => onV (rec d sc (.ex a) c) fun v c => match v with
      | .bool true => rec d sc (.ex b) c
      | .bool false => val (.bool false) c
      | _ => .none
    | _, _ => .none
  | .IfExp q a b _ => onB (rec d sc (.tr q) c) fun v c => match v with
    | true => rec d sc (.ex a) c
    | false => rec d sc (.ex b) c
  | .Tuple es _ _ => match noStar es with
    | true => onVs (rec d sc (.exs es) c) fun vs c => match Nat.blt vs.length 1000 with
      | true => valN c (.tup vs)
      | false => .none
    | false => .none
  | .List es _ => match noStar es with
    | true => onVs (rec d sc (.exs es) c) fun vs c => match Nat.blt vs.length 1000 with
      | true => valN c (.list vs.reverse)
      | false => .none
    | false => .none
  | .Dict ks es _ => exDict t sc ks es c
  | .Subscript v sl _ => exSub t rec d sc v sl c
  | .Call f args kw pos => exCall t rec d sc f args kw pos c
  | _ => .none

noncomputable def trArm (t : Tops) (rec : Rec) (d : Nat) (sc : Scope) (e : PySem.Expr) (c : C) : Option Rs :=
  match e with
  | .UnaryOp op x _ => match op with
    | .Not => onB (rec d sc (.tr x) c) fun b c => some (.ok (.b (!b)) c)
    | _ => .none
  | .BoolOp op vs _ => rec d sc (.trs op vs) c
  | .Compare l ops rs _ => exCmp t rec d sc l ops rs c fun b c => some (.ok (.b b) c)
  | .Call .. | .Name .. => onV (rec d sc (.ex e) c) fun v c => match v with
    | .bool b => some (.ok (.b b) c)
    | _ => .none
  | _ => .none
noncomputable def trsArm (rec : Rec) (d : Nat) (sc : Scope) (op : BoolOp) (es : List PySem.Expr) (c : C) : Option Rs :=
  match es with
  | [] => some (.ok (.b (match op with | .And => true | .Or => false)) c)
  | e :: r => onB (rec d sc (.tr e) c) fun b c => match op, b with
    | .And, false => some (.ok (.b false) c)
    | .And, true => rec d sc (.trs op r) c
    | .Or, true => some (.ok (.b true) c)
    | .Or, false => rec d sc (.trs op r) c
noncomputable def exsArm (rec : Rec) (d : Nat) (sc : Scope) (es : List PySem.Expr) (c : C) : Option Rs :=
  match es with
  | [] => some (.ok (.vs []) c)
  | e :: r => onV (rec d sc (.ex e) c) fun v c => onVs (rec d sc (.exs r) c) fun vs c => some (.ok (.vs (v :: vs)) c)
noncomputable def stsArm (rec : Rec) (d : Nat) (sc : Scope) (ss : List PySem.Stmt) (c : C) : Option Rs :=
  match ss with
  | [] => some (.ok .n c)
  | s :: r => onN (rec d sc (.st s) c) fun c => rec d sc (.sts r) c

noncomputable def unpack (t : Tops) (c : C) (v : V) : Option (List V) := match c.get t v with
  | some (.tup vs) => some vs
  | _ => .none
noncomputable def isComp : PySem.Expr → Bool
  | .ListComp .. | .SetComp .. | .DictComp .. | .Set .. => true
  | _ => false
noncomputable def isTupE : PySem.Expr → Bool
  | .Tuple .. => true
  | _ => false
noncomputable def asgArm (t : Tops) (rec : Rec) (d : Nat) (sc : Scope) (tg e : PySem.Expr) (c : C) : Option Rs := match isComp e with
  | true => .none
  | false => match tg with
    | .Name x _ => match localName sc x with
      | true => onV (rec d sc (.ex e) c) fun v c => some (.ok .n (c.put x v))
      | false => .none
    | .Attribute o a _ => match nameOf o with
      | some _ => onV (rec d sc (.ex e) c) fun v c => onV (rec d sc (.ex o) c) fun ov c => match setA t c ov a v with
        | some c => some (.ok .n c)
        | .none => .none
      | .none => .none
    | .Tuple ts _ _ => match ts with
      | [.Name x xp, .Name y yp] => match localName sc x && localName sc y && !eqS x y && Nat.beq xp.line yp.line with
        | true => match e with
          | .Tuple [e1, e2] k p => match noStar [e1, e2] && !(foldedForSure 8 e1 && foldedForSure 8 e2) && !(constantsAlone 8 e1 && constantsAlone 8 e2) with
            | false => .none
            | true => onV (rec d sc (.ex (.Tuple [e1, e2] k p)) c) fun v c => match unpack t c v with
              | some [a, b] => some (.ok .n ((c.put y b).put x a))
              | _ => .none
          | _ => .none
        | false => .none
      | [.Name x _, .Name y _, .Name z _] => match localName sc x && localName sc y && localName sc z && !isTupE e with
        | true => onV (rec d sc (.ex e) c) fun v c => match unpack t c v with
          | some [a, b, g] => some (.ok .n (((c.put x a).put y b).put z g))
          | _ => .none
        | false => .none
      | _ => .none
    | _ => .none
noncomputable def srcOf (t : Tops) (c : C) (v : V) : Option Src := match v with
  | .str s => match s.cps.all (· < 128) with
    | true => some (.str s 0)
    | false => .none
  | v => match c.get t v with
    | some (.list _) => some (.list v 0)
    | some (.tup _) => some (.tup v 0)
    | some (.rng b) => match small b && decide (0 ≤ b) with
      | true => some (.rng 0 b)
      | false => .none
    | _ => .none
noncomputable def stArm (t : Tops) (rec : Rec) (d : Nat) (sc : Scope) (s : PySem.Stmt) (c : C) : Option Rs :=
  match s with
  | .Expr e _ => match isComp e with
    | true => .none
    | false => onV (rec d sc (.ex e) c) fun _ c => some (.ok .n c)
  | .Return e _ => match e with
    | some e => onV (rec d sc (.ex e) c) fun v c => some (.ok (.r v) c)
    | .none => .none
  | .If q a b _ => onB (rec d sc (.tr q) c) fun v c => match v with
    | true => rec d sc (.sts a) c
    | false => rec d sc (.sts b) c
  | .While q b e _ => match e with
    | [] => rec d sc (.wh q b) c
    | _ => .none
  | .For tg i b e _ => match isComp i, e with
    | false, [] => onV (rec d sc (.ex i) c) fun v c => match srcOf t c v with
      | some k => rec d sc (.fo tg k b) c
      | .none => .none
    | _, _ => .none
  | .Assign ts e _ => match ts with
    | [tg] => asgArm t rec d sc tg e c
    | _ => .none
  | .AugAssign tg op e _ => match tg with
    | .Attribute o a _ => match nameOf o with
      | some _ => onV (rec d sc (.ex o) c) fun ov c => match getA t c ov a with
        | some (.int i) => onV (rec d sc (.ex e) c) fun v c => match op, v with
          | .Add, .int j => match setA t c ov a (.int (i + j)) with
            | some c => some (.ok .n c)
            | .none => .none
          | .Sub, .int j => match setA t c ov a (.int (i - j)) with
            | some c => some (.ok .n c)
            | .none => .none
          | _, _ => .none
        | _ => .none
      | .none => .none
    | _ => .none
  | _ => .none
noncomputable def whArm (rec : Rec) (d : Nat) (sc : Scope) (q : PySem.Expr) (b : List PySem.Stmt) (c : C) : Option Rs :=
  onB (rec d sc (.tr q) c) fun v c => match v with
    | true => onN (rec d sc (.sts b) c) fun c => rec d sc (.wh q b) c
    | false => some (.ok .n c)
noncomputable def bindTo (t : Tops) (sc : Scope) (tg : PySem.Expr) (v : V) (c : C) : Option C :=
  match tg with
  | .Name x _ => match localName sc x with
    | true => some (c.put x v)
    | false => .none
  | .Tuple ts _ _ => match ts with
    | [.Name x _, .Name y _] => match localName sc x && localName sc y with
      | true => match unpack t c v with
        | some [a, b] => some ((c.put x a).put y b)
        | _ => .none
      | false => .none
    | _ => .none
  | _ => .none
/-- one step of a for loop's iterator: `some none` at its end -/
noncomputable def nextOf (t : Tops) (c : C) (s : Src) : Option (Option (V × Src)) := match s with
  | .list l p => match c.get t l with
    | some (.list xs) => match xs.reverse[p]? with
      | some x => some (some (x, .list l (p + 1)))
      | .none => some .none
    | _ => .none
  | .tup l p => match c.get t l with
    | some (.tup xs) => match xs[p]? with
      | some x => some (some (x, .tup l (p + 1)))
      | .none => some .none
    | _ => .none
  | .str s p => match s.cps.toList[p]? with
    | some x => some (some (.str ⟨#[x]⟩, .str s (p + 1)))
    | .none => some .none
  | .rng x l => match decide (l ≤ 0) with
    | true => some .none
    | false => some (some (.int x, .rng (x + 1) (l - 1)))
noncomputable def foArm (t : Tops) (rec : Rec) (d : Nat) (sc : Scope) (tg : PySem.Expr) (i : Src) (b : List PySem.Stmt) (c : C) : Option Rs :=
  match nextOf t c i with
  | some .none => some (.ok .n c)
  | some (some (v, i)) => match bindTo t sc tg v c with
    | some c => onN (rec d sc (.sts b) c) fun c => rec d sc (.fo tg i b) c
    | .none => .none
  | .none => .none

noncomputable def zipArgs : List Arg → List V → Option (List (Str × V))
  | [], [] => some []
  | a :: as, v :: vs => match zipArgs as vs with
    | some l => some ((a.arg, v) :: l)
    | .none => .none
  | _, _ => .none
noncomputable def fnArm (rec : Rec) (d : Nat) (fn : Fn) (args : List V) (c : C) : Option Rs :=
  match d with
  | 0 => .none
  | d + 1 => match zipArgs fn.params.args args with
    | some loc => match rec d fn.scope (.sts fn.body) ⟨c.H, loc⟩ with
      | some (.ok .n c') => val .none ⟨c'.H, c.loc⟩
      | some (.ok (.r v) c') => val v ⟨c'.H, c.loc⟩
      | some (.exc a b c') => some (.exc a b ⟨c'.H, c.loc⟩)
      | _ => .none
    | .none => .none
noncomputable def failArm (args : List V) (c : C) : Option Rs := match args with
  | [.str x] => some (.exc 188 c.H.length (c.new (.dict [("kind", .str "SyntaxError"), ("text", .str x)])))
  | _ => .none
/-- check_pattern, in one piece: its try's body by the evaluator, its handler by hand -/
noncomputable def checkArm (t : Tops) (rec : Rec) (d : Nat) (args : List V) (c : C) : Option Rs := match args with
  | [v] => match t.fn 387 with
    | some fn => match fn.body with
      | [.Try tb _ _ _ _] => match rec d fn.scope (.sts tb) ⟨c.H, [("node", v)]⟩ with
        | some (.ok .n c') => val .none ⟨c'.H, c.loc⟩
        | some (.exc cl dd c') => match Nat.beq cl 188 with
          | true => match c'.H[dd]? with
            | some (.dict es) => match lk "kind" es with
              | some (.str k) => match eqS k "SyntaxError" with
                | true => match lk "text" es with
                  | some (.str tx) => match lk "node" c'.loc with
                    | some v' => match getA t c' v' "line" with
                      | some (.int ln) => some (.exc 208 c'.H.length ⟨c'.H ++ [.dict [("text", .str tx), ("line", .int ln)]], c.loc⟩)
                      | _ => .none
                    | .none => .none
                  | _ => .none
                | false => .none
              | _ => .none
            | _ => .none
          | false => .none
        | _ => .none
      | _ => .none
    | .none => .none
  | _ => .none
noncomputable def callArm (t : Tops) (rec : Rec) (d : Nat) (sc : Scope) (a : Nat) (args : List V) (c : C) : Option Rs :=
  match d with
  | 0 => .none
  | d + 1 => match Nat.beq a 233 with
    | true => failArm args c
    | false => match Nat.beq a 387 with
      | true => checkArm t rec d args c
      | false => match t.init a with
        | some fi => match t.fn fi with
          | some fn => match fnArm rec d fn (.ref (c.H.length + 1) :: args) ⟨c.H ++ [.dict [], .inst a c.H.length], c.loc⟩ with
            | some (.ok (.v .none) c') => val (.ref (c.H.length + 1)) c'
            | _ => .none
          | .none => .none
        | .none => match t.fn a with
          | some fn => fnArm rec (d + 1) fn args c
          | .none => .none
noncomputable def step (t : Tops) (rec : Rec) : Rec := fun d sc tk c => match tk with
  | .ex e => exArm t rec d sc e c
  | .exs es => exsArm rec d sc es c
  | .tr e => trArm t rec d sc e c
  | .trs op es => trsArm rec d sc op es c
  | .st s => stArm t rec d sc s c
  | .sts ss => stsArm rec d sc ss c
  | .call f args => callArm t rec d sc f args c
  | .wh q b => whArm rec d sc q b c
  | .fo tg i b => foArm t rec d sc tg i b c
noncomputable def run (t : Tops) : Nat → Rec
  | 0 => fun _ _ _ _ => .none
  | n + 1 => step t (run t n)
end Mine

end
section
open PySem
namespace Mine
noncomputable def stmt (k : Nat) : Option PySem.Stmt := PySem.Challenge.pw_pc0075_01.main.body[k]?
noncomputable def fnOfStmt : Option PySem.Stmt → Option Fn
  | some (.FunctionDef _ a b _ _ _ sc _ _ _) => some ⟨a, b, sc⟩
  | _ => .none
noncomputable def inCls (k j : Nat) : Option PySem.Stmt := match stmt k with
  | some (.ClassDef _ _ _ b _ _ _ _ _ _ _) => b[j]?
  | _ => .none
noncomputable def cNode : Nat := 31
noncomputable def cReader : Nat := 369
noncomputable def cJSFail : Nat := 188
noncomputable def cSyntaxFail : Nat := 208

noncomputable def fnTab : List (Nat × Option Fn) := [
  (28, fnOfStmt (inCls 1 0)), (42, fnOfStmt (stmt 2)), (103, fnOfStmt (stmt 8)), (124, fnOfStmt (stmt 12)), (131, fnOfStmt (stmt 13)), (157, fnOfStmt (stmt 19)), (171, fnOfStmt (stmt 21)),
  (240, fnOfStmt (stmt 34)), (247, fnOfStmt (stmt 35)),
  (261, fnOfStmt (inCls 36 0)), (268, fnOfStmt (inCls 36 1)), (275, fnOfStmt (inCls 36 2)), (282, fnOfStmt (inCls 36 3)), (289, fnOfStmt (inCls 36 4)), (296, fnOfStmt (inCls 36 5)), (303, fnOfStmt (inCls 36 6)),
  (310, fnOfStmt (inCls 36 7)), (317, fnOfStmt (inCls 36 8)), (324, fnOfStmt (inCls 36 9)), (331, fnOfStmt (inCls 36 10)), (338, fnOfStmt (inCls 36 11)), (345, fnOfStmt (inCls 36 12)), (352, fnOfStmt (inCls 36 13)),
  (359, fnOfStmt (inCls 36 14)), (366, fnOfStmt (inCls 36 15)), (380, fnOfStmt (stmt 37)), (185, fnOfStmt (inCls 23 0)), (205, fnOfStmt (inCls 24 0)), (233, fnOfStmt (stmt 33)), (387, fnOfStmt (stmt 39)), (415, fnOfStmt (stmt 44)), (394, fnOfStmt (stmt 40)), (401, fnOfStmt (stmt 42)), (408, fnOfStmt (stmt 43))]
noncomputable def methTab : List (Str × Nat) := [("sign", 268), ("take", 275), ("skip", 282), ("disjunction", 289), ("alternative", 296), ("term", 303), ("within", 310), ("often", 317), ("number", 324), ("atom", 331), ("atom_escape", 338),
  ("escaped_sign", 345), ("sign_class", 352), ("class_range", 359), ("class_atom", 366)]
noncomputable def globTab : List (Str × V) := [("Node", .top 31), ("children", .top 42), ("hex_value", .top 103), ("code_at", .top 124), ("hex_at", .top 131), ("DIGITS", .top 133), ("WORDS", .top 138), ("SPACES", .top 150), ("merged", .top 157), ("named_lot", .top 171),
  ("CONTROLS", .top 212), ("PLAIN", .top 213), ("ENDS", .top 217), ("ASSERTIONS", .top 226), ("SPECIAL", .str "^$\\.*+?()[]{}|"), ("MOST_COUNT", .int 1000000000), ("MOST_DEEP", .int 60),
  ("fail", .top 233), ("JSFail", .top 188), ("SyntaxFail", .top 208), ("law", .top 415), ("parse_flags", .top 240), ("is_decimal", .top 247), ("PatternReader", .top 369), ("parse_pattern", .top 380), ("check_pattern", .top 387), ("check_patterns", .top 394), ("_law_table", .top 401), ("_law_placed", .top 408)]
noncomputable def biTab : List (Str × V) := [("len", .bi "len"), ("ord", .bi "ord"), ("min", .bi "min"), ("max", .bi "max"), ("sorted", .bi "sorted"), ("isinstance", .bi "isinstance"), ("list", .ty "list"), ("tuple", .ty "tuple"), ("range", .ty "range")]
noncomputable def objTab : List (Nat × O) := [
  (132, .tup [.int 48, .int 57]), (133, .tup [.top 132]), (134, .tup [.int 48, .int 57]), (135, .tup [.int 65, .int 90]), (136, .tup [.int 95, .int 95]), (137, .tup [.int 97, .int 122]), (138, .tup [.top 134, .top 135, .top 136, .top 137]),
  (212, .dict [("f", .int 12), ("n", .int 10), ("r", .int 13), ("t", .int 9), ("v", .int 11)]),
  (213, .dict [("*", .top 214), ("+", .top 215), ("?", .top 216)]), (214, .tup [.int 0, .none]), (215, .tup [.int 1, .none]), (216, .tup [.int 0, .int 1]),
  (217, .tup [.str "", .str "|", .str ")"]),
  (218, .tup [.str "start"]), (219, .tup [.str "^", .top 218]), (220, .tup [.str "end"]), (221, .tup [.str "$", .top 220]), (222, .tup [.str "boundary", .bool false]), (223, .tup [.str "\\b", .top 222]),
  (224, .tup [.str "boundary", .bool true]), (225, .tup [.str "\\B", .top 224]), (226, .tup [.top 219, .top 221, .top 223, .top 225])]
noncomputable def lkN {α : Type} (a : Nat) : List (Nat × α) → Option α
  | [] => .none
  | p :: r => match Nat.beq p.1 a with
    | true => some p.2
    | false => lkN a r
noncomputable def lkS {α : Type} (a : Str) : List (Str × α) → Option α
  | [] => .none
  | p :: r => match eqS p.1 a with
    | true => some p.2
    | false => lkS a r
noncomputable def attrTab : List (Nat × List Str) := [(31, ["kind", "line", "parts", "scope"]), (369, ["text", "at", "groups", "farthest_back", "depth"])]
noncomputable def attrOk (C : Nat) (a : Str) : Bool := match lkN C attrTab with
  | some l => l.any fun x => eqS x a
  | .none => false
noncomputable def initTab : List (Nat × Nat) := [(31, 28), (369, 261)]
noncomputable def tops : Tops where
  fn a := match lkN a fnTab with
    | some f => f
    | .none => .none
  glob x := match lkS x globTab with
    | some v => some v
    | .none => lkS x biTab
  obj a := lkN a objTab
  meth C x := match Nat.beq C 369 with
    | true => lkS x methTab
    | false => .none
  init C := lkN C initTab
  gets := attrOk
  sets := attrOk

noncomputable def texts : List (Str × Str) := [("a", ""), ("(", ""), ("a+", "gim"), ("a", "gg"), ("[b-a]", ""), ("[a-b]", ""), ("\\1(b)", ""), ("(a)\\2", ""), ("a{2,1}", ""), ("a{1,2}?", "i"), ("*a", ""), ("(?=a)*", ""), ("\\u00e9", "m"), ("a", "y"), ("a)", ""), ("(?!a)b", ""), ("x\\", "")]
noncomputable def c0 : C := ⟨[], []⟩
noncomputable def sc0 : Scope := ⟨.function, [], false, false, []⟩
noncomputable def parse (x : Str × Str) (fuel : Nat) : Option Rs := run tops fuel 30 sc0 (.call 380 [.str x.1, .str x.2]) c0
end Mine

end
section
open PySem PySem.W PySem.Calls PyProof.Rows PySem.Spec
namespace Mine

/-- the exception at x: its class, its dict, the head of its traceback and that head's mark -/
noncomputable def ThrownAt (base : Heap) (cls dx x T : Addr) (fl : Value) (h : Heap) : Prop :=
  ∃ ox vs oT ts, h.get? x = some ox ∧ ox.cls = .ref cls ∧ ox.dict = some dx ∧ ox.data = .fields vs ∧ vs[1]? = some (.ref T) ∧ base.get? x = none ∧ base.get? T = none ∧ T ≠ x ∧
    h.get? T = some oT ∧ oT.data = .fields ts ∧ ts[3]? = some fl ∧ (cls = 188 → vs[2]? = some .none)
/-- all that is neither x nor T stands, but for the slots of the frames -/
noncomputable def Step (x T : Addr) (fr : List Addr) (h h' : Heap) : Prop := ∀ b o, h.get? b = some o → b ≠ x → b ≠ T → ∃ sl, h'.get? b = some { o with slots := sl } ∧ (b ∉ fr → sl = o.slots)
theorem Step.refl (x T : Addr) (fr : List Addr) (h : Heap) : Step x T fr h h := fun _ o e _ _ => ⟨o.slots, e, fun _ => rfl⟩

section
variable {M : Model} {A : Around} {E : Value → Shared → Prop} {s : Shared} {base : Heap} {env : Env} {outer : List Env} {L cls dx x T : Addr} {fl : Value}

theorem thrown_entry {Q : Unit → Shared → Prop} {oe : Obj} {vs : Array Value} {head : Value} {b : Bool} (hfr : A.frames = some (env :: outer)) (hl : s.heap.FunFrames base (env :: outer)) (hf : env.frame = some L) (hkb : base.StaysIn s.heap)
    (he : s.heap.get? x = some oe) (hen : base.get? x = none) (hd : oe.data = .fields vs) (hsz : 1 < vs.size) (hc : oe.cls = .ref cls) (hdx : oe.dict = some dx) (h2 : cls = 188 → vs[2]? = some .none)
    (h : ∀ h' T', s.heap.objs.size ≤ T' → Step x T ((env :: outer).filterMap (·.frame)) s.heap h' → ThrownAt base cls dx x T' (rawInt L) h' → Q () { s with heap := h' }) :
    wpAny M A (do let a ← frameOf env; let pl ← entryPlaceOf L b; let e ← EntryCells.newEntry head a .none (rawInt L) .none pl; setField (.ref x) 1 e) Q E s := by
  have hx : x ∉ (env :: outer).filterMap (·.frame) := fun hm => by
    obtain ⟨_, o, ho, hnf⟩ := hl.mem hm
    rw [he] at ho; injection ho with ho; subst ho; exact hnf vs hd
  refine wpAny_bind (wpAny_frameOf_fun hfr hl hf fun h₁ hs₁ => ?_)
  refine wpAny_bind (wpAny_entryPlaceOf fun pl hpl => ?_)
  unfold EntryCells.newEntry newFields
  refine wpAny_bind (wpAny_newObj_type ?_ (hpl.sizeOk5 _ _ _ _ _))
  have he₁ : h₁.get? x = some oe := (hs₁.2.1 x hx).trans he
  generalize hent : ({ cls := .type "traceback", dict := none, data := .fields ([head, .ref L, .none, rawInt L, .none] ++ (if pl.isEmpty then List.replicate 6 Value.none else pl)).toArray } : Obj) = ent
  have hentd : ent.data = .fields ([head, .ref L, .none, rawInt L, .none] ++ (if pl.isEmpty then List.replicate 6 Value.none else pl)).toArray := by rw [← hent]
  have hentf : ent.isFreed = false := by rw [← hent]; rfl
  have he₂ := Heap.get?_push_of_some (h := h₁) ent he₁
  refine wpAny_setField he₂ hd hsz (h _ h₁.objs.size (Nat.le_of_eq hs₁.1.symm) ?_ ?_)
  · intro c o hb hbx _
    obtain ⟨sl, hsl⟩ := hs₁.2.2 c o hb
    refine ⟨sl, ?_, fun hn => ?_⟩
    · rw [Heap.get?_update_other _ _ (Ne.symm hbx)]; exact Heap.get?_push_of_some _ hsl
    · have := hs₁.2.1 c hn
      rw [hsl, hb] at this
      injection this with this
      exact congrArg Obj.slots this
  · have hTe : h₁.objs.size ≠ x := Nat.ne_of_gt (Heap.lt_size he₁)
    have hd₃ := Obj.data_mapFields hd (·.setIfInBounds 1 (Value.ref h₁.objs.size))
    have he₃ := Heap.get?_update_self (Obj.mapFields (·.setIfInBounds 1 (Value.ref h₁.objs.size))) he₂ (Obj.isFreed_of_fields hd₃)
    have hbT : base.get? h₁.objs.size = none := by
      cases q : base.get? h₁.objs.size with
      | none => rfl
      | some o' => have := Heap.lt_size (hkb _ _ q); rw [hs₁.1] at this; exact absurd this (Nat.lt_irrefl _)
    refine ⟨_, _, ent, _, he₃, ?_, ?_, hd₃, by simp [hsz], hen, hbT, hTe, ?_, hentd, by simp, fun e => by rw [Array.getElem?_setIfInBounds_ne (by decide)]; exact h2 e⟩
    · rw [Obj.cls_mapFields]; exact hc
    · obtain ⟨c1, c2, c3, c4⟩ := oe
      dsimp only at hd hdx
      subst hd hdx
      rfl
    · rw [Heap.get?_update_other _ _ (Ne.symm hTe)]; exact Heap.get?_push_size h₁ hentf

theorem thrown_note {Q : Unit → Shared → Prop} (hfr : A.frames = some (env :: outer)) (hl : s.heap.FunFrames base (env :: outer)) (hf : env.frame = some L) (hkb : base.StaysIn s.heap) (ht : ThrownAt base cls dx x T fl s.heap) (hfl : fl = .none ∨ fl = rawInt L)
    (h : ∀ h' T', (T' = T ∨ s.heap.objs.size ≤ T') → Step x T ((env :: outer).filterMap (·.frame)) s.heap h' → ThrownAt base cls dx x T' (rawInt L) h' → Q () { s with heap := h' }) : wpAny M A (noteFrame (.ref x) env) Q E s := by
  obtain ⟨ox, vs, oT, ts, he, hc, hdx, hd, h1, hbx, hbT, hTx, hT, hdT, h3, h2⟩ := id ht
  unfold noteFrame
  simp only [hf]
  refine wpAny_bind (wpAny_field he hd h1 ?_)
  rw [if_pos (show (Value.ref T != Value.none) = true from by simp)]
  refine wpAny_bind (wpAny_field hT hdT h3 ?_)
  rcases hfl with rfl | rfl
  · rw [if_neg (show ¬ ((Value.none == rawInt L) = true) from by simp [rawInt])]
    refine wpAny_bind (wpAny_setField hT hdT (Array.getElem?_eq_some_iff.mp h3).1 ?_)
    have other : ∀ b, b ≠ T → (s.heap.update T (Obj.mapFields (·.setIfInBounds 3 Value.none))).get? b = s.heap.get? b := fun b hb => Heap.get?_update_other _ _ (Ne.symm hb)
    have noRec : ∀ b o, s.heap.get? b = some o → (∀ vs, o.data ≠ .fields vs) → b ≠ T := fun b o hb hnf q => by
      rw [q, hT] at hb; injection hb with hb; subst hb; exact hnf ts hdT
    refine thrown_entry (T := T) (s := { s with heap := s.heap.update T (Obj.mapFields (·.setIfInBounds 3 Value.none)) }) hfr (hl.of_keeps fun b o hb hnf => ⟨o, (other b (noRec b o hb hnf)).trans hb, rfl⟩) hf
      (fun b o hbo => (other b fun q => by rw [q, hbT] at hbo; cases hbo).trans (hkb b o hbo)) ((other x (Ne.symm hTx)).trans he) hbx hd (Array.getElem?_eq_some_iff.mp h1).1 hc hdx h2 fun h' T' hT' hS hTh => ?_
    have hsz : (s.heap.update T (Obj.mapFields (·.setIfInBounds 3 Value.none))).objs.size = s.heap.objs.size := Heap.size_after_update ..
    refine h h' T' (.inr (hsz ▸ hT')) (fun b o hb hbx' hbT' => hS b o ((other b hbT').trans hb) hbx' hbT') hTh
  · rw [if_pos (show (rawInt L == rawInt L) = true from by simp)]
    exact wpAny_pure (h s.heap T (.inl rfl) (Step.refl _ _ _ _) ht)

theorem thrown_mark {Q : Unit → Shared → Prop} {o : Option Addr} (ht : ThrownAt base cls dx x T fl s.heap)
    (h : ∀ h', Step x T [] s.heap h' → ThrownAt base cls dx x T (o.elim .none fun f => rawInt f) h' → Q () { s with heap := h' }) : wpAny M A (setFlight (.ref x) o) Q E s := by
  obtain ⟨ox, vs, oT, ts, he, hc, hdx, hd, h1, hbx, hbT, hTx, hT, hdT, h3, h2⟩ := ht
  have hsz3 : 3 < ts.size := (Array.getElem?_eq_some_iff.mp h3).1
  have other : ∀ b, b ≠ T → (s.heap.update T (Obj.mapFields (·.setIfInBounds 3 (o.elim Value.none fun f => rawInt f)))).get? b = s.heap.get? b := fun b hb => Heap.get?_update_other _ _ (Ne.symm hb)
  unfold setFlight
  refine wpAny_bind (wpAny_field he hd h1 ?_)
  rw [if_pos (show (Value.ref T != Value.none) = true from by simp)]
  refine wpAny_setField hT hdT hsz3 (h _ (fun b ob hb _ hbT' => ⟨ob.slots, (other b hbT').trans hb, fun _ => rfl⟩) ?_)
  exact ⟨ox, vs, _, _, (other x (Ne.symm hTx)).trans he, hc, hdx, hd, h1, hbx, hbT, hTx, Heap.get?_update_self _ hT (Obj.isFreed_of_fields (Obj.data_mapFields hdT _)), Obj.data_mapFields hdT _, by simp [hsz3], h2⟩

theorem thrown_leave {Q : Unit → Shared → Prop} (hfr : A.frames = some (env :: outer)) (hl : s.heap.FunFrames base (env :: outer)) (hf : env.frame = some L) (hkb : base.StaysIn s.heap) (ht : ThrownAt base cls dx x T fl s.heap) (hfl : fl = .none ∨ fl = rawInt L)
    (h : ∀ h' T', (T' = T ∨ s.heap.objs.size ≤ T') → Step x T ((env :: outer).filterMap (·.frame)) s.heap h' → ThrownAt base cls dx x T' .none h' → Q () { s with heap := h' }) : wpAny M A (leaving env (.ref x)) Q E s := by
  unfold leaving
  refine wpAny_bind (thrown_note hfr hl hf hkb ht hfl fun h₁ T' hT' hS hTh => thrown_mark hTh fun h₂ hS₂ hTh₂ => h h₂ T' hT' (fun b o hb hbx hbT => ?_) hTh₂)
  obtain ⟨sl, e1, e2⟩ := hS b o hb hbx hbT
  have hbT' : b ≠ T' := by
    rcases hT' with rfl | hle
    · exact hbT
    · exact Nat.ne_of_lt (Nat.lt_of_lt_of_le (Heap.lt_size hb) hle)
  obtain ⟨sl2, e3, e4⟩ := hS₂ b _ e1 hbx hbT'
  exact ⟨sl2, e3, fun hn => (e4 (by simp)).trans (e2 hn)⟩

/-- a raised exception's first frame -/
theorem thrown_note0 {Q : Unit → Shared → Prop} {oe : Obj} {vs : Array Value} (hfr : A.frames = some (env :: outer)) (hl : s.heap.FunFrames base (env :: outer)) (hf : env.frame = some L) (hkb : base.StaysIn s.heap)
    (he : s.heap.get? x = some oe) (hen : base.get? x = none) (hd : oe.data = .fields vs) (h1 : vs[1]? = some .none) (hc : oe.cls = .ref cls) (hdx : oe.dict = some dx) (h2 : cls = 188 → vs[2]? = some .none)
    (h : ∀ h' T', s.heap.objs.size ≤ T' → Step x x ((env :: outer).filterMap (·.frame)) s.heap h' → ThrownAt base cls dx x T' (rawInt L) h' → Q () { s with heap := h' }) : wpAny M A (noteFrame (.ref x) env) Q E s := by
  unfold noteFrame
  simp only [hf]
  refine wpAny_bind (wpAny_field he hd h1 ?_)
  rw [if_neg (by decide)]
  exact thrown_entry (T := x) hfr hl hf hkb he hen hd (Array.getElem?_eq_some_iff.mp h1).1 hc hdx h2 fun h₁ T' hT' hS hTh => h h₁ T' hT' (fun b o hb hbx hbT => hS b o hb hbx hbT) hTh
end
end Mine

end
section
open PySem PySem.W PySem.Calls PyProof.Rows PySem.Spec
namespace Mine

section
variable (X : Cx)
noncomputable def Upto (h₀ h : Heap) : Prop := ∀ b o, h₀.get? b = some o → ∃ sl, h.get? b = some { o with slots := sl }
/-- the state while an exception flies -/
structure Exc (h₀ : Heap) (L : Addr) (rest : List (Addr × Obj)) (as : List Addr) (c : C) (cls : Addr) (d : Nat) (x : Addr) (s : Shared) : Prop where
  ex : ∃ m objs dx T fl, X.base.StaysIn s.heap ∧ h₀.objs.size ≤ L ∧ Upto h₀ s.heap ∧ s.heap.Ns L m ∧ News h₀ L s.heap (objs ++ rest) ∧ ((objs ++ rest).map (·.1)).Nodup ∧ HR X as c.H objs ∧ LR X as c.loc m ∧
    as[d]? = some dx ∧ ThrownAt X.base cls dx x T fl s.heap ∧ (fl = .none ∨ fl = rawInt L) ∧ (∀ p ∈ objs ++ rest, p.1 ≠ x ∧ p.1 ≠ T) ∧ h₀.get? x = none ∧ h₀.get? T = none
  nds : NdOk X rest
  sh : s.gens = X.g ∧ s.drawn = X.dr ∧ s.os = X.os

noncomputable def EP (h₀ : Heap) (L : Addr) (rest : List (Addr × Obj)) (as : List Addr) (r : Rs) (E : Value → Shared → Prop) : Prop :=
  ∀ cl dd c', r = .exc cl dd c' → ∀ as' s' x, Ext as as' → Exc X h₀ L rest as' c' cl dd x s' → E (.ref x) s'
noncomputable def OKV (h₀ : Heap) (L : Addr) (rest : List (Addr × Obj)) (as : List Addr) (r : Rs) (Q : Value → Shared → Prop) : Prop :=
  ∀ v c', r = .ok (.v v) c' → ∀ as' s' u, Ext as as' → St X h₀ L rest as' c' s' → VR X as' v u → Q u s'
noncomputable def OKVs (h₀ : Heap) (L : Addr) (rest : List (Addr × Obj)) (as : List Addr) (r : Rs) (Q : List Value → Shared → Prop) : Prop :=
  ∀ vs c', r = .ok (.vs vs) c' → ∀ as' s' us, Ext as as' → St X h₀ L rest as' c' s' → F2 (VR X as') vs us → Q us s'
noncomputable def OKB (h₀ : Heap) (L : Addr) (rest : List (Addr × Obj)) (as : List Addr) (r : Rs) (Q : Bool → Shared → Prop) : Prop :=
  ∀ b c', r = .ok (.b b) c' → ∀ as' s', Ext as as' → St X h₀ L rest as' c' s' → Q b s'
noncomputable def OKF (h₀ : Heap) (L : Addr) (rest : List (Addr × Obj)) (as : List Addr) (r : Rs) (Q : Flow → Shared → Prop) : Prop :=
  (∀ c', r = .ok .n c' → ∀ as' s', Ext as as' → St X h₀ L rest as' c' s' → Q .next s') ∧
  ∀ v c', r = .ok (.r v) c' → ∀ as' s' u, Ext as as' → St X h₀ L rest as' c' s' → VR X as' v u → Q (.ret u) s'

noncomputable def ItR (as : List Addr) : Src → Obj → Prop
  | .list l p, o => ∃ a, VR X as l (.ref a) ∧ o.cls = .type "list_iterator" ∧ o.data = .fields #[.ref a, .int p 0]
  | .tup l p, o => ∃ a, VR X as l (.ref a) ∧ o.cls = .type "tuple_iterator" ∧ o.data = .fields #[.ref a, .int p 0]
  | .str s p, o => ∃ t, s.cps.all (· < 128) = true ∧ o.cls = .type "str_ascii_iterator" ∧ o.data = .fields #[.str s t, .int p 0]
  | .rng x l, o => o = { cls := .type "range_iterator", dict := none, data := .fields #[rawInt x, rawInt l, rawInt 1], slots := #[] }

structure Sound (rec : Rec) : Prop where
  ex : ∀ {d sc e c r}, rec d sc (.ex e) c = some r → ∀ {A env h₀ L rest as s Q E}, Sit X d A sc env h₀ L → St X h₀ L rest as c s → EP X h₀ L rest as r E → OKV X h₀ L rest as r Q → wpAny (model X.prog X.w) A (eval e env) Q E s
  exs : ∀ {d sc es c r}, rec d sc (.exs es) c = some r → noStar es = true → ∀ {A env h₀ L rest as s Q E pos}, Sit X d A sc env h₀ L → St X h₀ L rest as c s → EP X h₀ L rest as r E → OKVs X h₀ L rest as r Q → wpAny (model X.prog X.w) A (spliced (backTo pos (starEach es env))) Q E s
  tr : ∀ {d sc e c r}, rec d sc (.tr e) c = some r → ∀ {A env h₀ L rest as s Q E}, Sit X d A sc env h₀ L → St X h₀ L rest as c s → EP X h₀ L rest as r E → OKB X h₀ L rest as r Q → wpAny (model X.prog X.w) A (isTrue e env (eval e env)) Q E s
  trs : ∀ {d sc op es c r}, rec d sc (.trs op es) c = some r → ∀ {A env h₀ L rest as s Q E}, Sit X d A sc env h₀ L → St X h₀ L rest as c s → EP X h₀ L rest as r E → OKB X h₀ L rest as r Q → wpAny (model X.prog X.w) A (allTrue op es env) Q E s
  st : ∀ {d sc p c r}, rec d sc (.st p) c = some r → ∀ {A env h₀ L rest as s Q E}, Sit X d A sc env h₀ L → St X h₀ L rest as c s → EP X h₀ L rest as r E → OKF X h₀ L rest as r Q → wpAny (model X.prog X.w) A (exec p env) Q E s
  sts : ∀ {d sc p c r}, rec d sc (.sts p) c = some r → ∀ {A env h₀ L rest as s Q E}, Sit X d A sc env h₀ L → St X h₀ L rest as c s → EP X h₀ L rest as r E → OKF X h₀ L rest as r Q → wpAny (model X.prog X.w) A (execs p env) Q E s
  call : ∀ {d sc f args c r}, rec d sc (.call f args) c = some r → ∀ {A env h₀ L rest as s R us}, Sit X d A sc env h₀ L → St X h₀ L rest as c s → F2 (VR X as) args us → EP X h₀ L rest as r (fun e s' => R (.error e) s') → OKV X h₀ L rest as r (fun v s' => R (.ok (.ret v)) s') →
    codeAny (model X.prog X.w) A (.call (.ref f) ⟨us, []⟩) R s
  wh : ∀ {d sc q b c r}, rec d sc (.wh q b) c = some r → ∀ {A env h₀ L rest as s R}, Sit X d A sc env h₀ L → St X h₀ L rest as c s → EP X h₀ L rest as r (fun e s' => R (.error e) s') → OKF X h₀ L rest as r (fun f s' => R (.ok f) s') →
    codeAny (model X.prog X.w) A (.whileLoop q b [] env) R s
  fo : ∀ {d sc tg k b c r}, rec d sc (.fo tg k b) c = some r → ∀ {A env h₀ L rest as s R it ot}, Sit X d A sc env h₀ L → St X h₀ L ((it, ot) :: rest) as c s → ItR X as k ot → NdOk X rest → EP X h₀ L rest as r (fun e s' => R (.error e) s') → OKF X h₀ L rest as r (fun f s' => R (.ok f) s') →
    codeAny (model X.prog X.w) A (.forLoop tg (.ref it) b [] env) R s
end

section
variable {X : Cx} {h₀ : Heap} {L : Addr} {rest : List (Addr × Obj)} {as as' : List Addr} {r : Rs} {c : C} {s : Shared} {rec : Rec} {d : Nat} {sc : Scope} {A : Around} {env : Env}
theorem EP.ext {E : Value → Shared → Prop} (h : EP X h₀ L rest as r E) (x : Ext as as') : EP X h₀ L rest as' r E := fun cl dd c' e as'' s' y q z => h cl dd c' e as'' s' y (x.trans q) z
theorem OKV.ext {Q : Value → Shared → Prop} (h : OKV X h₀ L rest as r Q) (x : Ext as as') : OKV X h₀ L rest as' r Q := fun v c' e as'' s' u q z w => h v c' e as'' s' u (x.trans q) z w
theorem OKVs.ext {Q : List Value → Shared → Prop} (h : OKVs X h₀ L rest as r Q) (x : Ext as as') : OKVs X h₀ L rest as' r Q := fun v c' e as'' s' u q z w => h v c' e as'' s' u (x.trans q) z w
theorem OKB.ext {Q : Bool → Shared → Prop} (h : OKB X h₀ L rest as r Q) (x : Ext as as') : OKB X h₀ L rest as' r Q := fun v c' e as'' s' q z => h v c' e as'' s' (x.trans q) z
theorem OKF.ext {Q : Flow → Shared → Prop} (h : OKF X h₀ L rest as r Q) (x : Ext as as') : OKF X h₀ L rest as' r Q :=
  ⟨fun c' e as'' s' q z => h.1 c' e as'' s' (x.trans q) z, fun v c' e as'' s' u q z w => h.2 v c' e as'' s' u (x.trans q) z w⟩

theorem onV_some {r0 : Option Rs} {k : V → C → Option Rs} (h : onV r0 k = some r) : (∃ v c1, r0 = some (.ok (.v v) c1) ∧ k v c1 = some r) ∨ ∃ a b c1, r0 = some (.exc a b c1) ∧ r = .exc a b c1 := by
  unfold onV at h
  split at h
  · exact .inl ⟨_, _, rfl, h⟩
  · cases h; exact .inr ⟨_, _, _, rfl, rfl⟩
  · cases h
theorem onVs_some {r0 : Option Rs} {k : List V → C → Option Rs} (h : onVs r0 k = some r) : (∃ v c1, r0 = some (.ok (.vs v) c1) ∧ k v c1 = some r) ∨ ∃ a b c1, r0 = some (.exc a b c1) ∧ r = .exc a b c1 := by
  unfold onVs at h
  split at h
  · exact .inl ⟨_, _, rfl, h⟩
  · cases h; exact .inr ⟨_, _, _, rfl, rfl⟩
  · cases h
theorem onB_some {r0 : Option Rs} {k : Bool → C → Option Rs} (h : onB r0 k = some r) : (∃ v c1, r0 = some (.ok (.b v) c1) ∧ k v c1 = some r) ∨ ∃ a b c1, r0 = some (.exc a b c1) ∧ r = .exc a b c1 := by
  unfold onB at h
  split at h
  · exact .inl ⟨_, _, rfl, h⟩
  · cases h; exact .inr ⟨_, _, _, rfl, rfl⟩
  · cases h
theorem onN_some {r0 : Option Rs} {k : C → Option Rs} (h : onN r0 k = some r) : (∃ c1, r0 = some (.ok .n c1) ∧ k c1 = some r) ∨ (∃ v c1, r0 = some (.ok (.r v) c1) ∧ r = .ok (.r v) c1) ∨ ∃ a b c1, r0 = some (.exc a b c1) ∧ r = .exc a b c1 := by
  unfold onN at h
  split at h
  · exact .inl ⟨_, rfl, h⟩
  · cases h; exact .inr (.inl ⟨_, _, rfl, rfl⟩)
  · cases h; exact .inr (.inr ⟨_, _, _, rfl, rfl⟩)
  · cases h

theorem useV (ih : Sound X rec) {e : PySem.Expr} {k : V → C → Option Rs} (h : onV (rec d sc (.ex e) c) k = some r) {Q E} (J : Sit X d A sc env h₀ L) (S : St X h₀ L rest as c s) (hE : EP X h₀ L rest as r E)
    (hk : ∀ v c1 as1 s1 u, k v c1 = some r → Ext as as1 → St X h₀ L rest as1 c1 s1 → VR X as1 v u → Q u s1) : wpAny (model X.prog X.w) A (eval e env) Q E s := by
  rcases onV_some h with ⟨v, c1, e1, h1⟩ | ⟨a, b, c1, e1, rfl⟩
  · exact ih.ex e1 J S (fun _ _ _ q => nomatch q) fun v' c' q as1 s1 u x S1 V1 => by cases q; exact hk v c1 as1 s1 u h1 x S1 V1
  · exact ih.ex e1 J S hE fun _ _ q => nomatch q
theorem useVs (ih : Sound X rec) {es : List PySem.Expr} {k : List V → C → Option Rs} (h : onVs (rec d sc (.exs es) c) k = some r) (ns : noStar es = true) {Q E pos} (J : Sit X d A sc env h₀ L) (S : St X h₀ L rest as c s) (hE : EP X h₀ L rest as r E)
    (hk : ∀ v c1 as1 s1 u, k v c1 = some r → Ext as as1 → St X h₀ L rest as1 c1 s1 → F2 (VR X as1) v u → Q u s1) : wpAny (model X.prog X.w) A (spliced (backTo pos (starEach es env))) Q E s := by
  rcases onVs_some h with ⟨v, c1, e1, h1⟩ | ⟨a, b, c1, e1, rfl⟩
  · exact ih.exs e1 ns J S (fun _ _ _ q => nomatch q) fun v' c' q as1 s1 u x S1 V1 => by cases q; exact hk v c1 as1 s1 u h1 x S1 V1
  · exact ih.exs e1 ns J S hE fun _ _ q => nomatch q
theorem useB (ih : Sound X rec) {e : PySem.Expr} {k : Bool → C → Option Rs} (h : onB (rec d sc (.tr e) c) k = some r) {Q E} (J : Sit X d A sc env h₀ L) (S : St X h₀ L rest as c s) (hE : EP X h₀ L rest as r E)
    (hk : ∀ v c1 as1 s1, k v c1 = some r → Ext as as1 → St X h₀ L rest as1 c1 s1 → Q v s1) : wpAny (model X.prog X.w) A (isTrue e env (eval e env)) Q E s := by
  rcases onB_some h with ⟨v, c1, e1, h1⟩ | ⟨a, b, c1, e1, rfl⟩
  · exact ih.tr e1 J S (fun _ _ _ q => nomatch q) fun v' c' q as1 s1 x S1 => by cases q; exact hk v c1 as1 s1 h1 x S1
  · exact ih.tr e1 J S hE fun _ _ q => nomatch q
theorem useS (ih : Sound X rec) {p : List PySem.Stmt} {k : C → Option Rs} (h : onN (rec d sc (.sts p) c) k = some r) {Q E} (J : Sit X d A sc env h₀ L) (S : St X h₀ L rest as c s) (hE : EP X h₀ L rest as r E)
    (hr : ∀ v c1 as1 s1 u, r = .ok (.r v) c1 → Ext as as1 → St X h₀ L rest as1 c1 s1 → VR X as1 v u → Q (.ret u) s1)
    (hk : ∀ c1 as1 s1, k c1 = some r → Ext as as1 → St X h₀ L rest as1 c1 s1 → Q .next s1) : wpAny (model X.prog X.w) A (execs p env) Q E s := by
  rcases onN_some h with ⟨c1, e1, h1⟩ | ⟨v, c1, e1, rfl⟩ | ⟨a, b, c1, e1, rfl⟩
  · exact ih.sts e1 J S (fun _ _ _ q => nomatch q) ⟨fun c' q as1 s1 x S1 => by cases q; exact hk c1 as1 s1 h1 x S1, fun _ _ q => (nomatch q)⟩
  · exact ih.sts e1 J S (fun _ _ _ q => nomatch q) ⟨fun _ q => (nomatch q), fun v' c' q as1 s1 u x S1 V1 => hr v' c' as1 s1 u q x S1 V1⟩
  · exact ih.sts e1 J S hE ⟨fun _ q => (nomatch q), fun _ _ q => (nomatch q)⟩
theorem use1 (ih : Sound X rec) {p : PySem.Stmt} {k : C → Option Rs} (h : onN (rec d sc (.st p) c) k = some r) {Q E} (J : Sit X d A sc env h₀ L) (S : St X h₀ L rest as c s) (hE : EP X h₀ L rest as r E)
    (hr : ∀ v c1 as1 s1 u, r = .ok (.r v) c1 → Ext as as1 → St X h₀ L rest as1 c1 s1 → VR X as1 v u → Q (.ret u) s1)
    (hk : ∀ c1 as1 s1, k c1 = some r → Ext as as1 → St X h₀ L rest as1 c1 s1 → Q .next s1) : wpAny (model X.prog X.w) A (exec p env) Q E s := by
  rcases onN_some h with ⟨c1, e1, h1⟩ | ⟨v, c1, e1, rfl⟩ | ⟨a, b, c1, e1, rfl⟩
  · exact ih.st e1 J S (fun _ _ _ q => nomatch q) ⟨fun c' q as1 s1 x S1 => by cases q; exact hk c1 as1 s1 h1 x S1, fun _ _ q => (nomatch q)⟩
  · exact ih.st e1 J S (fun _ _ _ q => nomatch q) ⟨fun _ q => (nomatch q), fun v' c' q as1 s1 u x S1 V1 => hr v' c' as1 s1 u q x S1 V1⟩
  · exact ih.st e1 J S hE ⟨fun _ q => (nomatch q), fun _ _ q => (nomatch q)⟩

theorem val_ok {v : V} {c : C} (h : val v c = some r) : r = .ok (.v v) c := by cases h; rfl
theorem OKV.val {Q : Value → Shared → Prop} {v : V} (h : OKV X h₀ L rest as r Q) (e : val v c = some r) {u : Value} (S : St X h₀ L rest as c s) (V : VR X as v u) : Q u s := h v c (val_ok e) as s u (Ext.refl _) S V
end
end Mine

end
section
open PySem PySem.W PySem.Calls PyProof.Rows PySem.Spec
namespace Mine

/-- What the heap at the start says of the text's own tables. -/
structure Ok (X : Cx) : Prop where
  kin : X.K.In X.base
  tin : TopRead X.prog X.loose X.mg X.mb X.base
  glob : ∀ x v, X.t.glob x = some v → (∃ u, nsIn X.K mainGlobals x = some (some u) ∧ VR X [] v u) ∨ (nsIn X.K mainGlobals x = some none ∧ x ≠ "__name__" ∧ ∃ u, bootBuiltins x = some u ∧ VR X [] v u)
  obj : ∀ a o, X.t.obj a = some o → a ≠ sysModules ∧ ∃ ob, X.K.lookup a = some ob ∧ OR X [] o ob
  mods : ∃ o, X.base.get? sysModules = some o
  gets : ∀ C a, X.t.gets C a = true → plainGet X.K C a = true ∧ hasDictIn X.K C = true ∧ ∃ attr, findIn X.K (.ref C) a = some attr ∧ noGet X.K attr = true
  sets : ∀ C a, X.t.sets C a = true → findIn X.K (.ref C) "__setattr__" = some (some (.builtin "object.__setattr__")) ∧ plainOver X.K C = true ∧ takerIn X.K C a = some none ∧ hasDictIn X.K C = true
  meth : ∀ C a f, X.t.meth C a = some f → plainGet X.K C a = true ∧ findIn X.K (.ref C) a = some (some (.ref f)) ∧ isFn X.K (.ref f) = true ∧ keepIn X.K (.ref f) = true
  keep : ∀ a, (X.t.fn a).isSome = true ∨ (X.t.init a).isSome = true ∨ a = 233 ∨ a = 387 → keepIn X.K (.ref a) = true
  fn : ∀ a f, X.t.fn a = some f → ∃ name qual doc pm an cdv od osl oc, X.K.lookup a = some ⟨oc, od, .func (fnOf name qual f.params f.body f.scope .none .none doc pm an cdv .none), osl⟩ ∧ codeIn X.K cdv qual = true ∧
    f.scope.kind = .function ∧ f.scope.isCoroutine = false ∧ f.scope.isGenerator = false ∧ (∀ x ∈ f.scope.names, x.2 ≠ .cell) ∧ (∀ p ∈ f.params.args, f.scope.names.lookup p.arg = some .local) ∧ (f.params.args.map (·.arg)).Nodup ∧
    ∀ us, us.length = f.params.args.length → bindArgs (fnOf name qual f.params f.body f.scope .none .none doc pm an cdv .none) ⟨us, []⟩ = pure ((f.params.args.map (·.arg)).zip us)
  node : (plainGet X.K 31 "__class__" = true ∧ hasDictIn X.K 31 = true ∧ findIn X.K (.ref 31) "__class__" = some (some (.builtin "object.__class__")) ∧
    specialIn X.K (.builtin "object.__class__") "__get__" = some (some (.builtin "getset_descriptor.__get__")) ∧ takesIn X.K (.builtin "object.__class__") = some true ∧ mroIn X.K 31 (.type "object") = some true) ∧
    kitOne X.K (.type "str") (.ref 31) = some false ∧ kitOne X.K (.type "bool") (.ref 31) = some false ∧ kitOne X.K (.type "NoneType") (.ref 31) = some false ∧ kitOne X.K (.type "list") (.ref 31) = some false ∧ kitOne X.K (.type "tuple") (.ref 31) = some false
  init : ∀ C f, X.t.init C = some f → makesIn X.K C = true ∧ findIn X.K (.ref C) "__init__" = some (some (.ref f)) ∧ typeIn X.K (.ref f) = some (.type "function")

section
variable {X : Cx} {h₀ : Heap} {L : Addr} {rest : List (Addr × Obj)} {as as' : List Addr} {r : Rs} {c : C} {s : Shared} {rec : Rec} {d : Nat} {sc : Scope} {A : Around} {env : Env} {E : Value → Shared → Prop}

theorem VR.nil {v : V} {u : Value} (h : VR X [] v u) : VR X as v u := h.ext (List.nil_prefix)
theorem OR.nil {v : O} {u : Obj} (h : OR X [] v u) : OR X as v u := h.ext (List.nil_prefix)

theorem load_ok {A' : Around} (KO : Ok X) (J : Sit X d A sc env h₀ L) (S : St X h₀ L rest as c s) {x : Str} {v : V} {pos : Pos} {Q : Value → Shared → Prop} (h : loadN X.t sc x c = some v) (hQ : ∀ u, VR X as v u → Q u s) :
    wpAny (model X.prog X.w) A' (eval (.Name x pos) env) Q E s := by
  obtain ⟨nm, a, cd, rfl⟩ := J.envis
  obtain ⟨m, objs, F, N, nd, hH, hL⟩ := S.ex
  unfold loadN at h
  split at h
  · cases h
  · rename_i hd
    have hdb : (x == ("__debug__" : Str)) = false := by rw [← eqS_beq]; exact hd
    split at h
    · rename_i hk
      obtain ⟨u, hu, hv⟩ := hL x v h
      exact nameX_L (cl := []) F hu (hQ u hv) J.kind hk hdb
    · rename_i hk
      rcases KO.glob x v h with ⟨u, e, hv⟩ | ⟨e, hn, u, hb, hv⟩
      · exact nameX_K (cl := []) F J.K J.T e (hQ u hv.nil) J.kind hk hdb
      · exact nameX_B (cl := []) F J.K J.T e hb hn (hQ u hv.nil) J.kind hk hdb
    · cases h

theorem const_ok (S : St X h₀ L rest as c s) {k : PySem.Const} {n : Nat} {pos : Pos} {Q : Value → Shared → Prop} (h : exConst k c = some r) (hQ : OKV X h₀ L rest as r Q) :
    wpAny (model X.prog X.w) A (eval (.Constant k n pos) env) Q E s := by
  cases k <;> first | (cases h; done) | skip
  · exact wpAny_Constant_none (hQ.val h S rfl)
  · exact wpAny_Constant_bool (hQ.val h S rfl)
  · exact wpAny_Constant_int (hQ.val h (S.toks _) ⟨_, rfl⟩)
  · exact wpAny_Constant_str (hQ.val h (S.toks _) ⟨_, rfl⟩)

theorem valO_some {v : Option V} {c : C} (h : valO v c = some r) : ∃ u, v = some u ∧ r = .ok (.v u) c := by
  unfold valO at h; split at h
  · cases h; exact ⟨_, rfl, rfl⟩
  · cases h

theorem fmod_nat {i : Int} {m : Nat} (hm : 0 < m) : (((i.fmod m).toNat : Nat) : Int) = i.fmod m := Int.toNat_of_nonneg (by have := Int.fmod_nonneg_of_pos i (b := (m : Int)) (by omega); exact this)
theorem small_mul {i j : Int} (h : (small i && small j) = true) : IntMulOk i j := by
  simp only [small, Bool.and_eq_true, decide_eq_true_eq] at h
  exact .of_left (PySem.intBits_le_64 (by omega) (by omega))
theorem bin_ok (S : St X h₀ L rest as c s) {op : Operator} {a b v : V} {ua ub : Value} {Q : Value → Shared → Prop} (h : binV op a b = some v) (ha : VR X as a ua) (hb : VR X as b ub)
    (hQ : ∀ s' u, St X h₀ L rest as c s' → VR X as v u → Q u s') : wpAny (model X.prog X.w) A (binaryOp op ua ub) Q E s := by
  cases op <;> first | (cases h; done) | skip
  · change addV a b = some v at h
    cases a <;> first | (cases h; done) | skip
    · rename_i i
      change addI i b = some v at h
      obtain ⟨t, rfl⟩ := ha
      cases b <;> first | (cases h; done) | skip
      · obtain ⟨u, rfl⟩ := hb; cases h
        exact PyProof.Rows.add_int (hQ _ _ (S.toks _) ⟨_, rfl⟩)
      · rename_i m rr
        obtain ⟨j, u, rfl, hj⟩ := hb
        change (if 0 < m then some (V.cg m ((i + rr).fmod m).toNat) else .none) = some v at h
        split at h
        · rename_i hm; cases h
          refine PyProof.Rows.add_int (hQ _ _ (S.toks _) ⟨_, _, rfl, ?_⟩)
          rw [fmod_nat hm, ← hj]
          simp
        · cases h
    · obtain ⟨y, rfl, hq⟩ := onStr_some h
      obtain ⟨t, rfl⟩ := ha; obtain ⟨u, rfl⟩ := hb
      split at hq
      · rename_i h0; cases hq
        exact PyProof.Rows.add_str (fun t' tk => hQ _ _ (S.toks _) ⟨_, rfl⟩) (by rw [sizeLine_eq]; omega)
      · cases hq
  · obtain ⟨i, j, rfl, rfl, hq⟩ := onInts_some (show onInts a b (fun i j => some (V.int (i - j))) = some v from h)
    obtain ⟨t, rfl⟩ := ha; obtain ⟨u, rfl⟩ := hb; cases hq
    exact PyProof.Rows.sub_int (hQ _ _ (S.toks _) ⟨_, rfl⟩)
  · obtain ⟨i, j, rfl, rfl, hq⟩ := onInts_some (show onInts a b (fun i j => if small i && small j then some (V.int (i * j)) else .none) = some v from h)
    obtain ⟨t, rfl⟩ := ha; obtain ⟨u, rfl⟩ := hb
    split at hq
    · rename_i hs; cases hq
      exact PyProof.Rows.mul_int (hQ _ _ (S.toks _) ⟨_, rfl⟩) (small_mul hs)
    · cases hq
  · change modV a b = some v at h
    cases a <;> first | (cases h; done) | skip
    · rename_i k
      obtain ⟨i, j, e, rfl, hq⟩ := onInts_some (show onInts (V.int k) b (fun i j => if 0 < j then some (V.int (i.fmod j)) else .none) = some v from h)
      cases e
      obtain ⟨t, rfl⟩ := ha; obtain ⟨u, rfl⟩ := hb
      split at hq
      · rename_i h0; cases hq
        exact PyProof.Rows.mod_int (by omega) (hQ _ _ (S.toks _) ⟨_, rfl⟩)
      · cases hq
    · rename_i m rr
      obtain ⟨i, t, rfl, hi⟩ := ha
      cases b <;> first | (cases h; done) | skip
      rename_i j
      obtain ⟨u, rfl⟩ := hb
      change (if j = (m : Int) ∧ 0 < m then some (V.int rr) else .none) = some v at h
      split at h
      · rename_i hm; cases h; obtain ⟨rfl, h0⟩ := hm
        exact PyProof.Rows.mod_int (by omega) (hQ _ _ (S.toks _) ⟨_, by rw [hi]⟩)
      · cases h
end
end Mine

end
section
open PySem PySem.W PySem.Calls PyProof.Rows PySem.Spec
namespace Mine
section
variable {X : Cx} {h₀ : Heap} {L : Addr} {rest : List (Addr × Obj)} {as as' : List Addr} {r : Rs} {c : C} {s : Shared} {rec : Rec} {d : Nat} {sc : Scope} {A : Around} {env : Env} {E : Value → Shared → Prop}

theorem St.keep (S : St X h₀ L rest as c s) : ∀ b o, h₀.get? b = some o → s.heap.get? b = some o := let ⟨_, _, F, _⟩ := S.ex; F.keep

theorem ref_new (KO : Ok X) (J : Sit X d A sc env h₀ L) (S : St X h₀ L rest as c s) {i : Nat} {a : Addr} {o : O} (e : c.H[i]? = some o) (q : as[i]? = some a) : a ≠ sysModules := by
  obtain ⟨m, objs, F, N, nd, hH, hL⟩ := S.ex
  obtain ⟨ob, hm, _⟩ := hH.at e q
  have z := (N (a, ob) (List.mem_append.mpr (.inl (List.mem_of_getElem? hm)))).2.2
  rintro rfl
  obtain ⟨o', ho'⟩ := KO.mods
  rw [J.stays _ _ ho'] at z; cases z
theorem get_ok (KO : Ok X) (J : Sit X d A sc env h₀ L) (S : St X h₀ L rest as c s) {v : V} {u : Value} {o : O} (h : c.get X.t v = some o) (V : VR X as v u) : ∃ a ob, u = .ref a ∧ a ≠ sysModules ∧ s.heap.get? a = some ob ∧ OR X as o ob := by
  unfold C.get at h
  split at h
  · obtain ⟨a, e, rfl⟩ := V
    obtain ⟨ob, ho, hr⟩ := S.here h e
    exact ⟨a, ob, rfl, ref_new KO J S h e, ho, hr⟩
  · rename_i a
    obtain ⟨hm, ob, e, hr⟩ := KO.obj a o h
    exact ⟨a, ob, V, hm, S.keep _ _ (J.K _ _ e), hr.nil⟩
  · cases h

theorem isIn_ok {x : Str} : ∀ {xs : List V} {b : Bool} {ys : List Value}, isIn x xs = some b → F2 (VR X as) xs ys → (∀ y ∈ ys, ∃ z t, y = .str z t) ∧ ys.any (fun y => match y with | .str z _ => z == x | _ => false) = b
  | [], b, _, h, .nil => by cases h; exact ⟨fun _ h => (nomatch h), rfl⟩
  | v :: xs, b, _, h, .cons hv f => by
    cases v <;> simp only [isIn] at h <;> first | (cases h; done) | skip
    split at h
    · rename_i y b' hb
      cases h
      obtain ⟨t, rfl⟩ := hv
      obtain ⟨h1, h2⟩ := isIn_ok hb f
      refine ⟨fun z hz => ?_, ?_⟩
      · rcases List.mem_cons.mp hz with rfl | hz
        · exact ⟨_, _, rfl⟩
        · exact h1 z hz
      · rw [List.any_cons, h2, eqS_beq]
    · cases h
theorem eqAt_str {s : Shared} {A : Around} {x y : Str} {t u : Tok} : SeqAt.EqAt A s (.str y t) (.str x u) (y == x) := by
  have := (SeqRoads2.EqGives.str y x t u).at A s
  rw [toList_beq] at this; exact this

theorem in_tup {x : Str} {t : Tok} {xs : List V} {ys : List Value} {b : Addr} {n : Nat} {v : Bool} {Q : Value → Shared → Prop} (ho : s.heap.get? b = some { cls := .type "tuple", data := .seq ys.toArray n }) (h : isIn x xs = some v) (f : F2 (VR X as) xs ys)
    (hQ : Q (.bool v) s) : wpAny (model X.prog X.w) A (compareOp .In (.str x t) (.ref b)) Q E s := by
  obtain ⟨h1, h2⟩ := isIn_ok h f
  refine SeqAt.in_tupleAt (items := ys.toArray) (fun y => match y with | .str z _ => z == x | _ => false) ⟨_, ho, rfl, n, rfl⟩ (fun y hy => ?_) ?_
  · obtain ⟨z, t', rfl⟩ := h1 y (by simpa using hy)
    exact eqAt_str
  · rw [List.any_toArray, h2]; exact hQ
theorem notIn_tup {x : Str} {t : Tok} {xs : List V} {ys : List Value} {b : Addr} {n : Nat} {v : Bool} {Q : Value → Shared → Prop} (ho : s.heap.get? b = some { cls := .type "tuple", data := .seq ys.toArray n }) (h : isIn x xs = some v) (f : F2 (VR X as) xs ys)
    (hQ : Q (.bool (!v)) s) : wpAny (model X.prog X.w) A (compareOp .NotIn (.str x t) (.ref b)) Q E s := by
  obtain ⟨h1, h2⟩ := isIn_ok h f
  refine SeqAt.notIn_tupleAt (items := ys.toArray) (fun y => match y with | .str z _ => z == x | _ => false) ⟨_, ho, rfl, n, rfl⟩ (fun y hy => ?_) ?_
  · obtain ⟨z, t', rfl⟩ := h1 y (by simpa using hy)
    exact eqAt_str
  · rw [List.any_toArray, h2]; exact hQ

theorem map_of {b : Addr} {ds : List DictEntry} {n : Nat} {es : List (Str × V)} (ho : s.heap.get? b = some (dictOf ds n)) (f : F2 (ER X as) es ds) :
    s.heap.MapOf (strKind X.prog X.w) b (fun k => findBy (strKind X.prog X.w).is ds.toArray k) := by
  refine ⟨_, ds.toArray, n, ho, ⟨rfl, rfl, rfl⟩, rfl, fun e he => ?_, fun _ => rfl⟩
  have he' : e ∈ ds := by simpa using he
  obtain ⟨i, hi⟩ := List.getElem?_of_mem he'
  obtain ⟨p, hp, ⟨t, hk⟩, hh, hv⟩ := f.get' hi
  exact ⟨p.1, by rw [hk]; exact strKind_is _ _ _ _, hh⟩
theorem find_ok {k : Str} : ∀ {es : List (Str × V)} {ds : List DictEntry}, F2 (ER X as) es ds →
    (∀ v, lk k es = some v → ∃ u, findBy (strKind X.prog X.w).is ds.toArray k = some u ∧ VR X as v u) ∧ (lk k es = none → findBy (strKind X.prog X.w).is ds.toArray k = none)
  | _, _, .nil => ⟨fun _ h => (nomatch h), fun _ => rfl⟩
  | p :: es, e :: ds, .cons r f => by
    obtain ⟨⟨t, hk⟩, hh, hv⟩ := r
    have e1 : findBy (strKind X.prog X.w).is (e :: ds).toArray k = if p.1 = k then some e.val else findBy (strKind X.prog X.w).is ds.toArray k := by
      unfold findBy
      simp only [List.find?_toArray, List.find?_cons]
      have : (strKind X.prog X.w).is k e.key = decide (p.1 = k) := by
        rw [hk]; show Value.isStrOf k (.str p.1 t) = _
        simp only [Value.isStrOf]
        first | rfl | (rw [Bool.eq_iff_iff]; simp) | (rw [Bool.eq_iff_iff]; simp [eq_comm])
      rw [this]
      by_cases h : p.1 = k <;> simp [h]
    rw [e1]
    have e2 : lk k (p :: es) = if p.1 = k then some p.2 else lk k es := by
      show (match eqS p.1 k with | true => some p.2 | false => lk k es) = _
      by_cases h : p.1 = k
      · rw [eqS_iff.mpr h, if_pos h]
      · have : eqS p.1 k = false := by rw [Bool.eq_false_iff]; exact fun e => h (eqS_iff.mp e)
        rw [this, if_neg h]
    rw [e2]
    by_cases h : p.1 = k
    · rw [if_pos h, if_pos h]
      exact ⟨fun v hv' => by cases hv'; exact ⟨_, rfl, hv⟩, fun h => (nomatch h)⟩
    · rw [if_neg h, if_neg h]
      exact find_ok f
theorem in_dict {x : Str} {t : Tok} {b : Addr} {ds : List DictEntry} {n : Nat} {es : List (Str × V)} {Q : Value → Shared → Prop} (hne : b ≠ sysModules) (ho : s.heap.get? b = some (dictOf ds n)) (f : F2 (ER X as) es ds)
    (hQ : Q (.bool (lk x es).isSome) { s with toks := s.toks + 1 }) : wpAny (model X.prog X.w) A (compareOp .In (.str x t) (.ref b)) Q E s := by
  refine wpAny_in_of (knd := strKind X.prog X.w) (k := x) (strKind_is _ _ _ _) (beq_eq_false_iff_ne.mpr hne) (map_of ho f) ?_
  have z := find_ok f (k := x)
  cases q : lk x es with
  | none => rw [z.2 q]; rw [q] at hQ; exact hQ
  | some v => obtain ⟨u, hu, _⟩ := z.1 v q; rw [hu]; rw [q] at hQ; exact hQ
theorem item_dict {x : Str} {t : Tok} {b : Addr} {ds : List DictEntry} {n : Nat} {es : List (Str × V)} {v : V} {Q : Value → Shared → Prop} (ho : s.heap.get? b = some (dictOf ds n)) (f : F2 (ER X as) es ds) (h : lk x es = some v)
    (hQ : ∀ u, VR X as v u → Q u { s with toks := s.toks + 1 }) : wpAny (model X.prog X.w) A (getItem (.ref b) (.str x t)) Q E s := by
  obtain ⟨u, hu, hv⟩ := (find_ok f (k := x)).1 v h
  exact wpAny_getItem_of (knd := strKind X.prog X.w) (k := x) (strKind_is _ _ _ _) (map_of ho f) hu (hQ u hv)

theorem isNone_val {a : V} {ua : Value} {r : Bool} (h : isNone a = some r) (ha : VR X as a ua) : plainIs ua .none = true ∧ (ua == .none) = r := by
  cases a <;> first | (cases h; done) | skip
  · cases ha; cases h; exact ⟨rfl, rfl⟩
  · cases ha; cases h; exact ⟨rfl, rfl⟩
  · obtain ⟨t, rfl⟩ := ha; cases h; exact ⟨rfl, rfl⟩
  · obtain ⟨i, t, rfl, _⟩ := ha; cases h; exact ⟨rfl, rfl⟩
  · obtain ⟨t, rfl⟩ := ha; cases h; exact ⟨rfl, rfl⟩
  · obtain ⟨t, _, rfl⟩ := ha; cases h; exact ⟨rfl, rfl⟩
  · obtain ⟨t, _, rfl⟩ := ha; cases h; exact ⟨rfl, rfl⟩
  · cases ha; cases h; exact ⟨rfl, rfl⟩
  · cases ha; cases h; exact ⟨rfl, rfl⟩
theorem inTab_ok (KO : Ok X) (J : Sit X d A sc env h₀ L) (S : St X h₀ L rest as c s) {x : Str} {t : Tok} {b : V} {ub : Value} {v : Bool} {Q : Value → Shared → Prop} (h : inTab X.t c x b = some v) (hb : VR X as b ub)
    (hQ : ∀ n, Q (.bool v) { s with toks := n }) : wpAny (model X.prog X.w) A (compareOp .In (.str x t) ub) Q E s := by
  unfold inTab at h
  split at h
  · rename_i xs hg
    obtain ⟨b, ob, rfl, hne, ho, ys, n, rfl, f⟩ := get_ok KO J S hg hb
    exact in_tup ho h f (hQ _)
  · rename_i es hg
    obtain ⟨b, ob, rfl, hne, ho, ds, n, rfl, f⟩ := get_ok KO J S hg hb
    cases h
    exact in_dict hne ho f (hQ _)
  · cases h
theorem notInTab_ok (KO : Ok X) (J : Sit X d A sc env h₀ L) (S : St X h₀ L rest as c s) {x : Str} {t : Tok} {b : V} {ub : Value} {v : Bool} {Q : Value → Shared → Prop} (h : notInTab X.t c x b = some v) (hb : VR X as b ub)
    (hQ : ∀ n, Q (.bool v) { s with toks := n }) : wpAny (model X.prog X.w) A (compareOp .NotIn (.str x t) ub) Q E s := by
  unfold notInTab at h
  split at h
  · rename_i xs hg
    obtain ⟨b, ob, rfl, hne, ho, ys, n, rfl, f⟩ := get_ok KO J S hg hb
    obtain ⟨b', hb', rfl⟩ := Option.map_eq_some_iff.mp h
    exact notIn_tup ho hb' f (hQ _)
  · cases h
theorem neLists_ok (J : Sit X d A sc env h₀ L) (S : St X h₀ L rest as c s) {i j : Nat} {a b : Addr} {v : Bool} {Q : Value → Shared → Prop} (h : neLists c i j = some v) (ea : as[i]? = some a) (eb : as[j]? = some b)
    (hQ : ∀ n, Q (.bool v) { s with toks := n }) : wpAny (model X.prog X.w) A (compareOp .NotEq (.ref a) (.ref b)) Q E s := by
  unfold neLists at h
  split at h
  · cases h
  · split at h
    · rename_i hij hi hj
      cases h
      obtain ⟨oa, ho, ya, na, rfl, fa⟩ := S.here hi ea
      obtain ⟨ob, ho', yb, nb, rfl, fb⟩ := S.here hj eb
      cases fa; cases fb
      exact ne_intsK (vs := []) (us := []) ⟨_, ho, rfl, _, rfl⟩ .nil ⟨_, ho', rfl, _, rfl⟩ .nil (by have := J.units; omega) (hQ _)
    · cases h

theorem cmp_ok (KO : Ok X) (J : Sit X d A sc env h₀ L) (S : St X h₀ L rest as c s) {op : CmpOp} {a b : V} {ua ub : Value} {v : Bool} {Q : Value → Shared → Prop} (h : cmpV X.t c op a b = some v) (ha : VR X as a ua) (hb : VR X as b ub)
    (hQ : ∀ n, Q (.bool v) { s with toks := n }) : wpAny (model X.prog X.w) A (compareOp op ua ub) Q E s := by
  cases op <;> first | (cases h; done) | skip
  · rcases onPair_some (show onPair a b (fun i j => some (decide (i = j))) (fun x y => some (eqS x y)) = some v from h) with ⟨i, j, rfl, rfl, hq⟩ | ⟨i, j, rfl, rfl, hq⟩
    · obtain ⟨t, rfl⟩ := ha; obtain ⟨u, rfl⟩ := hb; cases hq
      exact PyProof.Rows.eq_int (hQ _)
    · obtain ⟨t, rfl⟩ := ha; obtain ⟨u, rfl⟩ := hb; cases hq
      refine PyProof.Rows.eq_str ?_
      rw [← eqS_beq]; exact hQ _
  · change neV c a b = some v at h
    have key : onPair a b (fun i j => some (!decide (i = j))) (fun x y => some (!eqS x y)) = some v → wpAny (model X.prog X.w) A (compareOp .NotEq ua ub) Q E s := fun h => by
      rcases onPair_some h with ⟨i, j, rfl, rfl, hq⟩ | ⟨i, j, rfl, rfl, hq⟩
      · obtain ⟨t, rfl⟩ := ha; obtain ⟨u, rfl⟩ := hb; cases hq
        exact PyProof.Rows.ne_int (hQ _)
      · obtain ⟨t, rfl⟩ := ha; obtain ⟨u, rfl⟩ := hb; cases hq
        refine PyProof.Rows.ne_str ?_
        rw [show ∀ i j : Str, (i != j) = !(i == j) from fun _ _ => rfl, ← eqS_beq]; exact hQ _
    cases a <;> first | exact key h | skip
    obtain ⟨j, rfl, hq⟩ := onRef_some h
    obtain ⟨a, ea, rfl⟩ := ha; obtain ⟨b, eb, rfl⟩ := hb
    exact neLists_ok J S hq ea eb hQ
  · rcases onPair_some (show onPair a b (fun i j => some (decide (i < j))) (fun _ _ => none) = some v from h) with ⟨i, j, rfl, rfl, hq⟩ | ⟨i, j, rfl, rfl, hq⟩
    · obtain ⟨t, rfl⟩ := ha; obtain ⟨u, rfl⟩ := hb; cases hq
      exact PyProof.Rows.lt_int (hQ _)
    · cases hq
  · rcases onPair_some (show onPair a b (fun i j => some (decide (i ≤ j))) (fun x y => some (!decide (y.cps.toList < x.cps.toList))) = some v from h) with ⟨i, j, rfl, rfl, hq⟩ | ⟨i, j, rfl, rfl, hq⟩
    · obtain ⟨t, rfl⟩ := ha; obtain ⟨u, rfl⟩ := hb; cases hq
      exact PyProof.Rows.le_int (hQ _)
    · obtain ⟨t, rfl⟩ := ha; obtain ⟨u, rfl⟩ := hb; cases hq
      exact P.le_str (hQ _)
  · rcases onPair_some (show onPair a b (fun i j => some (decide (j < i))) (fun _ _ => none) = some v from h) with ⟨i, j, rfl, rfl, hq⟩ | ⟨i, j, rfl, rfl, hq⟩
    · obtain ⟨t, rfl⟩ := ha; obtain ⟨u, rfl⟩ := hb; cases hq
      exact PyProof.Rows.gt_int (hQ _)
    · cases hq
  · obtain ⟨rfl, hq⟩ := onNo_some (show onNo b (isNone a) = some v from h)
    cases hb
    obtain ⟨h1, h2⟩ := isNone_val hq ha
    exact wpAny_is_plain h1 (by rw [h2]; exact hQ _)
  · obtain ⟨rfl, hq⟩ := onNo_some (show onNo b ((isNone a).map (!·)) = some v from h)
    cases hb
    obtain ⟨r, hr, rfl⟩ := Option.map_eq_some_iff.mp hq
    obtain ⟨h1, h2⟩ := isNone_val hr ha
    exact wpAny_isNot_plain h1 (by rw [h2]; exact hQ _)
  · obtain ⟨x, rfl, hq⟩ := onStr_some (show onStr a (fun x => inV X.t c x b) = some v from h)
    obtain ⟨t, rfl⟩ := ha
    cases b <;> first | exact inTab_ok (x := x) KO J S (by exact hq) hb hQ | skip
    rename_i y
    have e : some (!(Builtin.Str.occurrences y x 0 y.length 1).isEmpty) = some v := hq
    obtain ⟨u, rfl⟩ := hb; cases e
    exact PyProof.Rows.in_str (hQ _)
  · obtain ⟨x, rfl, hq⟩ := onStr_some (show onStr a (fun x => notInTab X.t c x b) = some v from h)
    obtain ⟨t, rfl⟩ := ha
    exact notInTab_ok KO J S hq hb hQ
end
end Mine

end
section
open PySem PySem.W PySem.Calls PyProof.Rows PySem.Spec
namespace Mine
section
variable {X : Cx} {h₀ : Heap} {L : Addr} {rest : List (Addr × Obj)} {as as' : List Addr} {r : Rs} {c : C} {s : Shared} {rec : Rec} {d : Nat} {sc : Scope} {A : Around} {env : Env} {E : Value → Shared → Prop}

theorem cmp1_ok (KO : Ok X) (ih : Sound X rec) {l q : PySem.Expr} {op : CmpOp} {out : Bool → C → Option Rs} (h : exCmp X.t rec d sc l [op] [q] c out = some r) (J : Sit X d A sc env h₀ L) (S : St X h₀ L rest as c s) (hE : EP X h₀ L rest as r E)
    {Q : Value → Shared → Prop} (hQ : ∀ b c1 as1 s1, out b c1 = some r → Ext as as1 → St X h₀ L rest as1 c1 s1 → Q (.bool b) s1) :
    behindInMarks op q = false ∧ wpAny (model X.prog X.w) A (eval l env) (fun a s₁ => wpAny (model X.prog X.w) A (eval q env) (fun b s₂ => wpAny (model X.prog X.w) A (compareOp op a b) Q E s₂) E s₁) E s := by
  unfold exCmp at h; dsimp only at h
  split at h
  · cases h
  · rename_i hm
    refine ⟨hm, useV ih h J S hE fun v1 c1 as1 s1 u1 h1 x1 S1 V1 => useV ih h1 J S1 (hE.ext x1) fun v2 c2 as2 s2 u2 h2 x2 S2 V2 => ?_⟩
    split at h2
    · rename_i b hb
      exact cmp_ok KO J S2 hb (V1.ext x2) V2 fun n => hQ b c2 as2 _ h2 (x1.trans x2) (S2.toks n)
    · cases h2

theorem cmp2_ok (KO : Ok X) (ih : Sound X rec) {l q1 q2 : PySem.Expr} {o1 o2 : CmpOp} {out : Bool → C → Option Rs} (h : exCmp X.t rec d sc l [o1, o2] [q1, q2] c out = some r) (J : Sit X d A sc env h₀ L) (S : St X h₀ L rest as c s) (hE : EP X h₀ L rest as r E)
    {Q Q' : Value → Shared → Prop} (hQ : ∀ b c1 as1 s1, out b c1 = some r → Ext as as1 → St X h₀ L rest as1 c1 s1 → Q (.bool b) s1)
    (hQ' : ∀ c1 as1 s1, out false c1 = some r → Ext as as1 → St X h₀ L rest as1 c1 s1 → Q' (.bool false) s1) :
    behindInMarks o2 q2 = false ∧ wpAny (model X.prog X.w) A (eval l env) (fun a s₁ => wpAny (model X.prog X.w) A (eval q1 env) (fun b s₂ => wpAny (model X.prog X.w) A (compareOp o1 a b)
      (fun v s₃ => (v = .bool true ∧ wpAny (model X.prog X.w) A (eval q2 env) (fun z s₄ => wpAny (model X.prog X.w) A (compareOp o2 b z) Q E s₄) E s₃) ∨ (v = .bool false ∧ Q' v s₃)) E s₂) E s₁) E s := by
  unfold exCmp at h; dsimp only at h
  split at h
  · cases h
  · rename_i hm
    refine ⟨hm, useV ih h J S hE fun v1 c1 as1 s1 u1 h1 x1 S1 V1 => useV ih h1 J S1 (hE.ext x1) fun v2 c2 as2 s2 u2 h2 x2 S2 V2 => ?_⟩
    split at h2
    · rename_i hb
      refine cmp_ok KO J S2 hb (V1.ext x2) V2 fun n => .inl ⟨rfl, useV ih h2 J (S2.toks n) (hE.ext (x1.trans x2)) fun v3 c3 as3 s3 u3 h3 x3 S3 V3 => ?_⟩
      split at h3
      · rename_i b hb3
        exact cmp_ok KO J S3 hb3 (V2.ext x3) V3 fun n => hQ b c3 as3 _ h3 ((x1.trans x2).trans x3) (S3.toks n)
      · cases h3
    · rename_i hb
      exact cmp_ok KO J S2 hb (V1.ext x2) V2 fun n => .inr ⟨rfl, hQ' c2 as2 _ h2 (x1.trans x2) (S2.toks n)⟩
    · cases h2

theorem exCmp_shape {t : Tops} {l : PySem.Expr} {ops : List CmpOp} {rs : List PySem.Expr} {out : Bool → C → Option Rs} (h : exCmp t rec d sc l ops rs c out = some r) :
    (∃ op q, ops = [op] ∧ rs = [q]) ∨ ∃ o1 o2 q1 q2, ops = [o1, o2] ∧ rs = [q1, q2] := by
  rcases ops with _ | ⟨o1, _ | ⟨o2, _ | ⟨o3, ops⟩⟩⟩
  · cases h
  · rcases rs with _ | ⟨r1, _ | ⟨r2, rs⟩⟩
    · cases h
    · exact .inl ⟨_, _, rfl, rfl⟩
    · cases h
  · rcases rs with _ | ⟨r1, _ | ⟨r2, _ | ⟨r3, rs⟩⟩⟩ <;> first | (cases h; done) | exact .inr ⟨_, _, _, _, rfl, rfl⟩
  · cases h

theorem getL_lk {k : Str} : ∀ {es : List (Str × V)} {ds : List DictEntry}, F2 (ER X as) es ds →
    (∀ v, lk k es = some v → ∃ u, getL k ds = some (some u) ∧ VR X as v u) ∧ (lk k es = none → getL k ds = some none)
  | _, _, .nil => ⟨fun _ h => (nomatch h), fun _ => rfl⟩
  | p :: es, e :: ds, .cons r f => by
    obtain ⟨⟨t, hk⟩, hh, hv⟩ := r
    have hkey : e.key.isStr k = decide (p.1 = k) := by
      rw [hk]; simp only [Value.isStr]
      first | rfl | (rw [Bool.eq_iff_iff]; simp) | (rw [Bool.eq_iff_iff]; simp [eq_comm])
    have hrk : e.refKey = false := by unfold DictEntry.refKey; rw [hk]
    have e2 : lk k (p :: es) = if p.1 = k then some p.2 else lk k es := by
      show (match eqS p.1 k with | true => some p.2 | false => lk k es) = _
      by_cases h : p.1 = k
      · rw [eqS_iff.mpr h, if_pos h]
      · have : eqS p.1 k = false := by rw [Bool.eq_false_iff]; exact fun e => h (eqS_iff.mp e)
        rw [this, if_neg h]
    have e1 : getL k (e :: ds) = if p.1 = k then some (some e.val) else getL k ds := by
      unfold getL
      rw [List.find?_cons, hkey, List.any_cons, hrk]
      by_cases h : p.1 = k <;> simp [h]
    rw [e1, e2]
    by_cases h : p.1 = k
    · rw [if_pos h, if_pos h]
      exact ⟨fun v hv' => by cases hv'; exact ⟨_, rfl, hv⟩, fun h => (nomatch h)⟩
    · rw [if_neg h, if_neg h]
      exact getL_lk f

theorem handed_of {v : V} {u : Value} (V : VR X as v u) (h : noBi v = true) : handedIn u = true := by
  cases v <;> first | (cases V; rfl) | (obtain ⟨t, rfl⟩ := V; rfl) | (obtain ⟨_, _, rfl, _⟩ := V; rfl) | (obtain ⟨_, _, rfl⟩ := V; rfl) | (cases h; done)

theorem inst_at (S : St X h₀ L rest as c s) {i C dd : Nat} {es : List (Str × V)} {a : Addr} (h1 : c.H[i]? = some (.inst C dd)) (h2 : c.H[dd]? = some (.dict es)) (ha : as[i]? = some a) :
    ∃ dx ds n, as[dd]? = some dx ∧ InstAt s.heap a (instObj C dx) C (some (dictOf ds n)) ∧ F2 (ER X as) es ds := by
  obtain ⟨oi, ho, dx, hd, rfl⟩ := S.here h1 ha
  obtain ⟨od, hod, ds, n, rfl, f⟩ := S.here h2 hd
  exact ⟨dx, ds, n, hd, ⟨ho, rfl, rfl, hod⟩, f⟩

theorem getA_ok {A' : Around} (KO : Ok X) (J : Sit X d A sc env h₀ L) (S : St X h₀ L rest as c s) {v w : V} {u : Value} {a : Str} {Q : Value → Shared → Prop} {b : Bool} (h : getA X.t c v a = some w) (V : VR X as v u) (hQ : ∀ u', VR X as w u' → Q u' { s with toks := s.toks + 1 }) :
    wpAny (model X.prog X.w) A' (getAttr u a b) Q E s := by
  unfold getA at h
  split at h
  · rename_i i
    split at h
    · rename_i C dd hi
      split at h
      · rename_i hg
        split at h
        · rename_i es hd
          split at h
          · rename_i w' hw
            split at h
            · rename_i hb
              cases h
              obtain ⟨x, hx, rfl⟩ := V
              obtain ⟨dx, ds, n, hdx, I, f⟩ := inst_at S hi hd hx
              obtain ⟨u', hu, hv⟩ := (getL_lk f (k := a)).1 w hw
              obtain ⟨m, objs, F, N, nd, hH, hL⟩ := S.ex
              obtain ⟨g1, g2, attr, g3, g4⟩ := KO.gets C a hg
              exact get_own F J.K I g1 g2 g3 g4 hu (handed_of hv hb) (hQ _ hv)
            · cases h
          · cases h
        · cases h
      · cases h
    · cases h
  · cases h
end
end Mine

end
section
open PySem PySem.W PySem.Calls PyProof.Rows PySem.Spec
namespace Mine
section
variable {X : Cx} {h₀ : Heap} {L : Addr} {rest : List (Addr × Obj)} {as as' : List Addr} {r : Rs} {c : C} {s : Shared} {rec : Rec} {d : Nat} {sc : Scope} {A : Around} {env : Env} {E : Value → Shared → Prop}

theorem seq_small {n : Nat} (h : Nat.blt n 1000 = true) : n < 1000 := Nat.le_of_ble_eq_true h
theorem newTup_ok (S : St X h₀ L rest as c s) {vs : List V} {us : List Value} {Q : Value → Shared → Prop} (f : F2 (VR X as) vs us) (hn : us.length ≤ sizeLine)
    (hQ : ∀ a s', St X h₀ L rest (as ++ [a]) (c.new (.tup vs)) s' → Q (.ref a) s') : wpAny (model X.prog X.w) A (newTuple us) Q E s := by
  obtain ⟨m, objs, F, N, nd, hH, hL⟩ := S.ex
  exact newTuple_N F N (fun h' F' N' => hQ _ _ (mk_alloc (n := s.toks) S nd hH hL F' N' (fun p hp => Heap.lt_size (N p hp).1) ⟨us, 0, rfl, f.mono fun _ _ q => q.ext (Ext.push _ _)⟩)) hn
theorem newLst_ok (S : St X h₀ L rest as c s) {vs : List V} {us : List Value} {Q : Value → Shared → Prop} (f : F2 (VR X as) vs.reverse us) (hn : us.length ≤ sizeLine)
    (hQ : ∀ a s', St X h₀ L rest (as ++ [a]) (c.new (.list vs)) s' → Q (.ref a) s') : wpAny (model X.prog X.w) A (newList us) Q E s := by
  obtain ⟨m, objs, F, N, nd, hH, hL⟩ := S.ex
  exact newList_N F N (fun h' F' N' => hQ _ _ (mk_alloc (n := s.toks) S nd hH hL F' N' (fun p hp => Heap.lt_size (N p hp).1) ⟨us, 0, rfl, f.mono fun _ _ q => q.ext (Ext.push _ _)⟩)) hn

theorem as_len (S : St X h₀ L rest as c s) : as.length = c.H.length := by
  obtain ⟨m, objs, F, N, nd, hH, hL⟩ := S.ex
  rw [← hH.1, List.length_map]; exact hH.2.length.symm
theorem new_ref (S : St X h₀ L rest as c s) {o : O} {a : Addr} : VR X (as ++ [a]) (.ref c.H.length) (.ref a) := ⟨a, by rw [← as_len S]; simp, rfl⟩

theorem OKV.new {Q : Value → Shared → Prop} {o : O} {a : Addr} {s' : Shared} (h : OKV X h₀ L rest as r Q) (e : valN c o = some r) (S : St X h₀ L rest as c s) (S' : St X h₀ L rest (as ++ [a]) (c.new o) s') : Q (.ref a) s' :=
  h (.ref c.H.length) (c.new o) (by cases e; rfl) (as ++ [a]) s' (.ref a) (Ext.push _ _) S' (new_ref (o := o) S)


theorem tup_ok (ih : Sound X rec) {es : List PySem.Expr} {k : Nat} {pos : Pos} {Q : Value → Shared → Prop}
    (h : onVs (rec d sc (.exs es) c) (fun vs c => match Nat.blt vs.length 1000 with | true => valN c (.tup vs) | false => .none) = some r) (ns : noStar es = true) (J : Sit X d A sc env h₀ L) (S : St X h₀ L rest as c s)
    (hE : EP X h₀ L rest as r E) (hQ : OKV X h₀ L rest as r Q) : wpAny (model X.prog X.w) A (eval (.Tuple es k pos) env) Q E s := by
  refine Tuple_ (useVs ih h ns J S hE fun vs c1 as1 s1 us h1 x1 S1 V1 => ?_)
  split at h1
  · rename_i hb
    have := seq_small hb
    exact newTup_ok S1 V1 (by rw [← V1.length, sizeLine_eq]; omega) fun a s' S' => (hQ.ext x1).new h1 S1 S'
  · cases h1
theorem lst_ok (ih : Sound X rec) {es : List PySem.Expr} {pos : Pos} {Q : Value → Shared → Prop}
    (h : onVs (rec d sc (.exs es) c) (fun vs c => match Nat.blt vs.length 1000 with | true => valN c (.list vs.reverse) | false => .none) = some r) (ns : noStar es = true) (J : Sit X d A sc env h₀ L) (S : St X h₀ L rest as c s)
    (hE : EP X h₀ L rest as r E) (hQ : OKV X h₀ L rest as r Q) : wpAny (model X.prog X.w) A (eval (.List es pos) env) Q E s := by
  refine List_ (useVs ih h ns J S hE fun vs c1 as1 s1 us h1 x1 S1 V1 => ?_)
  split at h1
  · rename_i hb
    have := seq_small hb
    exact newLst_ok S1 (by rw [List.reverse_reverse]; exact V1) (by rw [← V1.length, sizeLine_eq]; omega) fun a s' S' => (hQ.ext x1).new h1 S1 S'
  · cases h1

/-- the end of a subscription, whatever the base -/
theorem tail_on {prog : Program} {w : World} {value slice : PySem.Expr} {o i : Value} {ops : List Value} {Q : Value → Shared → Prop} (h : ItemOn (model prog w) A E o i Q s) (hs : subscripted slice false o i = operate ops (getItem o i)) :
    wpAny (model prog w) A (subscriptTail value slice o i) Q E s := by
  obtain ⟨T, id, hl, hT, hg⟩ := h
  unfold subscriptTail
  refine wpAny_bind ?_
  rw [getitemInPython_of_ne hT.not_modules]
  refine wpAny_bind (wpAny_specialOf hT hl ?_)
  have fin : wpAny (model prog w) A (subscripted slice false o i) (fun r s₃ => wpAny (model prog w) A (letTemporaryGo value o r >>= fun _ => pure r) Q E s₃) E s := by
    rw [hs]
    exact wpAny_operating (wpAny_mono hg (fun r s₃ h₃ => wpAny_bind (wpAny_letTemporaryGo (wpAny_pure h₃))) fun _ _ x => x)
  first
    | exact wpAny_pure (wpAny_bind fin)
    | exact wpAny_bind (wpAny_pure (wpAny_bind fin))
    | exact wpAny_bind fin
theorem sub_plain {sl : PySem.Expr} (h : skOf sl = .idx) (o i : Value) : subscripted sl false o i = operate [o, i] (getItem o i) := by
  cases sl <;> first | rfl | (exfalso; revert h; unfold skOf; (repeat' split) <;> (intro h; cases h)) | cases h

theorem St.pushed (S : St X h₀ L rest as c s) (ob : Obj) (n : Nat) : St X h₀ L rest as c { s with heap := s.heap.push ob, toks := n } := by
  obtain ⟨m, objs, F, N, nd, hH, hL⟩ := S.ex
  exact ⟨⟨m, objs, F.push ob, N.pushKeep ob, nd, hH, hL⟩, S.nds, S.sh⟩
theorem idx_nat {k n : Nat} (h : k < n) : seqIndex? (.ofNat k) n = some k := by
  have h1 : ¬ ((Int.ofNat k) < 0) := by simp
  have h2 : (0 : Int) ≤ Int.ofNat k := by simp
  have h3 : Int.ofNat k < (n : Int) := by simp; exact h
  simp [seqIndex?, h1, h2, h3]
  omega

theorem item_ok (KO : Ok X) (J : Sit X d A sc env h₀ L) (S : St X h₀ L rest as c s) {value sl : PySem.Expr} {v i w : V} {o u : Value} {Q : Value → Shared → Prop} (h : itemV X.t c v i = some w) (hsl : skOf sl = .idx) (hv : VR X as v o) (hi : VR X as i u)
    (hQ : ∀ n u', VR X as w u' → Q u' { s with toks := n }) : wpAny (model X.prog X.w) A (subscriptTail value sl o u) Q E s := by
  refine tail_on ?_ (sub_plain hsl _ _)
  unfold itemV at h
  split at h
  · rename_i k
    obtain ⟨t, rfl⟩ := hi
    split at h
    · rename_i x
      obtain ⟨t', rfl⟩ := hv
      split at h
      · rename_i hb
        have hb := seq_small hb
        obtain ⟨ch, hc, rfl⟩ := Option.map_eq_some_iff.mp h
        have hk := (List.getElem?_eq_some_iff.mp hc).1
        have hlen : x.length = x.cps.toList.length := by simp [Str.length]
        refine ⟨"str", _, F.slot_str_getitem.lookup, typeIs_str _ _ _, P.getItem_str (c := ch) ?_ ?_ (hQ _ _ ⟨_, rfl⟩)⟩
        · simp; omega
        · rw [hlen, idx_nat hk, Option.bind_some]
          rw [← Array.getElem?_toList]; exact hc
      · cases h
    · split at h
      · rename_i xs hg
        obtain ⟨b, ob, rfl, hne, ho, ys, n, rfl, f⟩ := get_ok KO J S hg hv
        split at h
        · rename_i hb
          have hb := seq_small hb
          obtain ⟨y, hy, hr⟩ := f.get h
          have hk := (List.getElem?_eq_some_iff.mp hy).1
          have := f.length
          refine ⟨"tuple", _, F.slot_tuple_getitem.lookup, ⟨_, ho, rfl⟩, PyProof.Rows.getItem_tuple (j := k) ⟨_, ho, rfl, n, rfl⟩ ?_ ?_ ?_ ?_ (hQ s.toks _ hr)⟩
          · simp <;> omega
          · simp <;> omega
          · rw [List.size_toArray]; exact idx_nat hk
          · simpa using hy
        · cases h
      · rename_i xs hg
        obtain ⟨b, ob, rfl, hne, ho, ys, n, rfl, f⟩ := get_ok KO J S hg hv
        split at h
        · rename_i hb
          have hb := seq_small hb
          obtain ⟨y, hy, hr⟩ := f.get h
          have hk := (List.getElem?_eq_some_iff.mp hy).1
          have := f.length
          rw [List.length_reverse] at this
          refine ⟨"list", _, list_getitem_lookup, ⟨_, ho, rfl⟩, wpAny_getItem_list (k := (Int.ofNat k)) ⟨_, ho, rfl, n, rfl⟩ (by simp) (by simp; omega) (by simpa using hy) (hQ s.toks _ hr)⟩
        · cases h
      · cases h
  · rename_i k
    obtain ⟨t, rfl⟩ := hi
    split at h
    · rename_i es hg
      obtain ⟨b, ob, rfl, hne, ho, ds, n, rfl, f⟩ := get_ok KO J S hg hv
      exact ⟨"dict", _, slot_dict_getitem.lookup, ⟨_, ho, rfl⟩, item_dict ho f h (hQ _)⟩
    · cases h
  · cases h

theorem minusOne {e : PySem.Expr} (h : isMinusOne e = true) : ∃ k p q, e = .UnaryOp .USub (.Constant (.int 1) k p) q := by
  cases e <;> first | (cases h; done) | skip
  rename_i op x q
  cases op <;> first | (cases h; done) | skip
  cases x <;> first | (cases h; done) | skip
  rename_i k n p
  cases k <;> first | (cases h; done) | skip
  rename_i i
  have : i = 1 := of_decide_eq_true h
  subst this
  exact ⟨_, _, _, rfl⟩
theorem skOf_rev {sl : PySem.Expr} (h : skOf sl = .rev) : ∃ k p q r, sl = .Slice none none (some (.UnaryOp .USub (.Constant (.int 1) k p) q)) r := by
  cases sl <;> first | (cases h; done) | skip
  rename_i lo hi st p
  unfold skOf at h; dsimp only at h
  split at h
  · cases h
  · split at h
    · rename_i e hm
      obtain ⟨k, p, q, rfl⟩ := minusOne hm
      exact ⟨_, _, _, _, rfl⟩
    · cases h
  · cases h
theorem skOf_cut {sl a b : PySem.Expr} (h : skOf sl = .cut a b) : ∃ p, sl = .Slice (some a) (some b) none p := by
  cases sl <;> first | (cases h; done) | skip
  rename_i lo hi st p
  unfold skOf at h; dsimp only at h
  split at h
  · cases h; exact ⟨_, rfl⟩
  · split at h <;> cases h
  · cases h

theorem rev_ok (S : St X h₀ L rest as c s) {value sl : PySem.Expr} {i : Nat} {xs : List V} {b : Addr} {t : Tok} {ops : List Value} {Q : Value → Shared → Prop} (hi : c.H[i]? = some (.list xs)) (hb : as[i]? = some b) (hl : xs.length < 1000)
    (hs : subscripted sl false (.ref b) (.ref s.heap.objs.size) = operate ops (getItem (.ref b) (.ref s.heap.objs.size)))
    (hQ : ∀ a s', St X h₀ L rest (as ++ [a]) (c.new (.list xs.reverse)) s' → Q (.ref a) s') :
    wpAny (model X.prog X.w) A (subscriptTail value sl (.ref b) (.ref s.heap.objs.size)) Q E { s with heap := s.heap.push { cls := .type "slice", data := .fields #[.none, .none, .int (-1) t] } } := by
  obtain ⟨ob, ho, ys, n, rfl, f⟩ := S.here hi hb
  obtain ⟨m, objs, F, N, nd, hH, hL⟩ := S.ex
  have hlen := f.length
  rw [List.length_reverse] at hlen
  have hl' : s.heap.IsList b ys.toArray := ⟨_, ho, rfl, n, rfl⟩
  refine tail_on (ops := ops) ⟨"list", _, list_getitem_lookup, Heap.IsList.typeIs (s := { s with heap := s.heap.push { cls := .type "slice", data := .fields #[.none, .none, .int (-1) t] } }) (hl'.push _),
    wpAny_getItem_list_slice (hl'.push _) (Heap.IsSliceOf.new ..) .none .none (.int (-1) t) (by decide) ?_ (by rw [List.size_toArray, sizeLine_eq]; omega)⟩ hs
  rw [krv_pick]
  have F1 := F.push { cls := .type "slice", data := .fields #[.none, .none, .int (-1) t] }
  have N1 := N.pushKeep { cls := .type "slice", data := .fields #[.none, .none, .int (-1) t] }
  have N2 := News.push F1 N1 { cls := .type "list", data := .seq ys.toArray.toList.reverse.toArray }
  refine hQ _ _ (mk_alloc (n := s.toks) S nd hH hL (F1.push _) N2 (fun p hp => Heap.lt_size (N1 p hp).1) ⟨ys.reverse, 0, by simp, ?_⟩)
  rw [List.reverse_reverse]
  have f' : F2 (VR X as) xs ys.reverse := by have := f.reverse; rwa [List.reverse_reverse] at this
  exact f'.mono fun _ _ q => q.ext (Ext.push _ _)

theorem sub_ok (KO : Ok X) (ih : Sound X rec) {v sl : PySem.Expr} {pos : Pos} {Q : Value → Shared → Prop} (h : exSub X.t rec d sc v sl c = some r) (J : Sit X d A sc env h₀ L) (S : St X h₀ L rest as c s) (hE : EP X h₀ L rest as r E) (hQ : OKV X h₀ L rest as r Q) :
    wpAny (model X.prog X.w) A (eval (.Subscript v sl pos) env) Q E s := by
  unfold exSub at h
  refine Subscript_ ?_
  split at h
  · rename_i hk
    obtain ⟨k, p, q, p', rfl⟩ := skOf_rev hk
    refine useV ih h J S hE fun v1 c1 as1 s1 u1 h1 x1 S1 V1 => ?_
    split at h1
    · rename_i i
      split at h1
      · rename_i xs hi
        split at h1
        · rename_i hb
          obtain ⟨b, hb', rfl⟩ := V1
          refine wpAny_Slice (wpAny_pure (wpAny_pure ?_))
          refine wpAny_UnaryOp (wpAny_Constant_int (PyProof.Rows.neg_int ?_))
          exact rev_ok (S1.toks _) hi hb' (seq_small hb) rfl fun a s' S' => (hQ.ext x1).new h1 S1 S'
        · cases h1
      · cases h1
    · cases h1
  · rename_i a b hk
    obtain ⟨p, rfl⟩ := skOf_cut hk
    refine useV ih h J S hE fun v1 c1 as1 s1 u1 h1 x1 S1 V1 => ?_
    refine wpAny_Slice ?_
    show wpAny _ _ (eval a env) _ _ _
    refine useV ih h1 J S1 (hE.ext x1) fun v2 c2 as2 s2 u2 h2 x2 S2 V2 => ?_
    show wpAny _ _ (eval b env) _ _ _
    refine useV ih h2 J S2 (hE.ext (x1.trans x2)) fun v3 c3 as3 s3 u3 h3 x3 S3 V3 => ?_
    refine wpAny_pure ?_
    split at h3
    · split at h3
      · rename_i hb
        simp only [Bool.and_eq_true] at hb
        obtain ⟨t1, rfl⟩ := V1; obtain ⟨t2, rfl⟩ := V2; obtain ⟨t3, rfl⟩ := V3
        refine tail_on (ops := [.ref s3.heap.objs.size, _]) (SBG.sliceItem_ss (Fm := fun s' => St X h₀ L rest as3 c3 s') (fun s' ob k S' => S'.pushed ob k) S3 (fun s' t' S' => ?_) ?_) rfl
        · exact (hQ.ext ((x1.trans x2).trans x3)).val h3 S' ⟨_, rfl⟩
        · have := seq_small hb.1.1
          rw [sizeLine_eq]; omega
      · cases h3
    · cases h3
  · rename_i hk
    refine useV ih h J S hE fun v1 c1 as1 s1 u1 h1 x1 S1 V1 => useV ih h1 J S1 (hE.ext x1) fun v2 c2 as2 s2 u2 h2 x2 S2 V2 => ?_
    obtain ⟨w, hw, rfl⟩ := valO_some h2
    exact item_ok KO J S2 hw hk (V1.ext x2) V2 fun n u' hu => hQ _ _ rfl as2 _ u' (x1.trans x2) (S2.toks n) hu
  · cases h
end
end Mine

end
section
open PySem PySem.W PySem.Calls PyProof.Rows PySem.Spec
namespace Mine
section
variable {X : Cx} {h₀ : Heap} {L : Addr} {rest : List (Addr × Obj)} {as as' : List Addr} {r : Rs} {c : C} {s : Shared} {rec : Rec} {d : Nat} {sc : Scope} {A : Around} {env : Env} {E : Value → Shared → Prop}

theorem evalArgs_es {M : Model} {f : Value} {es : List PySem.Expr} {pos : Pos} {Q : Args → Shared → Prop} (ns : noStar es = true) (h : wpAny M A (spliced (backTo pos (starEach es env))) (fun vs s' => Q ⟨vs, []⟩ s') E s) :
    wpAny M A (evalArgs f true (backTo pos (starEach es env)) []) Q E s := by
  cases es with
  | nil =>
    unfold evalArgs
    show wpAny M A (spliced [] >>= _) Q E s
    refine wpAny_bind (wpAny_mono h (fun vs s' hq => ?_) fun _ _ z => z)
    refine wpAny_bind (wpAny_pure ?_)
    refine wpAny_holding ?_
    exact wpAny_bind (wpAny_pure (wpAny_bind (wpAny_pure (wpAny_pure hq))))
  | cons e r => cases e <;> first | exact evalArgs_plain h | (cases ns; done)
theorem noStar_any {es : List PySem.Expr} {pos : Pos} (ns : noStar es = true) : (backTo pos (starEach es env)).any (·.1) = false := by
  induction es with
  | nil => rfl
  | cons e r ih => cases e <;> first | (cases ns; done) | (show (false || (backTo pos (starEach r env)).any (·.1)) = false; rw [ih ns]; rfl)
theorem call_es {M : Model} {P : Heap → Prop} {f : Value} {first : List Value} {es : List PySem.Expr} {pos : Pos} {Q : Value → Shared → Prop} (ns : noStar es = true)
    (hk : ∀ h, P h → ∃ k, (k = Keeper.frame ∨ k = Keeper.machine ∨ k = Keeper.boundFrame) ∧ Looks M h (keeperOf f) k)
    (h : wpAny M A (spliced (backTo pos (starEach es env))) (fun vs s₁ => P s₁.heap ∧ wpAny M A (call f (first ++ vs)) Q E s₁) E s) : wpAny M A (callWith pos f first (backTo pos (starEach es env)) []) Q E s := by
  refine callWith_of (P := P) (by rw [noStar_any ns]; rfl) hk (evalArgs_es ns (wpAny_mono h (fun vs s' z => z) fun _ _ z => z))

theorem St.kept (S : St X h₀ L rest as c s) {h' : Heap} {n : Nat} (k : ∀ b o, s.heap.get? b = some o → h'.get? b = some o) : St X h₀ L rest as c { s with heap := h', toks := n } := by
  obtain ⟨m, objs, F, N, nd, hH, hL⟩ := S.ex
  exact ⟨⟨m, objs, F.kept k, fun p hp => ⟨k _ _ (N p hp).1, (N p hp).2⟩, nd, hH, hL⟩, S.nds, S.sh⟩

theorem sorted_one {prog : Program} {w : World} {l : Addr} {v : Value} {Q : Value → Shared → Prop} (hl : s.heap.IsList l #[v])
    (h : Q (.ref (s.heap.objs.size + 1)) { s with heap := sortedAll s.heap [v] #[v] }) : wpAny (model prog w) A (call (.builtin "sorted") [.ref l]) Q E s := by
  refine Calls.call_function_entry kind_sorted plain_sorted entry_sorted (args_sorted1 _) ?_
  unfold Builtin.«sorted»
  refine wpAny_bind (m := checkCount "sorted" 1 1 _) (wpAny_pure ?_)
  refine wpAny_bind (collect_list (vs := [v]) hl ?_ (by rw [sizeLine_eq]; simp))
  refine wpAny_bind (wpAny_newList ?_)
  have hsz : ((s.heap.push (seqObj "list" #[] 0)).update s.heap.objs.size (Obj.mapSeq (· ++ [v].toArray))).objs.size = s.heap.objs.size + 1 := by
    rw [Heap.size_update, size_push']
  have hoL : (((s.heap.push (seqObj "list" #[] 0)).update s.heap.objs.size (Obj.mapSeq (· ++ [v].toArray))).push (seqObj "list" [v].toArray 0)).get? (s.heap.objs.size + 1) = some (seqObj "list" [v].toArray 0) := by
    rw [← hsz]; exact Heap.get?_push_size _ rfl
  show wpAny _ _ _ _ _ { s with heap := ((s.heap.push (seqObj "list" #[] 0)).update s.heap.objs.size (Obj.mapSeq (· ++ [v].toArray))).push (seqObj "list" [v].toArray 0) }
  rw [hsz]
  refine wpAny_bind (wpAny_holding (wpAny_call_entry slot_list_sort ⟨_, hoL, rfl⟩ entry_list_sort ?_ (args_list_sort _)))
  rw [list_sort_plain]
  have ha := Heap.lt_size hoL
  refine wpAny_bind (listItems_at hoL rfl ?_)
  refine wpAny_bind (listUpdate_at hoL rfl ?_)
  obtain ⟨e1, ho1⟩ : ∃ e1, ((((s.heap.push (seqObj "list" #[] 0)).update s.heap.objs.size (Obj.mapSeq (· ++ [v].toArray))).push (seqObj "list" [v].toArray 0)).update (s.heap.objs.size + 1) (Obj.mapSeq fun _ => #[])).get? (s.heap.objs.size + 1) = some (seqObj "list" #[] e1) := ⟨_, get?_update_seq hoL (fun _ => #[])⟩
  refine wpAny_bind (seqEpoch_at ho1 rfl ?_)
  refine wpAny_bind (wpAny_newTuple ?_)
  refine wpAny_bind (wpAny_newList ?_)
  refine wpAny_holding ?_
  have ho6 := Heap.get?_push_of_some (seqObj "list" #[] 0) (Heap.get?_push_of_some (seqObj "tuple" #[v] 0) ho1)
  rw [if_pos (by simp), if_pos (by simp)]
  refine wpAny_bind (wpAny_pure ?_)
  dsimp only
  rw [StateT.run_pure]
  refine wpAny_bind (wpAny_pure ?_)
  dsimp only
  refine wpAny_bind (seqEpoch_at ho6 rfl ?_)
  have ez : Array.map (fun x => x.snd) (arrOf (SortSt.mk' general' (#[v].zip #[v]) #[] 7 none)) = #[v] := by
    show Array.map (fun x => x.snd) (#[v].zip #[v]) = #[v]
    first | rfl | simp
  rw [ez]
  refine wpAny_bind (listUpdate_at ho6 rfl ?_ (hsz2 := by show 1 ≤ _; rw [sizeLine_eq]; omega))
  simp only [bne_self_eq_false, Bool.false_eq_true, if_false]
  exact wpAny_pure ⟨_, rfl, wpAny_pure ⟨_, rfl, h⟩⟩
end
end Mine

end
section
open PySem PySem.W PySem.Calls PyProof.Rows PySem.Spec
namespace Mine
section
variable {X : Cx} {h₀ : Heap} {L : Addr} {rest : List (Addr × Obj)} {as as' : List Addr} {r : Rs} {c : C} {s : Shared} {rec : Rec} {d : Nat} {sc : Scope} {A : Around} {env : Env} {E : Value → Shared → Prop}

theorem pair_str (K : Frag) : kitAny K (.type "str") [.type "list", .type "tuple"] = some false := by kernel_rfl
theorem pair_bool (K : Frag) : kitAny K (.type "bool") [.type "list", .type "tuple"] = some false := by kernel_rfl
theorem pair_none (K : Frag) : kitAny K (.type "NoneType") [.type "list", .type "tuple"] = some false := by kernel_rfl
theorem pair_list (K : Frag) : kitAny K (.type "list") [.type "list", .type "tuple"] = some true := by kernel_rfl
theorem pair_tuple (K : Frag) : kitAny K (.type "tuple") [.type "list", .type "tuple"] = some true := by kernel_rfl

theorem isi_ok (KO : Ok X) (J : Sit X d A sc env h₀ L) (S : St X h₀ L rest as c s) {v k : V} {u uk : Value} {b : Bool} {Q : Value → Shared → Prop} (h : isInst c v k = some b) (hv : VR X as v u) (hk : VR X as k uk)
    (hQ : ∀ n, Q (.bool b) { s with toks := n }) : wpAny (model X.prog X.w) A (call (.builtin "isinstance") [u, uk]) Q E s := by
  have XK : X.K.In s.heap := J.K.keeps S.keep
  obtain ⟨⟨g1, g2, g3, g4, g5, g6⟩, n1, n2, n3, n4, n5⟩ := KO.node
  unfold isInst at h
  split at h
  · rename_i D
    split at h
    · rename_i hD
      have : D = 31 := Nat.eq_of_beq_eq_true hD
      subst this
      cases hk
      split at h
      · rename_i i
        obtain ⟨a, ha, rfl⟩ := hv
        split at h
        · rename_i D dd hi
          split at h
          · rename_i hD
            have : D = 31 := Nat.eq_of_beq_eq_true hD
            subst this
            split at h
            · rename_i es hd
              cases h
              obtain ⟨dx, ds, n, hdx, I, f⟩ := inst_at S hi hd ha
              exact kia_one (kitx_own g1 g2 g3 g4 g5 g6) XK I (by unfold kitOne; simp) (fun q => by cases q) hQ
            · cases h
          · cases h
        · rename_i xs hi
          cases h
          obtain ⟨ob, ho, ys, n, rfl, f⟩ := S.here hi ha
          exact kia_one kitx_list XK ⟨_, ho, rfl⟩ n4 (fun q => by cases q) hQ
        · rename_i xs hi
          cases h
          obtain ⟨ob, ho, ys, n, rfl, f⟩ := S.here hi ha
          exact kia_one kitx_tuple XK ⟨_, ho, rfl⟩ n5 (fun q => by cases q) hQ
        · cases h
      · rename_i i
        cases h
        obtain ⟨a, ha, rfl⟩ := hv
        obtain ⟨dx, od, h1, h2⟩ := S.nds a (List.mem_of_getElem? ha)
        obtain ⟨m, objs, F, N, nd, hH, hL⟩ := S.ex
        exact kia_one (kitx_own g1 g2 g3 g4 g5 g6) XK ⟨N.get (List.mem_append.mpr (.inr h1)), rfl, rfl, N.get (List.mem_append.mpr (.inr h2))⟩ (by unfold kitOne; simp) (fun q => by cases q) hQ
      · cases h; obtain ⟨t, rfl⟩ := hv
        exact kia_one kitx_str XK trivial n1 (fun q => by cases q) hQ
      · cases h; cases hv
        exact kia_one kitx_none XK trivial n3 (fun q => by cases q) hQ
      · cases h; cases hv
        exact kia_one kitx_bool XK trivial n2 (fun q => by cases q) hQ
      · cases h
    · cases h
  · rename_i j
    obtain ⟨p, hp, rfl⟩ := hk
    split at h
    · rename_i a b hj
      split at h
      · rename_i hab
        simp only [Bool.and_eq_true, decide_eq_true_eq] at hab
        obtain ⟨rfl, rfl⟩ := hab
        obtain ⟨ob, ho, ys, n, rfl, f⟩ := S.here hj hp
        obtain ⟨y1, y2, rfl⟩ : ∃ y1 y2, ys = [y1, y2] := by
          cases f with | cons r f => cases f with | cons r f => cases f; exact ⟨_, _, rfl⟩
        cases f with
        | cons r1 f =>
          cases f with
          | cons r2 f =>
            cases r1; cases r2
            split at h
            · rename_i i
              obtain ⟨a, ha, rfl⟩ := hv
              split at h
              · rename_i xs hi
                cases h
                obtain ⟨ob, ho', ys, n, rfl, f⟩ := S.here hi ha
                exact kia_tup kitx_list XK ⟨_, ho', rfl⟩ ho (pair_list _) (fun q => by cases q) hQ
              · rename_i xs hi
                cases h
                obtain ⟨ob, ho', ys, n, rfl, f⟩ := S.here hi ha
                exact kia_tup kitx_tuple XK ⟨_, ho', rfl⟩ ho (pair_tuple _) (fun q => by cases q) hQ
              · cases h
            · cases h; obtain ⟨t, rfl⟩ := hv
              exact kia_tup kitx_str XK trivial ho (pair_str _) (fun q => by cases q) hQ
            · cases h; cases hv
              exact kia_tup kitx_none XK trivial ho (pair_none _) (fun q => by cases q) hQ
            · cases h; cases hv
              exact kia_tup kitx_bool XK trivial ho (pair_bool _) (fun q => by cases q) hQ
            · cases h
      · cases h
    · cases h
  · cases h

theorem f2_one {R : V → Value → Prop} {a : V} {us : List Value} (f : F2 R [a] us) : ∃ u, us = [u] ∧ R a u := by cases f with | cons r f => cases f; exact ⟨_, rfl, r⟩
theorem f2_two {R : V → Value → Prop} {a b : V} {us : List Value} (f : F2 R [a, b] us) : ∃ u w, us = [u, w] ∧ R a u ∧ R b w := by
  cases f with | cons r f => cases f with | cons r' f => cases f; exact ⟨_, _, rfl, r, r'⟩
theorem f2_nil {R : V → Value → Prop} {us : List Value} (f : F2 R [] us) : us = [] := by cases f; rfl

theorem bk_len {f : String} (h : bkOf f = .len) : f = "len" := by
  unfold bkOf at h; (repeat' split at h) <;> first | exact of_decide_eq_true ‹_› | cases h
theorem bk_ord {f : String} (h : bkOf f = .ord) : f = "ord" := by
  unfold bkOf at h; (repeat' split at h) <;> first | (cases h; done) | exact of_decide_eq_true ‹_›
theorem bk_min {f : String} (h : bkOf f = .min) : f = "min" := by
  unfold bkOf at h; (repeat' split at h) <;> first | (cases h; done) | exact of_decide_eq_true ‹_›
theorem bk_max {f : String} (h : bkOf f = .max) : f = "max" := by
  unfold bkOf at h; (repeat' split at h) <;> first | (cases h; done) | exact of_decide_eq_true ‹_›
theorem bk_sorted {f : String} (h : bkOf f = .sorted) : f = "sorted" := by
  unfold bkOf at h; (repeat' split at h) <;> first | (cases h; done) | exact of_decide_eq_true ‹_›
theorem bk_isi {f : String} (h : bkOf f = .isi) : f = "isinstance" := by
  unfold bkOf at h; (repeat' split at h) <;> first | (cases h; done) | exact of_decide_eq_true ‹_›
theorem tk_list {f : String} (h : tkOf f = .list) : f = "list" := by
  unfold tkOf at h; (repeat' split at h) <;> first | (cases h; done) | exact of_decide_eq_true ‹_›
theorem tk_tuple {f : String} (h : tkOf f = .tuple) : f = "tuple" := by
  unfold tkOf at h; (repeat' split at h) <;> first | (cases h; done) | exact of_decide_eq_true ‹_›
theorem tk_range {f : String} (h : tkOf f = .range) : f = "range" := by
  unfold tkOf at h; (repeat' split at h) <;> first | (cases h; done) | exact of_decide_eq_true ‹_›

theorem lenT_ok (KO : Ok X) (J : Sit X d A sc env h₀ L) (S : St X h₀ L rest as c s) {v : V} {u : Value} {Q : Value → Shared → Prop} (h : lenT X.t c v = some r) (hv : VR X as v u) (hQ : OKV X h₀ L rest as r Q) :
    wpAny (model X.prog X.w) A (call (.builtin "len") [u]) Q E s := by
  unfold lenT at h
  split at h
  · rename_i xs hg
    split at h
    · rename_i hb
      have hb := seq_small hb
      obtain ⟨b, ob, rfl, hne, ho, ys, n, rfl, f⟩ := get_ok KO J S hg hv
      have hl := f.length
      rw [List.length_reverse] at hl
      exact kun_lenL (k := xs.length) ⟨_, ho, rfl, n, rfl⟩ (by simp [hl]) (by omega) (hQ.val h (S.toks _) ⟨_, rfl⟩)
    · cases h
  · rename_i xs hg
    split at h
    · rename_i hb
      have hb := seq_small hb
      obtain ⟨b, ob, rfl, hne, ho, ys, n, rfl, f⟩ := get_ok KO J S hg hv
      have hl := f.length
      exact kun_lenT (k := xs.length) ⟨_, ho, rfl, n, rfl⟩ (by simp [hl]) (by omega) (hQ.val h (S.toks _) ⟨_, rfl⟩)
    · cases h
  · cases h
theorem ordS_ok (S : St X h₀ L rest as c s) {x : Str} {t : Tok} {Q : Value → Shared → Prop} (h : ordS c x = some r) (hQ : OKV X h₀ L rest as r Q) : wpAny (model X.prog X.w) A (call (.builtin "ord") [.str x t]) Q E s := by
  unfold ordS at h
  split at h
  · rename_i i hx
    have : x = ⟨#[i]⟩ := by
      cases x with | mk a => exact congrArg Str.mk (Array.ext' hx)
    subst this
    exact P.ord_of_char (hQ.val h (S.toks _) ⟨_, rfl⟩)
  · cases h
theorem sort1_ok (S : St X h₀ L rest as c s) {i : Nat} {a : Addr} {Q : Value → Shared → Prop} (h : sort1 c i = some r) (ha : as[i]? = some a) (hQ : OKV X h₀ L rest as r Q) : wpAny (model X.prog X.w) A (call (.builtin "sorted") [.ref a]) Q E s := by
  unfold sort1 at h
  split at h
  · rename_i v hi
    obtain ⟨ob, ho, ys, n, rfl, f⟩ := S.here hi ha
    obtain ⟨y, rfl, hy⟩ := f2_one f
    refine sorted_one ⟨_, ho, rfl, n, rfl⟩ ?_
    obtain ⟨m, objs, F, N, nd, hH, hL⟩ := S.ex
    obtain ⟨e, he⟩ := sortedAll_at s.heap [y] #[y]
    exact hQ.new h S (mk_alloc (n := s.toks) S nd hH hL (F.kept fun _ _ => sortedAll_old) (N.kept_cons F (fun _ _ => sortedAll_old) (Nat.le_succ _) he) (fun p hp => Nat.lt_succ_of_lt (Heap.lt_size (N p hp).1)) ⟨[y], e, rfl, .cons (hy.ext (Ext.push _ _)) .nil⟩)
  · cases h
theorem builtin_ok (KO : Ok X) (J : Sit X d A sc env h₀ L) (S : St X h₀ L rest as c s) {f : String} {args : List V} {us : List Value} {Q : Value → Shared → Prop} (h : builtin X.t c f args = some r) (fa : F2 (VR X as) args us) (hQ : OKV X h₀ L rest as r Q) :
    wpAny (model X.prog X.w) A (call (.builtin f) us) Q E s := by
  unfold builtin at h
  cases hf : bkOf f <;> rw [hf] at h <;> first | (cases h; done) | skip
  · have hq := arg1_some h; clear h; obtain ⟨v, rfl, h⟩ := hq
    cases bk_len hf
    obtain ⟨u, rfl, hv⟩ := f2_one fa
    cases v <;> first | exact lenT_ok KO J S (by exact h) hv hQ | skip
    rename_i x
    change VR X as (V.str x) u at hv
    obtain ⟨t, rfl⟩ := hv
    change (match Nat.blt x.length 1000 with | true => val (.int x.length) c | false => none) = some r at h
    split at h
    · rename_i hb
      have hb := seq_small hb
      exact PyProof.Rows.len_str (by omega) (hQ.val h (S.toks _) ⟨_, rfl⟩)
    · cases h
  · have hq := arg1_some h; clear h; obtain ⟨v, rfl, h⟩ := hq
    have hq := onStr_some h; clear h; obtain ⟨x, rfl, h⟩ := hq
    cases bk_ord hf
    obtain ⟨u, rfl, t, rfl⟩ := f2_one fa
    exact ordS_ok S h hQ
  · have hq := arg2_some h; clear h; obtain ⟨v, w, rfl, h⟩ := hq
    have hq := onInts_some h; clear h; obtain ⟨i, j, rfl, rfl, h⟩ := hq
    cases bk_min hf
    obtain ⟨u, w, rfl, ⟨t, rfl⟩, t', rfl⟩ := f2_two fa
    refine min_two_ints J.handled fun h' tk hk => ?_
    by_cases q : j < i
    · rw [if_pos q] at h ⊢; exact hQ.val h (S.kept hk) ⟨_, rfl⟩
    · rw [if_neg q] at h ⊢; exact hQ.val h (S.kept hk) ⟨_, rfl⟩
  · have hq := arg2_some h; clear h; obtain ⟨v, w, rfl, h⟩ := hq
    have hq := onInts_some h; clear h; obtain ⟨i, j, rfl, rfl, h⟩ := hq
    cases bk_max hf
    obtain ⟨u, w, rfl, ⟨t, rfl⟩, t', rfl⟩ := f2_two fa
    refine max_two_ints J.handled fun h' tk hk => ?_
    by_cases q : i < j
    · rw [if_pos q] at h; rw [if_pos (show j > i from q)]; exact hQ.val h (S.kept hk) ⟨_, rfl⟩
    · rw [if_neg q] at h; rw [if_neg (show ¬ j > i from q)]; exact hQ.val h (S.kept hk) ⟨_, rfl⟩
  · have hq := arg1_some h; clear h; obtain ⟨v, rfl, h⟩ := hq
    have hq := onRef_some h; clear h; obtain ⟨x, rfl, h⟩ := hq
    cases bk_sorted hf
    obtain ⟨u, rfl, a, ha, rfl⟩ := f2_one fa
    exact sort1_ok S h ha hQ
  · have hq := arg2_some h; clear h; obtain ⟨v, k, rfl, h⟩ := hq
    cases bk_isi hf
    obtain ⟨u, w, rfl, hv, hk⟩ := f2_two fa
    unfold isiV at h
    split at h
    · rename_i b hi
      exact isi_ok KO J S hi hv hk fun n => hQ.val h (S.toks n) rfl
    · cases h

theorem listT_ok (KO : Ok X) (J : Sit X d A sc env h₀ L) (S : St X h₀ L rest as c s) {v : V} {u : Value} {Q : Value → Shared → Prop} (h : listT X.t c v = some r) (hv : VR X as v u) (hQ : OKV X h₀ L rest as r Q) :
    wpAny (model X.prog X.w) A (call (.type "list") [u]) Q E s := by
  obtain ⟨m, objs, F, N, nd, hH, hL⟩ := S.ex
  unfold listT at h
  split at h
  · rename_i xs hg
    split at h
    · rename_i hb
      have hb := seq_small hb
      obtain ⟨b, ob, rfl, hne, ho, ys, n, rfl, f⟩ := get_ok KO J S hg hv
      have hl := f.length
      rw [List.length_reverse] at hl
      refine list_copyK F N ⟨_, ho, rfl, n, rfl⟩ (fun D e h' F' N' lt => ?_) (by rw [List.size_toArray, sizeLine_eq]; omega)
      exact hQ.new h S (mk_alloc (n := s.toks) S nd hH hL F' N' lt ⟨ys, e, rfl, f.mono fun _ _ q => q.ext (Ext.push _ _)⟩)
    · cases h
  · rename_i xs hg
    split at h
    · rename_i hb
      have hb := seq_small hb
      obtain ⟨b, ob, rfl, hne, ho, ys, n, rfl, f⟩ := get_ok KO J S hg hv
      have hl := f.length
      refine list_copyKT F N ⟨_, ho, rfl, n, rfl⟩ (fun D e h' F' N' lt => ?_) (by rw [List.size_toArray, sizeLine_eq]; omega)
      exact hQ.new h S (mk_alloc (n := s.toks) S nd hH hL F' N' lt ⟨ys, e, rfl, by rw [List.reverse_reverse]; exact f.mono fun _ _ q => q.ext (Ext.push _ _)⟩)
    · cases h
  · cases h
theorem tupT_ok (KO : Ok X) (J : Sit X d A sc env h₀ L) (S : St X h₀ L rest as c s) {v : V} {u : Value} {Q : Value → Shared → Prop} (h : tupT X.t c v = some r) (hv : VR X as v u) (hQ : OKV X h₀ L rest as r Q) :
    wpAny (model X.prog X.w) A (call (.type "tuple") [u]) Q E s := by
  obtain ⟨m, objs, F, N, nd, hH, hL⟩ := S.ex
  unfold tupT at h
  split at h
  · rename_i xs hg
    split at h
    · rename_i hb
      have hb := seq_small hb
      obtain ⟨b, ob, rfl, hne, ho, ys, n, rfl, f⟩ := get_ok KO J S hg hv
      have hl := f.length
      rw [List.length_reverse] at hl
      refine call_tuple_list ⟨_, ho, rfl, n, rfl⟩ (fun h' hk => ?_) (by rw [List.size_toArray, sizeLine_eq]; omega)
      have F' := F.kept hk
      have N' : News h₀ L h' (objs ++ rest) := fun p hp => ⟨hk _ _ (N p hp).1, (N p hp).2⟩
      exact hQ.new h S (mk_alloc (n := s.toks) S nd hH hL (F'.push _) (N'.push F' _) (fun p hp => Heap.lt_size (N' p hp).1) ⟨ys, 0, rfl, f.mono fun _ _ q => q.ext (Ext.push _ _)⟩)
    · cases h
  · cases h
theorem typeCall_ok (KO : Ok X) (J : Sit X d A sc env h₀ L) (S : St X h₀ L rest as c s) {f : String} {args : List V} {us : List Value} {Q : Value → Shared → Prop} (h : typeCall X.t c f args = some r) (fa : F2 (VR X as) args us) (hQ : OKV X h₀ L rest as r Q) :
    wpAny (model X.prog X.w) A (call (.type f) us) Q E s := by
  unfold typeCall at h
  cases hf : tkOf f <;> rw [hf] at h <;> first | (cases h; done) | skip
  · have hq := arg1_some h; clear h; obtain ⟨v, rfl, h⟩ := hq
    cases tk_list hf
    obtain ⟨u, rfl, hv⟩ := f2_one fa
    exact listT_ok KO J S h hv hQ
  · have hq := arg1_some h; clear h; obtain ⟨v, rfl, h⟩ := hq
    cases tk_tuple hf
    obtain ⟨u, rfl, hv⟩ := f2_one fa
    exact tupT_ok KO J S h hv hQ
  · have hq := arg1_some h; clear h; obtain ⟨v, rfl, h⟩ := hq
    have hq := onInt_some h; clear h; obtain ⟨x, rfl, h⟩ := hq
    cases tk_range hf
    obtain ⟨u, rfl, t, rfl⟩ := f2_one fa
    unfold rngI at h
    split at h
    · refine call_range_1 ?_
      obtain ⟨m, objs, F, N, nd, hH, hL⟩ := S.ex
      exact hQ.new h S (mk_alloc (n := _) S nd hH hL (F.push _) (N.push F _) (fun p hp => Heap.lt_size (N p hp).1) ⟨_, _, _, rfl⟩)
    · cases h
end
end Mine

end
section
open PySem PySem.W PySem.Calls PyProof.Rows PySem.Spec
namespace Mine
section
variable {X : Cx} {h₀ : Heap} {L : Addr} {rest : List (Addr × Obj)} {as as' : List Addr} {r : Rs} {c : C} {s : Shared} {rec : Rec} {d : Nat} {sc : Scope} {A : Around} {env : Env} {E : Value → Shared → Prop}

theorem news_updAt {h h' : Heap} {news : List (Addr × Obj)} {i : Nat} {a : Addr} {o o' : Obj} (N : News h₀ L h news) (nd : (news.map (·.1)).Nodup) (hi : news[i]? = some (a, o)) (hs : Heap.SameBut a h h') (ho : h'.get? a = some o') :
    News h₀ L h' (news.set i (a, o')) := by
  obtain ⟨pre, post, e1, e2, h1, h2⟩ := (upd_at (o' := o') hi nd).split
  rw [e2]; rw [e1] at N
  exact news_set N h1 h2 hs ho

theorem meth_open {o : PySem.Expr} {name : Str} {apos pos : Pos} {args : List PySem.Expr} {Q : Value → Shared → Prop} (hb : okBase o = true) (ns : noStar args = true) (hlen : args.length < 20) (hline : (apos.endLine == pos.line) = true)
    (h : wpAny (model X.prog X.w) A (eval o env) (fun ov s₁ => wpAny (model X.prog X.w) A (getMethod ov name (do return (← importBound o env).getD true)) (fun fm s₂ => wpAny (model X.prog X.w) A (callWith pos fm.1 fm.2 (backTo pos (starEach args env)) []) Q E s₂) E s₁) E s) :
    wpAny (model X.prog X.w) A (eval (.Call (.Attribute o name apos) args [] pos) env) Q E s := by
  have hbase : attributeBase o name env (eval o env) = eval o env := by cases o <;> first | rfl | (cases hb; done)
  have hform : methodCallForm (args.length + ([] : List PySem.Keyword).length) (backTo pos (starEach args env)) (backToKw pos (keywordEach [] env)) = true := by
    unfold methodCallForm
    have h1 : (backTo pos (starEach args env)).all (fun x => !x.1) = true := by
      have := noStar_any (env := env) (pos := pos) ns
      rw [List.any_eq_false] at this
      exact List.all_eq_true.mpr fun x hx => by simpa using this x hx
    rw [h1]
    have h2 : (backToKw pos (keywordEach [] env)).all (fun x => x.1.isSome) = true := rfl
    rw [h2]
    simp only [List.length_nil, Nat.add_zero, Bool.true_and]
    refine decide_eq_true ?_
    have : (if (backToKw pos (keywordEach [] env)).isEmpty = true then 0 else 1) = 0 := rfl
    omega
  have hpos : methodCallPos true o env apos pos = pure pos := by unfold methodCallPos; simp [hline]
  rw [arm_eval_Call, hbase]
  refine wpAny_bind (wpAny_mono h (fun ov s₁ h₁ => ?_) fun _ _ e => e)
  refine wpAny_bind (wpAny_standAt ?_)
  unfold methodCall
  rw [hform]
  refine wpAny_bind (wpAny_holding (wpAny_mono h₁ (fun fm s₂ h₂ => ?_) fun _ _ e => e))
  obtain ⟨f, first⟩ := fm
  exact wpAny_bind (wpAny_of_eq hpos h₂)

theorem keep_builtin {M : Model} {id : String} (h : Heap) (_ : True) : ∃ k, (k = Keeper.frame ∨ k = Keeper.machine ∨ k = Keeper.boundFrame) ∧ Looks M h (keeperOf (.builtin id)) k := ⟨.machine, .inr (.inl rfl), Looks.of_pure rfl⟩
theorem keep_type {M : Model} {id : String} (h : Heap) (_ : True) : ∃ k, (k = Keeper.frame ∨ k = Keeper.machine ∨ k = Keeper.boundFrame) ∧ Looks M h (keeperOf (.type id)) k := ⟨.machine, .inr (.inl rfl), Looks.of_pure rfl⟩

theorem mk_append {n : Str} (h : mkOf n = .append) : n = "append" := by
  unfold mkOf at h; (repeat' split at h) <;> first | (cases h; done) | exact eqS_iff.mp ‹_›
theorem mk_pop {n : Str} (h : mkOf n = .pop) : n = "pop" := by
  unfold mkOf at h; (repeat' split at h) <;> first | (cases h; done) | exact eqS_iff.mp ‹_›
theorem mk_extend {n : Str} (h : mkOf n = .extend) : n = "extend" := by
  unfold mkOf at h; (repeat' split at h) <;> first | (cases h; done) | exact eqS_iff.mp ‹_›

theorem strMeth_ok (S : St X h₀ L rest as c s) {x : Str} {t : Tok} {args : List V} {us : List Value} {Q : Value → Shared → Prop} (h : strMeth x args c = some r) (fa : F2 (VR X as) args us) (hQ : OKV X h₀ L rest as r Q) :
    wpAny (model X.prog X.w) A (call (.builtin "str.count") ([.str x t] ++ us)) Q E s := by
  unfold strMeth at h
  split at h
  · obtain ⟨u, rfl, t', rfl⟩ := f2_one fa
    split at h
    · exact SC.count (hQ.val h (S.toks _) ⟨_, rfl⟩)
    · cases h
  · cases h

theorem dictMeth_ok (S : St X h₀ L rest as c s) {es : List (Str × V)} {ds : List DictEntry} {n : Nat} {b : Addr} {args : List V} {us : List Value} {Q : Value → Shared → Prop} (h : dictMeth es args c = some r) (hne : b ≠ sysModules)
    (ho : s.heap.get? b = some (dictOf ds n)) (f : F2 (ER X as) es ds) (fa : F2 (VR X as) args us) (hQ : OKV X h₀ L rest as r Q) :
    wpAny (model X.prog X.w) A (call (.builtin "dict.get") ([.ref b] ++ us)) Q E s := by
  unfold dictMeth at h
  split at h
  · rename_i k
    obtain ⟨u, rfl, t', rfl⟩ := f2_one fa
    have M := map_of (X := X) (s := s) ho f
    refine call_meetsIn F.slot_dict_get M.typeIs F.entry_dict_get (F.args_dict_get_2 _ _) (meets_dict_get (strKind X.prog X.w) b (strKind_is _ _ k _) (beq_eq_false_iff_ne.mpr hne)) ⟨_, M, ?_⟩
    have z := find_ok f (k := k)
    cases q : lk k es with
    | none => rw [z.2 q]; rw [q] at h; exact hQ.val h (S.toks _) rfl
    | some v => obtain ⟨u, hu, hv⟩ := z.1 v q; rw [hu]; rw [q] at h; exact hQ.val h (S.toks _) hv
  · cases h

theorem listMeth_ok (S : St X h₀ L rest as c s) {k : MK} {i : Nat} {xs : List V} {b : Addr} {args : List V} {us : List Value} {Q : Value → Shared → Prop} (h : listMeth k i xs args c = some r) (hi : c.H[i]? = some (.list xs)) (hb : as[i]? = some b)
    (fa : F2 (VR X as) args us) (hQ : OKV X h₀ L rest as r Q) :
    (k = .append ∧ wpAny (model X.prog X.w) A (call (.builtin "list.append") ([.ref b] ++ us)) Q E s) ∨ (k = .pop ∧ wpAny (model X.prog X.w) A (call (.builtin "list.pop") ([.ref b] ++ us)) Q E s) ∨ (k = .extend ∧ wpAny (model X.prog X.w) A (call (.builtin "list.extend") ([.ref b] ++ us)) Q E s) := by
  obtain ⟨m, objs, F, N, nd, hH, hL⟩ := S.ex
  obtain ⟨ob, hm, ys, n, rfl, f⟩ := hH.at hi hb
  have hm' : (objs ++ rest)[i]? = some (b, listOf ys.toArray n) := by rw [List.getElem?_append_left (List.getElem?_eq_some_iff.mp hm).1]; exact hm
  have hl := f.length
  rw [List.length_reverse] at hl
  unfold listMeth at h
  split at h
  · rename_i v
    refine .inl ⟨rfl, ?_⟩
    obtain ⟨u, rfl, hv⟩ := f2_one fa
    split at h
    · rename_i hbl
      have hbl := seq_small hbl
      refine append_K F N (upd_at hm' nd) (fun h' F' N' => ?_) (by rw [List.size_toArray, sizeLine_eq]; omega)
      refine hQ.val h (mk_upd (n := s.toks) S nd hH hL hm F' N' ⟨ys ++ [u], n + 1, by simp, ?_⟩) rfl
      rw [List.reverse_cons]; exact f.append (.cons hv .nil)
    · cases h
  · refine .inr (.inl ⟨rfl, ?_⟩)
    cases f2_nil fa
    split at h
    · rename_i v xs
      split at h
      · rename_i hbl
        have hbl := seq_small hbl
        have f' := f.reverse
        rw [List.reverse_reverse] at f'
        obtain ⟨y, zs, hz, hv, fz⟩ : ∃ y zs, ys.reverse = y :: zs ∧ VR X as v y ∧ F2 (VR X as) xs zs := by
          generalize ys.reverse = q at f'
          cases f' with | cons r f => exact ⟨_, _, rfl, r, f⟩
        have hys : ys = zs.reverse ++ [y] := by rw [← List.reverse_reverse ys, hz, List.reverse_cons]
        refine kl_pop F N (p := zs.reverse) (y := y) (by rw [hys]; simpa using kpa_last y zs.reverse) (upd_at hm' nd) (by simp at hl ⊢; rw [sizeLine_eq]; omega) fun h' F' N' => ?_
        exact hQ.val h (mk_upd (n := s.toks) S nd hH hL hm F' N' ⟨zs.reverse, n + 1, by simp, fz.reverse⟩) hv
      · cases h
    · cases h
  · rename_i j
    refine .inr (.inr ⟨rfl, ?_⟩)
    obtain ⟨u, rfl, b2, hb2, rfl⟩ := f2_one fa
    split at h
    · cases h
    · split at h
      · rename_i hij ys2 hj
        split at h
        · rename_i hbl
          simp only [Bool.and_eq_true] at hbl
          have h1 := seq_small hbl.1
          have h2 := seq_small hbl.2
          obtain ⟨ob2, ho2, zs, n2, rfl, f2⟩ := S.here hj hb2
          have hl2 := f2.length
          rw [List.length_reverse] at hl2
          have z := N _ (List.mem_of_getElem? hm')
          have hs : Heap.SameBut b s.heap (s.heap.update b (Obj.mapSeq (· ++ zs.toArray))) := Heap.SameBut.update ..
          have ho' : (s.heap.update b (Obj.mapSeq (· ++ zs.toArray))).get? b = some (Obj.mapSeq (· ++ zs.toArray) (listOf ys.toArray n)) := Heap.get?_update_self _ z.1 rfl
          refine call_meets PySem.F.slot_list_extend ⟨_, z.1, rfl⟩ PySem.F.entry_list_extend (PySem.F.args_list_extend_2 _ _)
            (AutoSeq1.list_extend_list_list_0 b ys.toArray n b2 zs.toArray n2 ?_ (by rw [List.size_toArray, sizeLine_eq]; omega) (by rw [List.size_toArray, List.size_toArray, sizeLine_eq]; omega)) ⟨z.1, ho2, ?_⟩
          · simp only [Builtin.List.listTooLong]
            have := sizeLine_eq
            simp
            omega
          · refine hQ.val h (mk_upd (n := s.toks) S nd hH hL hm (F.change hs z.2.1 z.2.2) (news_updAt N nd hm' hs ho') ⟨ys ++ zs, _, by simp [Obj.mapSeq]; rfl, ?_⟩) rfl
            rw [List.reverse_append]; exact f.append f2
        · cases h
      · cases h
  · cases h

theorem call_run {f : Addr} {us : List Value} {Q : Value → Shared → Prop} (h : codeAny (model X.prog X.w) A (.call (.ref f) ⟨us, []⟩) (fun r s' => match r with | .ok (.ret v) => Q v s' | .ok _ => False | .error e => E e s') s) :
    wpAny (model X.prog X.w) A (call (.ref f) us) Q E s := wpAny_call h

theorem slot_count : PySem.Slot "str" "count" "str.count" := PySem.F.slot_str_count

theorem exCall_ok (KO : Ok X) (ih : Sound X rec) {f : PySem.Expr} {args : List PySem.Expr} {kw : List PySem.Keyword} {pos : Pos} {Q : Value → Shared → Prop} (h : exCall X.t rec d sc f args kw pos c = some r) (J : Sit X d A sc env h₀ L) (S : St X h₀ L rest as c s)
    (hE : EP X h₀ L rest as r E) (hQ : OKV X h₀ L rest as r Q) : wpAny (model X.prog X.w) A (eval (.Call f args kw pos) env) Q E s := by
  unfold exCall at h
  split at h
  · cases h
  · split at h
    · cases h
    · rename_i hg
      simp only [Bool.and_eq_true] at hg
      obtain ⟨ns, hl⟩ := hg
      have hl : args.length < 20 := Nat.le_of_ble_eq_true hl
      split at h
      · rename_i o name apos
        split at h
        · rename_i hob
          simp only [Bool.and_eq_true] at hob
          obtain ⟨hob, hline⟩ := hob
          refine meth_open hob ns hl (by rw [Nat.eq_of_beq_eq_true hline]; simp) ?_
          refine useV ih h J S hE fun ov c1 as1 s1 u1 h1 x1 S1 V1 => ?_
          unfold methCall at h1
          split at h1
          · rename_i x
            obtain ⟨t, rfl⟩ := V1
            split at h1
            · rename_i hn
              cases eqS_iff.mp hn
              refine getMethod_builtin (T := "str") rfl PySem.F.plainAttrs_str PySem.F.slot_str_count PySem.F.type_str_count (fun a e => by cases e) ?_
              refine call_es (P := fun _ => True) ns keep_builtin (useVs ih h1 ns J S1 (hE.ext x1) fun vs c2 as2 s2 us h2 x2 S2 V2 => ⟨trivial, ?_⟩)
              exact strMeth_ok S2 h2 V2 (hQ.ext (x1.trans x2))
            · cases h1
          · rename_i i
            obtain ⟨b, hb, rfl⟩ := V1
            split at h1
            · rename_i xs hi
              obtain ⟨ob, ho, ys, n, rfl, f⟩ := S1.here hi hb
              split at h1
              · cases h1
              · rename_i hk
                have fin : ∀ (vs : List V) (c2 : Mine.C) (as2 : List Addr) (s2 : Shared) (us : List Value), (match c2.H[i]? with | some (.list xs) => listMeth (mkOf name) i xs vs c2 | _ => none) = some r → Ext as1 as2 → St X h₀ L rest as2 c2 s2 → F2 (VR X as2) vs us →
                    ∃ xs, listMeth (mkOf name) i xs vs c2 = some r ∧ c2.H[i]? = some (.list xs) := by
                  intro vs c2 as2 s2 us h2 x2 S2 V2
                  split at h2
                  · rename_i xs hx; exact ⟨xs, h2, hx⟩
                  · cases h2
                rcases hmk : mkOf name with _ | _ | _ | _
                · cases mk_append hmk
                  refine getMethod_builtin (T := "list") ⟨_, ho, rfl⟩ PySem.F.plainAttrs_list PySem.F.slot_list_append PySem.F.type_list_append (fun a e => by cases e; exact ⟨_, ho, rfl⟩) ?_
                  refine call_es (P := fun _ => True) ns keep_builtin (useVs ih h1 ns J S1 (hE.ext x1) fun vs c2 as2 s2 us h2 x2 S2 V2 => ⟨trivial, ?_⟩)
                  obtain ⟨xs, h3, hx⟩ := fin _ _ _ _ _ h2 x2 S2 V2
                  rw [hmk] at h3
                  rcases listMeth_ok S2 h3 hx (x2.at hb) V2 (hQ.ext (x1.trans x2)) with ⟨_, z⟩ | ⟨z, _⟩ | ⟨z, _⟩
                  · exact z
                  · cases z
                  · cases z
                · cases mk_pop hmk
                  refine getMethod_builtin (T := "list") ⟨_, ho, rfl⟩ PySem.F.plainAttrs_list PySem.F.slot_list_pop PySem.F.type_list_pop (fun a e => by cases e; exact ⟨_, ho, rfl⟩) ?_
                  refine call_es (P := fun _ => True) ns keep_builtin (useVs ih h1 ns J S1 (hE.ext x1) fun vs c2 as2 s2 us h2 x2 S2 V2 => ⟨trivial, ?_⟩)
                  obtain ⟨xs, h3, hx⟩ := fin _ _ _ _ _ h2 x2 S2 V2
                  rw [hmk] at h3
                  rcases listMeth_ok S2 h3 hx (x2.at hb) V2 (hQ.ext (x1.trans x2)) with ⟨z, _⟩ | ⟨_, z⟩ | ⟨z, _⟩
                  · cases z
                  · exact z
                  · cases z
                · cases mk_extend hmk
                  refine getMethod_builtin (T := "list") ⟨_, ho, rfl⟩ PySem.F.plainAttrs_list PySem.F.slot_list_extend PySem.F.type_list_extend (fun a e => by cases e; exact ⟨_, ho, rfl⟩) ?_
                  refine call_es (P := fun _ => True) ns keep_builtin (useVs ih h1 ns J S1 (hE.ext x1) fun vs c2 as2 s2 us h2 x2 S2 V2 => ⟨trivial, ?_⟩)
                  obtain ⟨xs, h3, hx⟩ := fin _ _ _ _ _ h2 x2 S2 V2
                  rw [hmk] at h3
                  rcases listMeth_ok S2 h3 hx (x2.at hb) V2 (hQ.ext (x1.trans x2)) with ⟨z, _⟩ | ⟨z, _⟩ | ⟨_, z⟩
                  · cases z
                  · cases z
                  · exact z
                · exact absurd hmk hk
            · rename_i es hi
              split at h1
              · rename_i hn
                cases eqS_iff.mp hn
                obtain ⟨ob, ho, ds, n, rfl, f⟩ := S1.here hi hb
                refine getMethod_builtin (T := "dict") ⟨_, ho, rfl⟩ PySem.F.plainAttrs_dict PySem.F.slot_dict_get PySem.F.type_dict_get (fun a e => by cases e; exact ⟨_, ho, rfl⟩) ?_
                refine call_es (P := fun _ => True) ns keep_builtin (useVs ih h1 ns J S1 (hE.ext x1) fun vs c2 as2 s2 us h2 x2 S2 V2 => ⟨trivial, ?_⟩)
                split at h2
                · rename_i es hx
                  obtain ⟨ob, ho, ds, n, rfl, f⟩ := S2.here hx (x2.at hb)
                  exact dictMeth_ok S2 h2 (ref_new KO J S2 hx (x2.at hb)) ho f V2 (hQ.ext (x1.trans x2))
                · cases h2
              · cases h1
            · rename_i C dd hi
              split at h1
              · rename_i f hf
                split at h1
                · rename_i es hd
                  split at h1
                  · rename_i hlk
                    obtain ⟨dx, ds, n, hdx, I, fe⟩ := inst_at S1 hi hd hb
                    obtain ⟨g1, g2, g3, g4⟩ := KO.meth C name f hf
                    obtain ⟨m, objs, F, N, nd, hH, hL⟩ := S1.ex
                    refine method_inst F J.K I g1 g2 g3 ((getL_lk fe (k := name)).2 hlk) ?_
                    refine call_es (P := fun h => X.K.In h) ns (keeps_K g4) (useVs ih h1 ns J S1 (hE.ext x1) fun vs c2 as2 s2 us h2 x2 S2 V2 => ⟨J.K.keeps S2.keep, ?_⟩)
                    exact call_run (ih.call h2 J S2 (.cons ⟨b, x2.at hb, rfl⟩ V2) (hE.ext (x1.trans x2)) (hQ.ext (x1.trans x2)))
                  · cases h1
                · cases h1
              · cases h1
            · cases h1
          · cases h1
        · cases h
      · rename_i x p
        have nm : ∀ {v : V}, loadN X.t sc x c = some v → ∀ {Q' : Value → Shared → Prop}, (∀ u, VR X as v u → Q' u s) → wpAny (model X.prog X.w) A (eval (.Name x p) env) Q' E s := fun hv _ hq => load_ok KO J S hv hq
        split at h
        · rename_i n hx
          refine wpAny_Call_NameR (nm hx fun u hu => ?_)
          cases hu
          refine call_es (P := fun _ => True) (first := []) ns keep_builtin (useVs ih h ns J S hE fun vs c2 as2 s2 us h2 x2 S2 V2 => ⟨trivial, ?_⟩)
          exact builtin_ok KO J S2 h2 V2 (hQ.ext x2)
        · rename_i n hx
          refine wpAny_Call_NameR (nm hx fun u hu => ?_)
          cases hu
          refine call_es (P := fun _ => True) (first := []) ns keep_type (useVs ih h ns J S hE fun vs c2 as2 s2 us h2 x2 S2 V2 => ⟨trivial, ?_⟩)
          exact typeCall_ok KO J S2 h2 V2 (hQ.ext x2)
        · rename_i a hx
          refine wpAny_Call_NameR (nm hx fun u hu => ?_)
          cases hu
          split at h
          · rename_i hc
            have hc' : (X.t.fn a).isSome = true ∨ (X.t.init a).isSome = true ∨ a = 233 ∨ a = 387 := by
              unfold callable at hc
              simp only [Bool.or_eq_true] at hc
              rcases hc with ((hc | hc) | hc) | hc
              · exact .inl hc
              · exact .inr (.inl hc)
              · exact .inr (.inr (.inl (Nat.eq_of_beq_eq_true hc)))
              · exact .inr (.inr (.inr (Nat.eq_of_beq_eq_true hc)))
            refine call_es (P := fun h => X.K.In h) (first := []) ns (keeps_K (KO.keep a hc')) (useVs ih h ns J S hE fun vs c2 as2 s2 us h2 x2 S2 V2 => ⟨J.K.keeps S2.keep, ?_⟩)
            exact call_run (ih.call h2 J S2 V2 (hE.ext x2) (hQ.ext x2))
          · cases h
        · cases h
      · cases h
end
end Mine

end
section
open PySem PySem.W PySem.Calls PyProof.Rows PySem.Spec
namespace Mine
section
variable {X : Cx} {h₀ : Heap} {L : Addr} {rest : List (Addr × Obj)} {as as' : List Addr} {r : Rs} {c : C} {s : Shared} {rec : Rec} {d : Nat} {sc : Scope} {A : Around} {env : Env} {E : Value → Shared → Prop}

theorem keysOf_cons {k : Option PySem.Expr} {r : List (Option PySem.Expr)} {l : List Str} (h : keysOf (k :: r) = some l) : ∃ x n p l', k = some (.Constant (.str x) n p) ∧ keysOf r = some l' ∧ l = x :: l' := by
  cases k with
  | none => cases h
  | some e =>
    cases e <;> first | (cases h; done) | skip
    rename_i k n p
    cases k <;> first | (cases h; done) | skip
    simp only [keysOf] at h
    split at h
    · cases h; exact ⟨_, _, _, _, rfl, ‹_›, rfl⟩
    · cases h

theorem pairs_ok (KO : Ok X) (J : Sit X d A sc env h₀ L) {pos : Pos} : ∀ {ks : List (Option PySem.Expr)} {es : List PySem.Expr} {names : List Str} {vs : List V} {l : List (Str × V)} {s : Shared} {Q : List (Value × Value) → Shared → Prop}, St X h₀ L rest as c s → keysOf ks = some names → pureVals X.t sc c es = some vs → zipS names vs = some l →
    (∀ us n, F2 (fun (p : Str × V) (u : Value × Value) => (∃ t, u.1 = .str p.1 t) ∧ VR X as p.2 u.2) l us → Q us { s with toks := n }) →
    ks.all (·.isSome) = true ∧ ks.length = es.length ∧ names = l.map (·.1) ∧ wpAny (model X.prog X.w) A (evalPairs (pairTrees ks es env pos)) Q E s
  | [], [], names, vs, l, s, Q, S, h1, h2, h3, hQ => by
    cases h1; cases h2; cases h3
    exact ⟨rfl, rfl, rfl, evalPairs_nil (hQ [] s.toks .nil)⟩
  | [], e :: es, names, vs, l, s, Q, S, h1, h2, h3, hQ => by
    exfalso
    cases h1
    cases vs with
    | nil => cases e <;> simp only [pureVals] at h2 <;> first | (cases h2; done) | skip
             · rename_i k n p; cases k <;> simp only at h2 <;> first | (cases h2; done) | (split at h2 <;> cases h2)
             · split at h2
               · split at h2 <;> cases h2
               · cases h2
    | cons v vs => cases h3
  | k :: ks, [], names, vs, l, s, Q, S, h1, h2, h3, hQ => by
    exfalso
    obtain ⟨x, n, p, l', rfl, hk, rfl⟩ := keysOf_cons h1
    cases h2; cases h3
  | k :: ks, e :: es, names, vs, l, s, Q, S, h1, h2, h3, hQ => by
    obtain ⟨x, n, p, names', rfl, hk, rfl⟩ := keysOf_cons h1
    have main : ∃ v vs', vs = v :: vs' ∧ pureVals X.t sc c es = some vs' ∧ ∀ {s : Shared} {Q' : Value → Shared → Prop}, St X h₀ L rest as c s → (∀ u n, VR X as v u → Q' u { s with toks := n }) → wpAny (model X.prog X.w) A (eval e env) Q' E s := by
      cases e <;> simp only [pureVals] at h2 <;> first | (cases h2; done) | skip
      · rename_i k n p
        cases k <;> simp only at h2 <;> first | (cases h2; done) | skip
        split at h2
        · cases h2; exact ⟨_, _, rfl, ‹_›, fun S' hq => wpAny_Constant_str (hq _ _ ⟨_, rfl⟩)⟩
        · cases h2
      · split at h2
        · rename_i v hv
          split at h2
          · cases h2; exact ⟨_, _, rfl, ‹_›, fun {s'} _ S' hq => load_ok KO J S' hv fun u hu => hq u s'.toks hu⟩
          · cases h2
        · cases h2
    obtain ⟨v, vs', rfl, hvs, hev⟩ := main
    simp only [zipS] at h3
    split at h3
    · rename_i l' hl
      cases h3
      have rec' := fun {s : Shared} {Q : List (Value × Value) → Shared → Prop} (S : St X h₀ L rest as c s) hq => pairs_ok (s := s) (Q := Q) KO J (pos := pos) S hk hvs hl hq
      obtain ⟨e1, e2, e3, _⟩ := rec' (Q := fun _ _ => True) S (fun _ _ _ => trivial)
      refine ⟨by rw [List.all_cons, e1]; rfl, by rw [List.length_cons, List.length_cons, e2], by rw [List.map_cons, e3], ?_⟩
      refine evalPairs_cons (wpAny_Constant_str (wpAny_bind (hev (S.toks _) fun u n hu => wpAny_bind (wpAny_standAt (wpAny_pure ?_)))))
      refine (rec' (S.toks _) fun us n' f => ?_).2.2.2
      exact hQ _ _ (.cons ⟨⟨_, rfl⟩, hu⟩ f)
    · cases h3

theorem fresh_nodup : ∀ {l : List Str}, freshKeys l = true → l.Nodup
  | [], _ => .nil
  | a :: l, h => by
    simp only [freshKeys, Bool.and_eq_true] at h
    refine List.nodup_cons.mpr ⟨fun hm => ?_, fresh_nodup h.2⟩
    have := List.all_eq_true.mp h.1 a hm
    rw [eqS_iff.mpr rfl] at this; cases this
theorem stored_new {kvs : List (Str × Value)} {k : Str} {v : Value} (h : k ∉ kvs.map (·.1)) : stored kvs k v = kvs ++ [(k, v)] := by
  unfold stored
  rw [if_neg]
  intro q
  obtain ⟨p, hp, e⟩ := List.any_eq_true.mp q
  exact h (of_decide_eq_true e ▸ List.mem_map_of_mem hp)
theorem merged_new : ∀ (kvs acc : List (Str × Value)), (acc.map (·.1) ++ kvs.map (·.1)).Nodup → PySem.merged acc kvs = acc ++ kvs
  | [], acc, _ => by simp [PySem.merged]
  | (k, v) :: kvs, acc, h => by
    have hk : k ∉ acc.map (·.1) := fun hm => by
      rw [List.nodup_append] at h
      exact h.2.2 k hm k (by simp) rfl
    have e : PySem.merged acc ((k, v) :: kvs) = PySem.merged (stored acc k v) kvs := by simp [PySem.merged]
    rw [e, stored_new hk, merged_new kvs (acc ++ [(k, v)]) (by simpa using h)]
    simp

theorem carries_of {l : List (Str × V)} {us : List (Value × Value)} (f : F2 (fun (p : Str × V) (u : Value × Value) => (∃ t, u.1 = .str p.1 t) ∧ VR X as p.2 u.2) l us) :
    ∃ kvs : List (Str × Value), Carries (strKind X.prog X.w) us kvs ∧ kvs.map (·.1) = l.map (·.1) ∧ F2 (fun (p : Str × V) (u : Str × Value) => u.1 = p.1 ∧ VR X as p.2 u.2) l kvs := by
  induction f with
  | nil => exact ⟨[], trivial, rfl, .nil⟩
  | @cons a b x y h _ ih =>
    obtain ⟨kvs, h1, h2, h3⟩ := ih
    obtain ⟨⟨t, e⟩, hv⟩ := h
    obtain ⟨b1, b2⟩ := b
    refine ⟨(a.1, b2) :: kvs, ⟨?_, rfl, h1⟩, by rw [List.map_cons, List.map_cons, h2], .cons ⟨rfl, hv⟩ h3⟩
    dsimp only at e
    subst e
    exact strKind_is _ _ _ _
theorem entries_of {ds : List DictEntry} {kvs : List (Str × Value)} (hp : Pairs (strKind X.prog X.w) ds kvs) : ∀ {l : List (Str × V)}, F2 (fun (p : Str × V) (u : Str × Value) => u.1 = p.1 ∧ VR X as p.2 u.2) l kvs →
    (∀ e ∈ ds, ∃ k, (strKind X.prog X.w).is k e.key = true ∧ e.hash = (strKind X.prog X.w).hash k) → F2 (ER X as) l ds := by
  induction hp with
  | nil => intro l f _; cases f; exact .nil
  | @cons e kv es kvs h1 h2 _ ih =>
    intro l f hk
    cases f with
    | cons r f =>
      refine .cons ?_ (ih f fun e he => hk e (List.mem_cons_of_mem _ he))
      obtain ⟨k, hk1, hk2⟩ := hk e (List.mem_cons_self ..)
      have : k = kv.1 := (strKind X.prog X.w).inj _ _ _ hk1 h1
      subst this
      obtain ⟨t, ht⟩ := Value.isStrOf_shape h1
      exact ⟨⟨t, by rw [ht, r.1]⟩, by rw [hk2, r.1]; rfl, h2 ▸ r.2⟩

theorem dict_ok (KO : Ok X) {ks : List (Option PySem.Expr)} {es : List PySem.Expr} {pos : Pos} {Q : Value → Shared → Prop} (h : exDict X.t sc ks es c = some r) (J : Sit X d A sc env h₀ L) (S : St X h₀ L rest as c s) (hQ : OKV X h₀ L rest as r Q) :
    wpAny (model X.prog X.w) A (eval (.Dict ks es pos) env) Q E s := by
  unfold exDict at h
  split at h
  · rename_i names hn
    split at h
    · rename_i vs hv
      split at h
      · rename_i l hl
        split at h
        · rename_i hg
          simp only [Bool.and_eq_true] at hg
          obtain ⟨⟨g1, g2⟩, g3⟩ := hg
          have g2 : names.length < 10 := Nat.le_of_ble_eq_true g2
          have g3 : 0 < names.length := Nat.le_of_ble_eq_true g3
          have P := fun {Q : List (Value × Value) → Shared → Prop} hq => pairs_ok (s := { s with heap := s.heap.push { cls := .type "dict", data := .dict #[] } }) (Q := Q) (E := E) KO J (pos := pos) (S.pushed _ s.toks) hn hv hl hq
          obtain ⟨e1, e2, e3, _⟩ := P (Q := fun _ _ => True) (fun _ _ _ => trivial)
          have hlen : ks.length = names.length := by
            have : ∀ {ks : List (Option PySem.Expr)} {names : List Str}, keysOf ks = some names → ks.length = names.length := by
              intro ks
              induction ks with
              | nil => intro names h; cases h; rfl
              | cons k r ih => intro names h; obtain ⟨x, n, p, l', rfl, hk, rfl⟩ := keysOf_cons h; rw [List.length_cons, List.length_cons, ih hk]
            exact this hn
          refine wpAny_Dict_walk (knd := strKind X.prog X.w) e1 e2 (by intro q; rw [q] at hlen; simp at hlen; omega) (by omega) ((P fun us n f => ?_).2.2.2)
          obtain ⟨kvs, c1, c2, c3⟩ := carries_of f
          refine ⟨kvs, c1, Heap.DictOf.new _, fun h' hd hs => ?_⟩
          rw [merged_new kvs [] (by rw [c2, ← e3]; simpa using fresh_nodup g1), List.nil_append] at hd
          obtain ⟨o, ds, ep, ho, ⟨o1, o2, o3⟩, o4, o5, o6, _⟩ := hd
          obtain ⟨oc, od, oda, osl⟩ := o
          dsimp only at o1 o2 o3 o4
          subst o1 o2 o3 o4
          obtain ⟨m, objs, F, N, nd, hH, hL⟩ := S.ex
          have k : ∀ b o, s.heap.get? b = some o → h'.get? b = some o := fun b o e => (hs.2 b (Nat.ne_of_lt (Heap.lt_size e))).trans (Heap.get?_push_of_some _ e)
          have fE := entries_of o6 c3 fun e he => o5 e (by simpa using he)
          exact hQ.new h S (mk_alloc (n := _) S nd hH hL (F.kept k) (N.kept_cons F k (Nat.le_refl _) ho) (fun p hp => Heap.lt_size (N p hp).1) ⟨ds.toList, ep, by simp [dictOf], fE.mono fun _ _ q => q.ext (Ext.push _ _)⟩)
        · cases h
      · cases h
    · cases h
  · cases h
end
end Mine

end
section
open PySem PySem.W PySem.Calls PyProof.Rows PySem.Spec
namespace Mine
section
variable {X : Cx} {h₀ : Heap} {L : Addr} {rest : List (Addr × Obj)} {as as' : List Addr} {r : Rs} {c : C} {s : Shared} {rec : Rec} {d : Nat} {sc : Scope} {A : Around} {env : Env} {E : Value → Shared → Prop}

theorem nameOf_some {e : PySem.Expr} {x : Str} (h : nameOf e = some x) : ∃ p, e = .Name x p := by
  cases e <;> first | (cases h; done) | (cases h; exact ⟨_, rfl⟩)

theorem ex_ok (KO : Ok X) (ih : Sound X rec) {e : PySem.Expr} {Q : Value → Shared → Prop} (h : exArm X.t rec d sc e c = some r) (J : Sit X d A sc env h₀ L) (S : St X h₀ L rest as c s) (hE : EP X h₀ L rest as r E) (hQ : OKV X h₀ L rest as r Q) :
    wpAny (model X.prog X.w) A (eval e env) Q E s := by
  cases e <;> first | (cases h; done) | (unfold exArm at h; dsimp only at h)
  · -- BoolOp
    rename_i op vs pos
    split at h
    · rename_i a b
      refine wpAny_And2 ?_
      refine useV ih h J S hE fun v1 c1 as1 s1 u1 h1 x1 S1 V1 => ?_
      split at h1
      · cases V1
        refine wpAny_truthy_bool ?_
        exact ih.ex h1 J S1 (hE.ext x1) (hQ.ext x1)
      · cases V1
        refine wpAny_truthy_bool ?_
        exact (hQ.ext x1).val h1 S1 rfl
      · cases h1
    · cases h
  · rename_i l op q pos
    refine wpAny_BinOp (useV ih h J S hE fun v1 c1 as1 s1 u1 h1 x1 S1 V1 => useV ih h1 J S1 (hE.ext x1) fun v2 c2 as2 s2 u2 h2 x2 S2 V2 => ?_)
    obtain ⟨w, hw, rfl⟩ := valO_some h2
    exact bin_ok S2 hw (V1.ext x2) V2 fun s' u S' hu => hQ _ _ rfl as2 s' u (x1.trans x2) S' hu
  · rename_i q a b pos
    refine wpAny_IfExp (useB ih h J S hE fun v1 c1 as1 s1 h1 x1 S1 => ?_)
    cases v1
    · exact ih.ex h1 J S1 (hE.ext x1) (hQ.ext x1)
    · exact ih.ex h1 J S1 (hE.ext x1) (hQ.ext x1)
  · exact dict_ok KO h J S hQ
  · rename_i l ops rs pos
    rcases exCmp_shape h with ⟨op, q, rfl, rfl⟩ | ⟨o1, o2, q1, q2, rfl, rfl⟩
    · obtain ⟨hm, hw⟩ := cmp1_ok (env := env) KO ih h J S hE (Q := Q) fun b c1 as1 s1 h1 x1 S1 => (hQ.ext x1).val h1 S1 rfl
      exact wpAny_Compare1 hw hm
    · obtain ⟨hm, hw⟩ := cmp2_ok (env := env) KO ih h J S hE (Q := Q) (Q' := Q) (fun b c1 as1 s1 h1 x1 S1 => (hQ.ext x1).val h1 S1 rfl) (fun c1 as1 s1 h1 x1 S1 => (hQ.ext x1).val h1 S1 rfl)
      refine Compare_chain (wpAny_mono hw (fun a s1 z => chain_link (wpAny_mono z (fun b s2 z => wpAny_mono z (fun v s3 z => ?_) fun _ _ z => z) fun _ _ z => z)) fun _ _ z => z) hm
      rcases z with ⟨rfl, z⟩ | ⟨rfl, z⟩
      · exact wpAny_truthy_bool (chain_last z)
      · exact wpAny_truthy_bool z
  · exact exCall_ok KO ih h J S hE hQ
  · exact const_ok S h hQ
  · rename_i o a pos
    split at h
    · rename_i x hx
      obtain ⟨p, rfl⟩ := nameOf_some hx
      split at h
      · rename_i ov hv
        obtain ⟨w, hw, rfl⟩ := valO_some h
        exact Attribute_name (load_ok KO J S hv fun u hu => getA_ok KO J S hw hu fun u' hu' => hQ _ _ rfl as _ u' (Ext.refl _) (S.toks _) hu')
      · cases h
    · cases h
  · exact sub_ok KO ih h J S hE hQ
  · rename_i x pos
    obtain ⟨v, hv, rfl⟩ := valO_some h
    exact load_ok KO J S hv fun u hu => hQ _ _ rfl as _ u (Ext.refl _) S hu
  · rename_i es pos
    split at h
    · exact lst_ok ih h ‹_› J S hE hQ
    · cases h
  · rename_i es k pos
    split at h
    · exact tup_ok ih h ‹_› J S hE hQ
    · cases h

theorem tr_ok (KO : Ok X) (ih : Sound X rec) {e : PySem.Expr} {Q : Bool → Shared → Prop} (h : trArm X.t rec d sc e c = some r) (J : Sit X d A sc env h₀ L) (S : St X h₀ L rest as c s) (hE : EP X h₀ L rest as r E) (hQ : OKB X h₀ L rest as r Q) :
    wpAny (model X.prog X.w) A (isTrue e env (eval e env)) Q E s := by
  cases e <;> first | (cases h; done) | (unfold trArm at h; dsimp only at h)
  · exact wpAny_isTrue_BoolOp (ih.trs h J S hE hQ)
  · rename_i op x pos
    cases op <;> simp only at h <;> first | (cases h; done) | skip
    refine wpAny_isTrue_Not (useB ih h J S hE fun v1 c1 as1 s1 h1 x1 S1 => ?_)
    cases h1
    exact hQ _ _ rfl as1 s1 x1 S1
  · rename_i l ops rs pos
    rcases exCmp_shape h with ⟨op, q, rfl, rfl⟩ | ⟨o1, o2, q1, q2, rfl, rfl⟩
    · obtain ⟨hm, hw⟩ := cmp1_ok (env := env) KO ih h J S hE (Q := fun v s' => wpAny (model X.prog X.w) A (truthy v) Q E s') fun b c1 as1 s1 h1 x1 S1 => by
        cases h1; exact wpAny_truthy_bool (hQ _ _ rfl as1 s1 x1 S1)
      exact wpAny_isTrue_Compare1 hw hm
    · obtain ⟨hm, hw⟩ := cmp2_ok (env := env) KO ih h J S hE (Q := fun v s' => wpAny (model X.prog X.w) A (truthy v) Q E s') (Q' := fun _ s' => Q false s') (fun b c1 as1 s1 h1 x1 S1 => by cases h1; exact wpAny_truthy_bool (hQ _ _ rfl as1 s1 x1 S1))
        (fun c1 as1 s1 h1 x1 S1 => by cases h1; exact hQ _ _ rfl as1 s1 x1 S1)
      refine isTrue_chain (wpAny_mono hw (fun a s1 z => test_link (wpAny_mono z (fun b s2 z => wpAny_mono z (fun v s3 z => ?_) fun _ _ z => z) fun _ _ z => z)) fun _ _ z => z) hm
      rcases z with ⟨rfl, z⟩ | ⟨rfl, z⟩
      · exact wpAny_truthy_bool (test_last z)
      · exact wpAny_truthy_bool z
  · refine wpAny_isTrue_value (useV ih h J S hE fun v1 c1 as1 s1 u1 h1 x1 S1 V1 => ?_) rfl
    split at h1
    · cases h1; cases V1; exact wpAny_truthy_bool (hQ _ _ rfl as1 s1 x1 S1)
    · cases h1
  · refine wpAny_isTrue_value (useV ih h J S hE fun v1 c1 as1 s1 u1 h1 x1 S1 V1 => ?_) rfl
    split at h1
    · cases h1; cases V1; exact wpAny_truthy_bool (hQ _ _ rfl as1 s1 x1 S1)
    · cases h1

theorem trs_ok (ih : Sound X rec) {op : BoolOp} {es : List PySem.Expr} {Q : Bool → Shared → Prop} (h : trsArm rec d sc op es c = some r) (J : Sit X d A sc env h₀ L) (S : St X h₀ L rest as c s) (hE : EP X h₀ L rest as r E) (hQ : OKB X h₀ L rest as r Q) :
    wpAny (model X.prog X.w) A (allTrue op es env) Q E s := by
  cases es with
  | nil =>
    cases op <;> cases h
    · exact wpAny_allTrue_And_nil (hQ _ _ rfl as s (Ext.refl _) S)
    · exact wpAny_allTrue_Or_nil (hQ _ _ rfl as s (Ext.refl _) S)
  | cons e es =>
    unfold trsArm at h; dsimp only at h
    cases op
    · refine wpAny_allTrue_And_cons (useB ih h J S hE fun v1 c1 as1 s1 h1 x1 S1 => ?_)
      cases v1
      · cases h1; exact hQ _ _ rfl as1 s1 x1 S1
      · exact ih.trs h1 J S1 (hE.ext x1) (hQ.ext x1)
    · refine wpAny_allTrue_Or_cons (useB ih h J S hE fun v1 c1 as1 s1 h1 x1 S1 => ?_)
      cases v1
      · exact ih.trs h1 J S1 (hE.ext x1) (hQ.ext x1)
      · cases h1; exact hQ _ _ rfl as1 s1 x1 S1

theorem exs_ok (ih : Sound X rec) {es : List PySem.Expr} {pos : Pos} {Q : List Value → Shared → Prop} (h : exsArm rec d sc es c = some r) (ns : noStar es = true) (J : Sit X d A sc env h₀ L) (S : St X h₀ L rest as c s) (hE : EP X h₀ L rest as r E) (hQ : OKVs X h₀ L rest as r Q) :
    wpAny (model X.prog X.w) A (spliced (backTo pos (starEach es env))) Q E s := by
  cases es with
  | nil => cases h; exact spliced_nil (hQ _ _ rfl as s [] (Ext.refl _) S .nil)
  | cons e es =>
    unfold exsArm at h; dsimp only at h
    have ns' : noStar es = true := by cases e <;> first | exact ns | (cases ns; done)
    have e1 : backTo pos (starEach (e :: es) env) = (false, eval e env) :: backTo pos (starEach es env) := by cases e <;> first | rfl | (cases ns; done)
    rw [e1]
    refine spliced_cons (useV ih h J S hE fun v1 c1 as1 s1 u1 h1 x1 S1 V1 => useVs ih h1 ns' J S1 (hE.ext x1) fun vs c2 as2 s2 us h2 x2 S2 V2 => ?_)
    cases h2
    exact hQ _ _ rfl as2 s2 _ (x1.trans x2) S2 (.cons (V1.ext x2) V2)

theorem sts_ok (ih : Sound X rec) {p : List PySem.Stmt} {Q : Flow → Shared → Prop} (h : stsArm rec d sc p c = some r) (J : Sit X d A sc env h₀ L) (S : St X h₀ L rest as c s) (hE : EP X h₀ L rest as r E) (hQ : OKF X h₀ L rest as r Q) :
    wpAny (model X.prog X.w) A (execs p env) Q E s := by
  cases p with
  | nil => cases h; exact wpAny_execs_nil (hQ.1 _ rfl as s (Ext.refl _) S)
  | cons e es =>
    unfold stsArm at h; dsimp only at h
    refine wpAny_execs_cons (use1 ih h J S hE (fun v1 c1 as1 s1 u e1 x1 S1 V1 => ?_) fun c1 as1 s1 h1 x1 S1 => ?_)
    · exact hQ.2 _ _ e1 as1 s1 u x1 S1 V1
    · exact ih.sts h1 J S1 (hE.ext x1) (hQ.ext x1)
end
end Mine

end
section
open PySem PySem.W PySem.Calls PyProof.Rows PySem.Spec
namespace Mine
section
variable {X : Cx} {h₀ : Heap} {L : Addr} {rest : List (Addr × Obj)} {as as' : List Addr} {r : Rs} {c : C} {s : Shared} {rec : Rec} {d : Nat} {sc : Scope} {A : Around} {env : Env} {E : Value → Shared → Prop}

theorem localName_is {x : Str} (h : localName sc x = true) : sc.names.lookup x = some .local := by
  unfold localName at h
  split at h
  · assumption
  · cases h
theorem f2_three {R : V → Value → Prop} {a b g : V} {us : List Value} (f : F2 R [a, b, g] us) : ∃ u w z, us = [u, w, z] ∧ R a u ∧ R b w ∧ R g z := by
  cases f with | cons r f => cases f with | cons r' f => cases f with | cons r'' f => cases f; exact ⟨_, _, _, rfl, r, r', r''⟩

theorem swapped_is {x y : Str} {xp yp p q : Pos} {n k : Nat} {e1 e2 : PySem.Expr} {nm : Str} {a : Addr} {cd : Value} (hk : sc.kind = .function) (hx : localName sc x = true) (hy : localName sc y = true) (hxy : eqS x y = false) (hl : Nat.beq xp.line yp.line = true)
    (ns : noStar [e1, e2] = true) (h1 : (foldedForSure 8 e1 && foldedForSure 8 e2) = false) (h2 : (constantsAlone 8 e1 && constantsAlone 8 e2) = false) :
    swappedStores [.Tuple [.Name x xp, .Name y yp] n p] (.Tuple [e1, e2] k q) (envOf nm sc L a cd) = pure (some [x, y]) := by
  have kx : (envOf nm sc L a cd).kindOf x = some .local := localName_is hx
  have ky : (envOf nm sc L a cd).kindOf y = some .local := localName_is hy
  have hb : (envOf nm sc L a cd).blockKind = .function := by
    show (if sc.kind.isAnnotationScope then ScopeKind.function else sc.kind) = .function
    rw [hk]; rfl
  have hne : (x == y) = false := by rw [← eqS_beq]; exact hxy
  have hle : yp.line = xp.line := (Nat.eq_of_beq_eq_true hl).symm
  have hns : ∀ e ∈ [e1, e2], ∀ v p, e ≠ .Starred v p := by
    intro e he v p q
    subst q
    simp only [List.mem_cons, List.not_mem_nil, or_false] at he
    rcases he with rfl | rfl
    · cases ns
    · cases e1 <;> cases ns
  have hall1 : [e1, e2].all (foldedForSure 8) = false := by simpa using h1
  have hall2 : [e1, e2].all (constantsAlone 8) = false := by simpa using h2
  unfold swappedStores
  dsimp only
  rw [if_neg (by rw [hb]; simp), if_neg (by
    intro q
    obtain ⟨e, he, hm⟩ := List.any_eq_true.mp q
    cases e <;> first | (cases hm; done) | exact hns _ he _ _ rfl)]
  rw [hall1, hall2]
  simp only [List.length_cons, List.length_nil, List.filterMap_cons, List.filterMap_nil, kx, ky, hle, List.head?_cons, Option.map_some, Option.getD_some]
  have hed : [x, y].eraseDups.length = 2 := by
    have hne' : (y == x) = false := by rw [Bool.eq_false_iff] at hne ⊢; intro q; exact hne (by rw [eq_of_beq q]; exact beq_self_eq_true _)
    show (List.eraseDupsBy.loop _ _ _).length = 2
    simp [List.eraseDupsBy.loop, hne, hne']
  have p1 : (PySem.Expr.Name x xp).pos = xp := rfl
  have p2 : (PySem.Expr.Name y yp).pos = yp := rfl
  have p3 : (PySem.Expr.Tuple [.Name x xp, .Name y yp] n p).pos = p := rfl
  simp [hed, p1, p2, hle]

end
end Mine

end
section
open PySem PySem.W PySem.Calls PyProof.Rows PySem.Spec
namespace Mine
section
variable {X : Cx} {h₀ : Heap} {L : Addr} {rest : List (Addr × Obj)} {as as' : List Addr} {r : Rs} {c : C} {s : Shared} {rec : Rec} {d : Nat} {sc : Scope} {A : Around} {env : Env} {E : Value → Shared → Prop}

theorem swaps_no {e : PySem.Expr} {tg : Option PySem.Expr} {n : Nat} (h : isComp e = false) : swapsWith e tg n env = pure false := by
  cases e <;> first | rfl | (cases h; done)
theorem swapsSole_no {e tg : PySem.Expr} {n : Nat} (h : isComp e = false) : swapsWithSole [tg] e n env = pure false := swaps_no h
theorem folded_no {e : PySem.Expr} (h : isComp e = false) (x : Value) : foldedSetIterable e env x = pure x := by
  cases e <;> first | rfl | (cases h; done)
theorem store_ok (J : Sit X d A sc env h₀ L) (S : St X h₀ L rest as c s) {x : Str} {v : V} {u : Value} {Q : Unit → Shared → Prop} (hx : localName sc x = true) (V : VR X as v u) (h : ∀ s', St X h₀ L rest as (c.put x v) s' → Q () s') :
    wpAny (model X.prog X.w) A (storeName env x u) Q E s := by
  obtain ⟨nm, a, cd, rfl⟩ := J.envis
  exact S.bound V J.kind (localName_is hx) h

theorem st_put {k : Str} {v : V} {u : Value} {hsh : Int} {tk : Tok} (hh : hsh = PyData.keyHash X.w.params k) (hv : VR X as v u) : ∀ {es : List (Str × V)} {ds : List DictEntry}, F2 (ER X as) es ds → F2 (ER X as) (st k v es) (putL k hsh (.str k tk) u ds)
  | _, _, .nil => .cons ⟨⟨tk, rfl⟩, hh, hv⟩ .nil
  | p :: es, e :: ds, .cons r f => by
    obtain ⟨⟨t, hk⟩, hr, hv'⟩ := r
    have hkey : e.key.isStr k = decide (p.1 = k) := by
      rw [hk]; simp only [Value.isStr]
      first | rfl | (rw [Bool.eq_iff_iff]; simp) | (rw [Bool.eq_iff_iff]; simp [eq_comm])
    unfold st putL
    rw [hkey]
    by_cases h : p.1 = k
    · rw [eqS_iff.mpr h]
      simp only [h, decide_true, if_true]
      exact .cons ⟨⟨t, by rw [hk, h]⟩, by rw [hr, h], hv⟩ f
    · have : eqS p.1 k = false := by rw [Bool.eq_false_iff]; exact fun e => h (eqS_iff.mp e)
      rw [this]
      simp only [h, decide_false, Bool.false_eq_true, if_false]
      exact .cons ⟨⟨t, hk⟩, hr, hv'⟩ (st_put hh hv f)
theorem putL_len {k : Str} {hsh : Int} {key v : Value} : ∀ ds : List DictEntry, (putL k hsh key v ds).length ≤ ds.length + 1
  | [] => Nat.le_refl _
  | e :: ds => by
    unfold putL
    split
    · simp
    · have := putL_len (k := k) (hsh := hsh) (key := key) (v := v) ds
      simp only [List.length_cons]; omega
theorem getL_some {k : Str} {es : List (Str × V)} {ds : List DictEntry} (f : F2 (ER X as) es ds) : (getL k ds).isSome = true := by
  have z := getL_lk f (k := k)
  cases q : lk k es with
  | none => rw [z.2 q]; rfl
  | some v => obtain ⟨u, hu, _⟩ := z.1 v q; rw [hu]; rfl

theorem setA_ok (KO : Ok X) (J : Sit X d A sc env h₀ L) (S : St X h₀ L rest as c s) {o v : V} {uo u : Value} {a : Str} {c' : C} {Q : Unit → Shared → Prop} (h : setA X.t c o a v = some c') (ho : VR X as o uo) (hv : VR X as v u)
    (hQ : ∀ s', St X h₀ L rest as c' s' → Q () s') : wpAny (model X.prog X.w) A (setAttr uo a u) Q E s := by
  unfold setA at h
  split at h
  · rename_i i
    split at h
    · rename_i C dd hi
      split at h
      · rename_i hs
        split at h
        · rename_i es hd
          split at h
          · rename_i hl
            cases h
            have hl : es.length < 50 := Nat.le_of_ble_eq_true hl
            obtain ⟨x, hx, rfl⟩ := ho
            obtain ⟨oi, ho', dx, hdx, rfl⟩ := S.here hi hx
            obtain ⟨m, objs, F, N, nd, hH, hL⟩ := S.ex
            obtain ⟨od, hm, ds, n, rfl, f⟩ := hH.at hd hdx
            have hm' : (objs ++ rest)[dd]? = some (dx, dictOf ds n) := by rw [List.getElem?_append_left (List.getElem?_eq_some_iff.mp hm).1]; exact hm
            have I : InstAt s.heap x (instObj C dx) C (some (dictOf ds n)) := ⟨ho', rfl, rfl, N.get (List.mem_of_getElem? hm')⟩
            obtain ⟨g1, g2, g3, g4⟩ := KO.sets C a hs
            have := f.length
            have := putL_len (k := a) (hsh := PyData.keyHash X.w.params a) (key := .str a (s.toks + 1)) (v := u) ds
            exact set_dict F J.K N I rfl g1 g2 g3 g4 (getL_some f) rfl (upd_at hm' nd) (by omega) fun h' F' N' => hQ _ (mk_upd (n := _) S nd hH hL hm F' N' ⟨_, _, rfl, st_put rfl hv f⟩)
          · cases h
        · cases h
      · cases h
    · cases h
  · cases h

theorem unpack_ok (KO : Ok X) (J : Sit X d A sc env h₀ L) (S : St X h₀ L rest as c s) {v : V} {u : Value} {vs : List V} {k : Nat} {Q : List Value → Shared → Prop} (h : unpack X.t c v = some vs) (hk : vs.length = k) (V : VR X as v u)
    (hQ : ∀ us s', St X h₀ L rest as c s' → F2 (VR X as) vs us → Q us s') : wpAny (model X.prog X.w) A (unpackItems u k none) Q E s := by
  subst hk
  unfold unpack at h
  split at h
  · rename_i xs hg
    cases h
    obtain ⟨b, ob, rfl, hne, ho, ys, n, rfl, f⟩ := get_ok KO J S hg V
    rw [f.length]
    have e : ys.length = ys.toArray.size := by simp
    rw [e]
    refine unpackItems_tuple J.handled ⟨_, ho, rfl, n, rfl⟩ fun h' he => ?_
    exact hQ _ _ (S.kept (n := s.toks) fun b o e => he b o (Nat.ne_of_lt (Heap.lt_size e)) e) f
  · cases h

theorem asg_ok (KO : Ok X) (ih : Sound X rec) {tg e : PySem.Expr} {pos : Pos} {Q : Flow → Shared → Prop} (h : asgArm X.t rec d sc tg e c = some r) (J : Sit X d A sc env h₀ L) (S : St X h₀ L rest as c s) (hE : EP X h₀ L rest as r E) (hQ : OKF X h₀ L rest as r Q) :
    wpAny (model X.prog X.w) A (exec (.Assign [tg] e pos) env) Q E s := by
  unfold asgArm at h
  split at h
  · cases h
  · rename_i hc
    split at h
    · rename_i x xp
      split at h
      · rename_i hx
        refine wpAny_Assign_Name (useV ih h J S hE fun v1 c1 as1 s1 u1 h1 x1 S1 V1 => ?_) (swaps_no hc)
        cases h1
        exact store_ok J S1 hx V1 fun s' S' => hQ.1 _ rfl as1 s' x1 S'
      · cases h
    · rename_i o a ap
      split at h
      · refine plainObj_wpAny_Assign_Attribute (useV ih h J S hE fun v1 c1 as1 s1 u1 h1 x1 S1 V1 => useV ih h1 J S1 (hE.ext x1) fun v2 c2 as2 s2 u2 h2 x2 S2 V2 => ?_) (swaps_no hc)
        split at h2
        · rename_i c3 hs
          cases h2
          exact setA_ok KO J S2 hs V2 (V1.ext x2) fun s' S' => hQ.1 _ rfl as2 s' (x1.trans x2) S'
        · cases h2
      · cases h
    · split at h
      · rename_i x xp y yp
        split at h
        · rename_i hg
          simp only [Bool.and_eq_true, Bool.not_eq_true'] at hg
          obtain ⟨⟨⟨hx, hy⟩, hxy⟩, hline⟩ := hg
          split at h
          · rename_i e1 e2 k p
            split at h
            · cases h
            · rename_i hf
              simp only [Bool.and_eq_true, Bool.not_eq_true'] at hf
              obtain ⟨⟨ns, hf1⟩, hf2⟩ := hf
              refine Assign_Tuple_swapped (names := [x, y]) (useV ih h J S hE fun v1 c1 as1 s1 u1 h1 x1 S1 V1 => ?_) (swapsSole_no hc) ?_
              · split at h1
                · rename_i a b hu
                  cases h1
                  refine unpack_ok (k := 2) KO J S1 hu rfl V1 fun us s' S' f => ?_
                  obtain ⟨ua, ub, rfl, ha, hb⟩ := f2_two f
                  show wpAny _ _ (do holding [ua] (bindName env y ub); holding [] (bindName env x ua); pure ()) _ _ _
                  refine wpAny_bind (wpAny_holding (wpAny_bindName (store_ok J S' hy hb fun s2 S2 => wpAny_bind (wpAny_holding (wpAny_bindName (store_ok J S2 hx ha fun s3 S3 => wpAny_pure ?_))))))
                  exact hQ.1 _ rfl as1 s3 x1 S3
                · cases h1
              · obtain ⟨nm, a, cd, rfl⟩ := J.envis
                exact swapped_is J.kind hx hy hxy hline ns hf1 hf2
          · cases h
        · cases h
      · rename_i x xp y yp z zp
        split at h
        · rename_i hg
          simp only [Bool.and_eq_true, Bool.not_eq_true'] at hg
          obtain ⟨⟨⟨hx, hy⟩, hz⟩, ht⟩ := hg
          refine Assign_Tuple (useV ih h J S hE fun v1 c1 as1 s1 u1 h1 x1 S1 V1 => ?_) (swapsSole_no hc) ?_
          · split at h1
            · rename_i a b g hu
              cases h1
              show wpAny _ _ (do standAt _; PySem.unpack u1 [(false, assign (.Name x xp) env), (false, assign (.Name y yp) env), (false, assign (.Name z zp) env)]) _ _ _
              refine wpAny_bind (wpAny_standAt ?_)
              show wpAny _ _ (do assignInOrder [assign (.Name x xp) env, assign (.Name y yp) env, assign (.Name z zp) env] (← holding [u1] (unpackItems u1 3 none))) _ _ _
              refine wpAny_bind (wpAny_holding (unpack_ok (k := 3) KO J S1 hu rfl V1 fun us s' S' f => ?_))
              obtain ⟨ua, ub, ug, rfl, ha, hb, hg⟩ := f2_three f
              show wpAny _ _ (do holding [ub, ug] (assign (.Name x xp) env ua); holding [ug] (assign (.Name y yp) env ub); holding [] (assign (.Name z zp) env ug); pure ()) _ _ _
              refine wpAny_bind (wpAny_holding (assign_Name (store_ok J S' hx ha fun s2 S2 => wpAny_bind (wpAny_holding (assign_Name (store_ok J S2 hy hb fun s3 S3 => wpAny_bind (wpAny_holding (assign_Name (store_ok J S3 hz hg fun s4 S4 => wpAny_pure ?_)))))))))
              exact hQ.1 _ rfl as1 s4 x1 S4
            · cases h1
          · cases e <;> first | rfl | (cases ht; done)
        · cases h
      · cases h
    · cases h
end
end Mine

end
section
open PySem PySem.W PySem.Calls PyProof.Rows PySem.Spec
namespace Mine
section
variable {X : Cx} {h₀ : Heap} {L : Addr} {rest : List (Addr × Obj)} {as as' : List Addr} {r : Rs} {c : C} {s : Shared} {rec : Rec} {d : Nat} {sc : Scope} {A : Around} {env : Env} {E : Value → Shared → Prop} {cls x : Addr} {dd : Nat}

theorem ns_obj {h : Heap} {a : Addr} {m : Str → Option Value} (n : h.Ns a m) : ∃ o, h.get? a = some o ∧ ∀ vs, o.data ≠ .fields vs := by
  obtain ⟨o, es, ep, ho, hd, _⟩ := n
  exact ⟨o, ho, fun vs q => by rw [hd] at q; cases q⟩

theorem exc_frames (J : Sit X d A sc env h₀ L) (hf : env.frame = some L) (P : Exc X h₀ L rest as c cls dd x s) : ∃ outer, A.frames = some (env :: outer) ∧ s.heap.FunFrames X.base (env :: outer) ∧ (∀ b ∈ outer.filterMap (·.frame), ∃ o, h₀.get? b = some o) := by
  obtain ⟨A₀, outer, B, hA⟩ := J.below
  obtain ⟨m, objs, dx, T, fl, e1, e2, e3, e4, _⟩ := P.ex
  refine ⟨outer, hA, ⟨?_, ⟨L, ?_⟩, B.frames.of_keeps fun b o ho hd => ?_⟩, fun b hb => let ⟨_, o, ho, _⟩ := B.frames.mem hb; ⟨o, ho⟩⟩
  · obtain ⟨nm, a, cd, rfl⟩ := J.envis
    show sc.kind ≠ .module
    rw [J.kind]; decide
  · obtain ⟨o, ho, hd⟩ := ns_obj e4
    refine ⟨o, hf, ?_, ho, hd⟩
    cases q : X.base.get? L with
    | none => rfl
    | some o => exact absurd (Nat.lt_of_lt_of_le (Heap.lt_size (J.stays _ _ q)) e2) (Nat.lt_irrefl _)
  · obtain ⟨sl, hs⟩ := e3 b o ho
    exact ⟨_, hs, rfl⟩

/-- what a step that touches the exception alone leaves -/
theorem exc_step {outer : List Env} {h' : Heap} {T T' dx : Addr} {fl fl' : Value} {m : Str → Option Value} {objs : List (Addr × Obj)} (hfb : s.heap.FunFrames X.base (env :: outer)) (hout : ∀ b ∈ outer.filterMap (·.frame), ∃ o, h₀.get? b = some o) (hf : env.frame = some L)
    (e1 : X.base.StaysIn s.heap) (e2 : h₀.objs.size ≤ L) (e3 : Upto h₀ s.heap) (e4 : s.heap.Ns L m) (e5 : News h₀ L s.heap (objs ++ rest)) (e6 : ((objs ++ rest).map (·.1)).Nodup) (e7 : HR X as c.H objs) (e8 : LR X as c.loc m) (e9 : as[dd]? = some dx)
    (ht : ThrownAt X.base cls dx x T fl s.heap) (hne : ∀ p ∈ objs ++ rest, p.1 ≠ x ∧ p.1 ≠ T) (e13 : h₀.get? x = none) (e14 : h₀.get? T = none) (nds : NdOk X rest) (sh : s.gens = X.g ∧ s.drawn = X.dr ∧ s.os = X.os)
    (hS : Step x T ((env :: outer).filterMap (·.frame)) s.heap h') (hT' : T' = T ∨ s.heap.objs.size ≤ T') (ht' : ThrownAt X.base cls dx x T' fl' h') (hfl : fl' = .none ∨ fl' = rawInt L) : Exc X h₀ L rest as c cls dd x { s with heap := h' } := by
  obtain ⟨ox, vs, oT, ts, he, hc, hdx, hd, h1, hbx, hbT, hTx, hT, hdT, h3, h2⟩ := ht
  have nx : ∀ b o, s.heap.get? b = some o → (∀ vs, o.data ≠ .fields vs) → b ≠ x ∧ b ≠ T := fun b o hb hn => ⟨fun q => by rw [q, he] at hb; injection hb with hb; subst hb; exact hn vs hd, fun q => by rw [q, hT] at hb; injection hb with hb; subst hb; exact hn ts hdT⟩
  refine ⟨⟨m, objs, dx, T', fl', fun b o hb => ?_, e2, fun b o hb => ?_, ?_, fun p hp => ?_, e6, e7, e8, e9, ht', hfl, fun p hp => ⟨(hne p hp).1, ?_⟩, e13, ?_⟩, nds, sh⟩
  · have z := e1 b o hb
    obtain ⟨sl, q1, q2⟩ := hS b o z (fun q => by rw [q, hbx] at hb; cases hb) (fun q => by rw [q, hbT] at hb; cases hb)
    have : sl = o.slots := q2 fun hm => by rw [(hfb.mem hm).1] at hb; cases hb
    rw [this] at q1; exact q1
  · obtain ⟨sl, hs⟩ := e3 b o hb
    obtain ⟨sl', q1, _⟩ := hS b _ hs (fun q => by rw [q, e13] at hb; cases hb) (fun q => by rw [q, e14] at hb; cases hb)
    exact ⟨sl', q1⟩
  · obtain ⟨o, es, ep, ho, hd', r⟩ := e4
    obtain ⟨n1, n2⟩ := nx L o ho fun vs q => by rw [hd'] at q; cases q
    obtain ⟨sl', q1, _⟩ := hS L o ho n1 n2
    exact ⟨_, es, ep, q1, hd', r⟩
  · obtain ⟨z1, z2, z3⟩ := e5 p hp
    obtain ⟨sl, q1, q2⟩ := hS p.1 p.2 z1 (hne p hp).1 (hne p hp).2
    have : sl = p.2.slots := q2 fun hm => by
      rw [List.filterMap_cons, hf] at hm
      rcases List.mem_cons.mp hm with q | hm
      · exact z2 q
      · obtain ⟨o, ho⟩ := hout _ hm
        rw [z3] at ho; cases ho
    rw [this] at q1
    exact ⟨q1, z2, z3⟩
  · rcases hT' with rfl | hle
    · exact (hne p hp).2
    · exact Nat.ne_of_lt (Nat.lt_of_lt_of_le (Heap.lt_size (e5 p hp).1) hle)
  · rcases hT' with rfl | hle
    · exact e14
    · cases q : h₀.get? T' with
      | none => rfl
      | some o =>
        obtain ⟨sl, hs⟩ := e3 _ _ q
        exact absurd (Nat.lt_of_lt_of_le (Heap.lt_size hs) hle) (Nat.lt_irrefl _)

theorem exc_note (J : Sit X d A sc env h₀ L) (hf : env.frame = some L) (P : Exc X h₀ L rest as c cls dd x s) {Q : Unit → Shared → Prop} {M : Model} (h : ∀ s', Exc X h₀ L rest as c cls dd x s' → Q () s') : wpAny M A (noteFrame (.ref x) env) Q E s := by
  obtain ⟨outer, hA, hfb, hout⟩ := exc_frames J hf P
  obtain ⟨m, objs, dx, T, fl, e1, e2, e3, e4, e5, e6, e7, e8, e9, e10, e11, e12, e13, e14⟩ := P.ex
  exact thrown_note hA hfb hf e1 e10 e11 fun h' T' hT' hS ht' => h _ (exc_step hfb hout hf e1 e2 e3 e4 e5 e6 e7 e8 e9 e10 e12 e13 e14 P.nds P.sh hS hT' ht' (.inr rfl))
theorem exc_mark (J : Sit X d A sc env h₀ L) (hf : env.frame = some L) (P : Exc X h₀ L rest as c cls dd x s) {Q : Unit → Shared → Prop} {M : Model} {o : Option Addr} (ho : o = none ∨ o = some L) (h : ∀ s', Exc X h₀ L rest as c cls dd x s' → Q () s') : wpAny M A (setFlight (.ref x) o) Q E s := by
  obtain ⟨outer, hA, hfb, hout⟩ := exc_frames J hf P
  obtain ⟨m, objs, dx, T, fl, e1, e2, e3, e4, e5, e6, e7, e8, e9, e10, e11, e12, e13, e14⟩ := P.ex
  refine thrown_mark e10 fun h' hS ht' => h _ (exc_step hfb hout hf e1 e2 e3 e4 e5 e6 e7 e8 e9 e10 e12 e13 e14 P.nds P.sh (fun b o hb n1 n2 => ?_) (.inl rfl) ht' (by rcases ho with rfl | rfl; exact .inl rfl; exact .inr rfl))
  obtain ⟨sl, q1, q2⟩ := hS b o hb n1 n2
  exact ⟨sl, q1, fun _ => q2 (by simp)⟩
theorem exc_back (J : Sit X d A sc env h₀ L) (hf : env.frame = some L) (P : Exc X h₀ L rest as c cls dd x s) {M : Model} (h : ∀ s', Exc X h₀ L rest as c cls dd x s' → E (.ref x) s') : cameBackBy M A env E (.ref x) s := by
  obtain ⟨m, objs, dx, T, fl, e1, e2, e3, e4, e5, e6, e7, e8, e9, e10, e11, e12, e13, e14⟩ := id P.ex
  obtain ⟨ox, vs, oT, ts, he, hc, hdx, hd, h1, _⟩ := id e10
  unfold cameBackBy
  refine wpAny_bind (wpAny_field he hd h1 ?_)
  rw [if_neg (by simp), hf]
  exact exc_mark J hf P (.inr rfl) h
theorem exc_leave (J : Sit X d A sc env h₀ L) (hf : env.frame = some L) (P : Exc X h₀ L rest as c cls dd x s) {Q : Unit → Shared → Prop} {M : Model} (h : ∀ s', Exc X h₀ L rest as c cls dd x s' → (∃ dx T, ThrownAt X.base cls dx x T .none s'.heap) → Q () s') : wpAny M A (leaving env (.ref x)) Q E s := by
  obtain ⟨outer, hA, hfb, hout⟩ := exc_frames J hf P
  obtain ⟨m, objs, dx, T, fl, e1, e2, e3, e4, e5, e6, e7, e8, e9, e10, e11, e12, e13, e14⟩ := P.ex
  exact thrown_leave hA hfb hf e1 e10 e11 fun h' T' hT' hS ht' => h _ (exc_step hfb hout hf e1 e2 e3 e4 e5 e6 e7 e8 e9 e10 e12 e13 e14 P.nds P.sh hS hT' ht' (.inl rfl)) ⟨dx, T', ht'⟩

/-- the exception's state seen from the caller -/
theorem exc_up {g : Heap} {L' : Addr} {c' : C} {m : Str → Option Value} {loc : List (Str × V)} (P : Exc X g L' rest as c' cls dd x s) (hn : ∃ dx T, ThrownAt X.base cls dx x T .none s.heap) (F : Fr h₀ L g m) (hL : LR X as loc m) : Exc X h₀ L rest as ⟨c'.H, loc⟩ cls dd x s := by
  obtain ⟨m', objs, dx, T, fl, e1, e2, e3, e4, e5, e6, e7, e8, e9, e10, e11, e12, e13, e14⟩ := P.ex
  obtain ⟨dx', T', ht⟩ := hn
  have same : dx' = dx ∧ T' = T := by
    obtain ⟨ox, vs, oT, ts, he, hc, hdx, hd, h1, _⟩ := id e10
    obtain ⟨ox', vs', oT', ts', he', hc', hdx', hd', h1', _⟩ := id ht
    rw [he] at he'; cases he'
    rw [hdx] at hdx'; cases hdx'
    rw [hd] at hd'; cases hd'
    rw [h1] at h1'; cases h1'
    exact ⟨rfl, rfl⟩
  obtain ⟨rfl, rfl⟩ := same
  have fresh : ∀ {b : Addr}, g.get? b = none → h₀.get? b = none := fun {b} e => by
    cases q : h₀.get? b with
    | none => rfl
    | some o => rw [F.keep _ _ q] at e; cases e
  refine ⟨⟨m, objs, dx', T', .none, e1, F.above, fun b o hb => e3 b o (F.keep b o hb), ?_, fun p hp => ?_, e6, e7, hL, e9, ht, .inl rfl, e12, fresh e13, fresh e14⟩, P.nds, P.sh⟩
  · obtain ⟨o, es, ep, ho, hd, r⟩ := F.ns
    obtain ⟨sl, hs⟩ := e3 L o ho
    exact ⟨_, es, ep, hs, hd, r⟩
  obtain ⟨z1, z2, z3⟩ := e5 p hp
  refine ⟨z1, fun q => ?_, ?_⟩
  · obtain ⟨o, ho, _⟩ := ns_obj F.ns
    rw [← q, z3] at ho; cases ho
  · cases q : h₀.get? p.1 with
    | none => rfl
    | some o => rw [F.keep _ _ q] at z3; cases z3

/-- the head of the ledger let go -/
theorem Exc.drop {p : Addr × Obj} (P : Exc X h₀ L (p :: rest) as c cls dd x s) (nd : NdOk X rest) : Exc X h₀ L rest as c cls dd x s := by
  obtain ⟨m, objs, dx, T, fl, e1, e2, e3, e4, e5, e6, e7, e8, e9, e10, e11, e12, e13, e14⟩ := P.ex
  have sub : ∀ q ∈ objs ++ rest, q ∈ objs ++ p :: rest := fun q hq => by
    rcases List.mem_append.mp hq with h | h
    · exact List.mem_append.mpr (.inl h)
    · exact List.mem_append.mpr (.inr (List.mem_cons_of_mem _ h))
  refine ⟨⟨m, objs, dx, T, fl, e1, e2, e3, e4, fun q hq => e5 q (sub q hq), ?_, e7, e8, e9, e10, e11, fun q hq => e12 q (sub q hq), e13, e14⟩, nd, P.sh⟩
  rw [List.map_append, List.map_cons] at e6
  rw [List.map_append]
  exact (List.nodup_cons.mp ((List.perm_middle).nodup_iff.mp e6)).2
theorem St.drop {p : Addr × Obj} (S : St X h₀ L (p :: rest) as c s) (nd : NdOk X rest) : St X h₀ L rest as c s := by
  obtain ⟨m, objs, F, N, nd', hH, hL⟩ := S.ex
  have sub : ∀ q ∈ objs ++ rest, q ∈ objs ++ p :: rest := fun q hq => by
    rcases List.mem_append.mp hq with h | h
    · exact List.mem_append.mpr (.inl h)
    · exact List.mem_append.mpr (.inr (List.mem_cons_of_mem _ h))
  refine ⟨⟨m, objs, F, fun q hq => N q (sub q hq), ?_, hH, hL⟩, nd, S.sh⟩
  rw [List.map_append, List.map_cons] at nd'
  rw [List.map_append]
  exact (List.nodup_cons.mp ((List.perm_middle).nodup_iff.mp nd')).2
end
end Mine

end
section
open PySem PySem.W PySem.Calls PyProof.Rows PySem.Spec
namespace Mine
section
variable {X : Cx} {h₀ : Heap} {L : Addr} {rest : List (Addr × Obj)} {as as' : List Addr} {r : Rs} {c : C} {s : Shared} {rec : Rec} {d : Nat} {sc : Scope} {A : Around} {env : Env} {E : Value → Shared → Prop}

theorem Sit.frame (J : Sit X d A sc env h₀ L) : env.frame = some L := by obtain ⟨nm, a, cd, rfl⟩ := J.envis; rfl

theorem St.withIter (S : St X h₀ L rest as c s) (o : Obj) (n : Nat) (hf : o.isFreed = false := by rfl) : St X h₀ L ((s.heap.objs.size, o) :: rest) as c { s with heap := s.heap.push o, toks := n } := by
  obtain ⟨m, objs, F, N, nd, hH, hL⟩ := S.ex
  have N' := N.push F o hf
  refine ⟨⟨m, objs, F.push o, fun p hp => N' p ?_, ?_, hH, hL⟩, fun a ha => ?_, S.sh⟩
  · simp only [List.mem_append, List.mem_cons] at hp ⊢
    rcases hp with h | h | h
    · exact .inr (.inl h)
    · exact .inl h
    · exact .inr (.inr h)
  · rw [List.map_append, List.map_cons]
    rw [List.map_append] at nd
    have ha : s.heap.objs.size ∉ objs.map (·.1) ++ rest.map (·.1) := fun hm => by
      rw [← List.map_append] at hm
      obtain ⟨p, hp, e⟩ := List.mem_map.mp hm
      have := Heap.lt_size (N p hp).1
      rw [e] at this
      exact Nat.lt_irrefl _ this
    exact (List.perm_middle).nodup_iff.mpr (List.nodup_cons.mpr ⟨ha, nd⟩)
  · obtain ⟨dx, od, h1, h2⟩ := S.nds a ha
    exact ⟨dx, od, List.mem_cons_of_mem _ h1, List.mem_cons_of_mem _ h2⟩

theorem St.iterAt {it : Addr} {ot : Obj} (S : St X h₀ L ((it, ot) :: rest) as c s) : s.heap.get? it = some ot := by
  obtain ⟨m, objs, F, N, nd, hH, hL⟩ := S.ex
  exact N.get (List.mem_append.mpr (.inr (.head _)))
theorem iter_ne {it : Addr} {ot : Obj} {objs : List (Addr × Obj)} (nd : ((objs ++ (it, ot) :: rest).map (·.1)).Nodup) : ∀ p ∈ objs ++ rest, p.1 ≠ it := by
  rw [List.map_append, List.map_cons] at nd
  have := (List.nodup_cons.mp ((List.perm_middle).nodup_iff.mp nd)).1
  rw [← List.map_append] at this
  exact fun p hp e => this (show it ∈ _ from e ▸ List.mem_map_of_mem (f := fun (q : Addr × Obj) => q.1) hp)
theorem St.iterUpd {it : Addr} {ot ot' : Obj} {h' : Heap} {n : Nat} (S : St X h₀ L ((it, ot) :: rest) as c s) (hs : Heap.SameBut it s.heap h') (ho : h'.get? it = some ot') (nds : NdOk X rest) : St X h₀ L ((it, ot') :: rest) as c { s with heap := h', toks := n } := by
  obtain ⟨m, objs, F, N, nd, hH, hL⟩ := S.ex
  have z := N (it, ot) (List.mem_append.mpr (.inr (.head _)))
  have ne := iter_ne nd
  refine ⟨⟨m, objs, F.change hs z.2.1 z.2.2, fun p hp => ?_, by simpa using nd, hH, hL⟩, fun a ha => ?_, S.sh⟩
  · simp only [List.mem_append, List.mem_cons] at hp
    have old : ∀ p ∈ objs ++ rest, h'.get? p.1 = some p.2 ∧ p.1 ≠ L ∧ h₀.get? p.1 = none := fun p hp => by
      have q := N p (by simp only [List.mem_append, List.mem_cons] at hp ⊢; rcases hp with h | h; exact .inl h; exact .inr (.inr h))
      exact ⟨(hs.2 _ (ne p hp)).trans q.1, q.2⟩
    rcases hp with h | rfl | h
    · exact old p (List.mem_append.mpr (.inl h))
    · exact ⟨ho, z.2⟩
    · exact old p (List.mem_append.mpr (.inr h))
  · obtain ⟨dx, od, h1, h2⟩ := nds a ha
    exact ⟨dx, od, List.mem_cons_of_mem _ h1, List.mem_cons_of_mem _ h2⟩
theorem St.iterEnd {it : Addr} {ot : Obj} {h' : Heap} {n : Nat} (S : St X h₀ L ((it, ot) :: rest) as c s) (hs : Heap.ExtBut it s.heap h') (nds : NdOk X rest) : St X h₀ L rest as c { s with heap := h', toks := n } := by
  obtain ⟨m, objs, F, N, nd, hH, hL⟩ := S.ex
  have z := N (it, ot) (List.mem_append.mpr (.inr (.head _)))
  have ne := iter_ne nd
  refine ⟨⟨m, objs, ⟨F.ns.extBut hs (Ne.symm z.2.1), fun b o e => hs b o (fun q => by rw [q, z.2.2] at e; cases e) (F.keep b o e), F.above⟩, fun p hp => ?_, ?_, hH, hL⟩, nds, S.sh⟩
  · have q := N p (by simp only [List.mem_append, List.mem_cons] at hp ⊢; rcases hp with h | h; exact .inl h; exact .inr (.inr h))
    exact ⟨hs _ _ (ne p hp) q.1, q.2⟩
  · rw [List.map_append, List.map_cons] at nd
    rw [List.map_append]
    exact (List.nodup_cons.mp ((List.perm_middle).nodup_iff.mp nd)).2

theorem range_size {b : Int} (h : 0 ≤ b) : Builtin.Range.rangeSize 0 b 1 = b := by
  unfold Builtin.Range.rangeSize
  rw [if_pos (by decide)]
  split
  · rw [Int.ediv_one]; omega
  · omega
theorem range_small {b : Int} (h : small b = true) (h0 : 0 ≤ b) : Builtin.Range.small 0 b 1 = true := by
  unfold Builtin.Range.small
  rw [range_size h0]
  simp only [small, Bool.and_eq_true, decide_eq_true_eq] at h
  simp [Builtin.Range.rangeFitsLong]
  omega

theorem iter_ok (KO : Ok X) (J : Sit X d A sc env h₀ L) (S : St X h₀ L rest as c s) {v : V} {u : Value} {k : Src} {Q : Value → Shared → Prop} (h : srcOf X.t c v = some k) (V : VR X as v u)
    (hQ : ∀ it ot s', St X h₀ L ((it, ot) :: rest) as c s' → ItR X as k ot → Q (.ref it) s') : wpAny (model X.prog X.w) A (pyIter u) Q E s := by
  unfold srcOf at h
  split at h
  · rename_i x
    split at h
    · rename_i ha
      cases h
      obtain ⟨t, rfl⟩ := V
      exact wpAny_pyIter_ascii ha (hQ _ _ _ (S.withIter _ s.toks) ⟨t, ha, rfl, rfl⟩)
    · cases h
  · split at h
    · rename_i xs hg
      cases h
      obtain ⟨b, ob, rfl, hne, ho, ys, n, rfl, f⟩ := get_ok KO J S hg V
      exact wpAny_pyIter_list ⟨_, ho, rfl, n, rfl⟩ (hQ _ _ _ (S.withIter _ s.toks) ⟨b, V, rfl, rfl⟩)
    · rename_i xs hg
      cases h
      obtain ⟨b, ob, rfl, hne, ho, ys, n, rfl, f⟩ := get_ok KO J S hg V
      exact wpAny_pyIter_tuple ⟨_, ho, rfl, n, rfl⟩ (hQ _ _ _ (S.withIter _ s.toks) ⟨b, V, rfl, rfl⟩)
    · rename_i b hg
      split at h
      · rename_i hb
        cases h
        simp only [Bool.and_eq_true, decide_eq_true_eq] at hb
        obtain ⟨a, ob, rfl, hne, ho, t, u', v', rfl⟩ := get_ok KO J S hg V
        refine wpAny_pyIter_range ho (range_small hb.1 hb.2) (hQ _ _ _ (S.withIter _ s.toks) ?_)
        rw [range_size hb.2]; rfl
      · cases h
    · cases h

theorem next_ok (KO : Ok X) (J : Sit X d A sc env h₀ L) {it : Addr} {ot : Obj} (S : St X h₀ L ((it, ot) :: rest) as c s) {k : Src} {o : Option (V × Src)} {Q : Option Value → Shared → Prop} (h : nextOf X.t c k = some o) (I : ItR X as k ot) (nds : NdOk X rest)
    (hN : o = none → ∀ s', St X h₀ L rest as c s' → Q none s')
    (hS : ∀ v k', o = some (v, k') → ∀ u ot' s', St X h₀ L ((it, ot') :: rest) as c s' → ItR X as k' ot' → VR X as v u → Q (some u) s') : wpAny (model X.prog X.w) A (pyNext (.ref it)) Q E s := by
  have hit := S.iterAt
  unfold nextOf at h
  split at h
  · rename_i l p
    obtain ⟨a, ha, hc, hd⟩ := I
    split at h
    · rename_i xs hg
      obtain ⟨b, ob, e, hne, ho, ys, n, rfl, f⟩ := get_ok KO J S hg ha
      cases e
      split at h
      · rename_i v hv
        cases h
        obtain ⟨y, hy, hr⟩ := f.get hv
        refine wpAny_pyNext_list_item ⟨_, hit, hc, hd⟩ ⟨_, ho, rfl, n, rfl⟩ (x := y) (by simpa using hy) fun h' hi hs => ?_
        obtain ⟨ot', h1, h2, h3⟩ := hi
        exact hS _ _ rfl y ot' _ (S.iterUpd (n := s.toks) hs h1 nds) ⟨a, ha, h2, h3⟩ hr
      · rename_i hv
        cases h
        refine wpAny_pyNext_list_end J.handled ⟨_, hit, hc, hd⟩ ⟨_, ho, rfl, n, rfl⟩ ?_ fun h' hs => hN rfl _ (S.iterEnd (n := s.toks) hs nds)
        have := f.length
        rw [List.getElem?_eq_none_iff] at hv
        simp; omega
    · cases h
  · rename_i l p
    obtain ⟨a, ha, hc, hd⟩ := I
    split at h
    · rename_i xs hg
      obtain ⟨b, ob, e, hne, ho, ys, n, rfl, f⟩ := get_ok KO J S hg ha
      cases e
      split at h
      · rename_i v hv
        cases h
        obtain ⟨y, hy, hr⟩ := f.get hv
        refine wpAny_pyNext_tuple_item ⟨_, hit, hc, hd⟩ ⟨_, ho, rfl, n, rfl⟩ (x := y) (by simpa using hy) fun h' hi hs => ?_
        obtain ⟨ot', h1, h2, h3⟩ := hi
        exact hS _ _ rfl y ot' _ (S.iterUpd (n := s.toks) hs h1 nds) ⟨a, ha, h2, h3⟩ hr
      · rename_i hv
        cases h
        refine wpAny_pyNext_tuple_end J.handled ⟨_, hit, hc, hd⟩ ⟨_, ho, rfl, n, rfl⟩ ?_ fun h' hs => hN rfl _ (S.iterEnd (n := s.toks) hs nds)
        have := f.length
        rw [List.getElem?_eq_none_iff] at hv
        simp; omega
    · cases h
  · rename_i x p
    obtain ⟨t, ha, hc, hd⟩ := I
    split at h
    · rename_i ch hv
      cases h
      refine wpAny_pyNext_ascii_item ⟨_, hit, hc, hd⟩ (c := ch) (by rw [← Array.getElem?_toList]; exact hv) fun h' hi hs => ?_
      obtain ⟨ot', h1, h2, h3⟩ := hi
      exact hS _ _ rfl _ ot' _ (S.iterUpd (n := _) hs h1 nds) ⟨t, ha, h2, h3⟩ ⟨_, rfl⟩
    · rename_i hv
      cases h
      refine wpAny_pyNext_ascii_end J.handled ⟨_, hit, hc, hd⟩ (by rw [← Array.getElem?_toList]; exact hv) fun h' hs => hN rfl _ (S.iterEnd (n := s.toks) hs nds)
  · rename_i x l
    cases I
    split at h
    · rename_i hl
      cases h
      exact wpAny_pyNext_range_end J.handled hit (of_decide_eq_true hl) fun h' hs => hN rfl _ (S.iterEnd (n := s.toks) hs nds)
    · rename_i hl
      cases h
      have hl := of_decide_eq_false hl
      exact wpAny_pyNext_range_item hit (by omega) fun h' hi hs => hS _ _ rfl _ _ _ (S.iterUpd (n := _) hs hi nds) rfl ⟨_, rfl⟩
end
end Mine

end
section
open PySem PySem.W PySem.Calls PyProof.Rows PySem.Spec
namespace Mine
section
variable {X : Cx} {h₀ : Heap} {L : Addr} {rest : List (Addr × Obj)} {as as' : List Addr} {r : Rs} {c : C} {s : Shared} {rec : Rec} {d : Nat} {sc : Scope} {A : Around} {env : Env} {E : Value → Shared → Prop}

/-- the exception's road out of a turn of a loop -/
noncomputable def Turned (X : Cx) (A : Around) (env : Env) (R : Result → Shared → Prop) : Value → Shared → Prop :=
  fun e s' => wpAny (model X.prog X.w) A (do noteFrame e env; theTreesLotGoes e) (fun _ s'' => R (.error e) s'') (fun e' s'' => R (.error e') s'') s'
theorem turned_ep (J : Sit X d A sc env h₀ L) {R : Result → Shared → Prop} (h : EP X h₀ L rest as r (fun e s' => R (.error e) s')) : EP X h₀ L rest as r (Turned X A env R) :=
  fun cl dd c' e as' s' x y P => wpAny_bind (exc_note J J.frame P fun s'' P' => wpAny_theTreesLotGoes (h cl dd c' e as' s'' x y P'))

theorem wh_ok (ih : Sound X rec) {q : PySem.Expr} {b : List PySem.Stmt} {R : Result → Shared → Prop} (h : whArm rec d sc q b c = some r) (J : Sit X d A sc env h₀ L) (S : St X h₀ L rest as c s) (hE : EP X h₀ L rest as r (fun e s' => R (.error e) s'))
    (hQ : OKF X h₀ L rest as r (fun f s' => R (.ok f) s')) : codeAny (model X.prog X.w) A (.whileLoop q b [] env) R s := by
  refine codeAny_of_tree ?_
  rw [Around.under_of_weight (c := .whileLoop q b [] env) rfl]
  have hT := turned_ep J hE
  show wpAny (model X.prog X.w) A ((whileTurn q b [] env).onRaise (fun x => do noteFrame x env; theTreesLotGoes x)) _ _ s
  refine wpAny_onRaise ?_
  show wpAny (model X.prog X.w) A (whileTurn q b [] env) _ (Turned X A env R) s
  unfold whileTurn
  unfold whArm at h
  refine wpAny_bind (useB ih h J S hT fun v1 c1 as1 s1 h1 x1 S1 => ?_)
  cases v1
  · cases h1
    rw [if_neg (by decide)]
    refine wpAny_bind (wpAny_execs_nil (wpAny_pure ?_))
    exact hQ.1 _ rfl as1 s1 x1 S1
  · rw [if_pos rfl]
    refine wpAny_bind (useS ih h1 J S1 (hT.ext x1) (fun v2 c2 as2 s2 u e2 x2 S2 V2 => ?_) fun c2 as2 s2 h2 x2 S2 => ?_)
    · exact wpAny_pure (hQ.2 _ _ e2 as2 s2 u (x1.trans x2) S2 V2)
    · refine wpAny_pure ⟨rfl, ?_⟩
      exact ih.wh h2 J S2 (hE.ext (x1.trans x2)) (hQ.ext (x1.trans x2))

theorem block_nil {R : Result → Shared → Prop} (h : R (.ok .next) s) : codeAny (model X.prog X.w) A (.block [] env) R s := by
  refine codeAny_of_tree ?_
  show wpAny (model X.prog X.w) _ (do return PySem.Fin.done (← (execs [] env).onRaise (fun x => do noteFrame x env; theTreesLotGoes x)) : Sem PySem.Fin) _ _ s
  exact wpAny_bind (wpAny_onRaise (wpAny_execs_nil (wpAny_pure h)))

theorem owned_go {tg : PySem.Expr} {it : Addr} {ot : Obj} {k : Src} {v : Value} {Q : Unit → Shared → Prop} (ho : s.heap.get? it = some ot) (I : ItR X as k ot) (h : Q () s) : wpAny (model X.prog X.w) A (letOwnedTupleGo tg (.ref it) v) Q E s := by
  have fin : wpAny (model X.prog X.w) A (do
      let (.ref r, .ref a) := (Value.ref it, v) | return
      let o ← load r
      match o.cls, o.data with
      | .type n, .fields vs =>
        if ["enumerate", "zip", "dict_itemiterator", "dict_reverseitemiterator", "odict_iterator", "itertools.zip_longest", "itertools.pairwise"].contains n && vs[0]? == some (rawInt a) then
          rule "for.unpacks-the-owned-tuple"
          updateField r 0 .none
      | _, _ => pure ()) Q E s := by
    cases v <;> first | exact wpAny_pure h | skip
    rename_i a
    refine wpAny_bind (wpAny_load ho ?_)
    obtain ⟨oc, od, oda, osl⟩ := ot
    cases k with
    | list l p => obtain ⟨a, ha, hc, hd⟩ := I; dsimp only at hc hd; subst hc hd; exact wpAny_pure h
    | tup l p => obtain ⟨a, ha, hc, hd⟩ := I; dsimp only at hc hd; subst hc hd; exact wpAny_pure h
    | str l p => obtain ⟨a, ha, hc, hd⟩ := I; dsimp only at hc hd; subst hc hd; exact wpAny_pure h
    | rng l p => cases I; exact wpAny_pure h
  cases tg <;> first | exact wpAny_pure h | exact fin

theorem bind_ok (KO : Ok X) (J : Sit X d A sc env h₀ L) (S : St X h₀ L rest as c s) {tg : PySem.Expr} {v : V} {u : Value} {c' : C} {Q : Unit → Shared → Prop} (h : bindTo X.t sc tg v c = some c') (V : VR X as v u) (hQ : ∀ s', St X h₀ L rest as c' s' → Q () s') :
    wpAny (model X.prog X.w) A (assign tg env u) Q E s := by
  unfold bindTo at h
  split at h
  · rename_i x p
    split at h
    · rename_i hx
      cases h
      exact assign_Name (store_ok J S hx V hQ)
    · cases h
  · split at h
    · rename_i x xp y yp
      split at h
      · rename_i hg
        simp only [Bool.and_eq_true] at hg
        split at h
        · rename_i a b hu
          cases h
          show wpAny _ _ (do standAt _; PySem.unpack u [(false, assign (.Name x xp) env), (false, assign (.Name y yp) env)]) _ _ _
          refine wpAny_bind (wpAny_standAt ?_)
          show wpAny _ _ (do assignInOrder [assign (.Name x xp) env, assign (.Name y yp) env] (← holding [u] (unpackItems u 2 none))) _ _ _
          refine wpAny_bind (wpAny_holding (unpack_ok (k := 2) KO J S hu rfl V fun us s' S' f => ?_))
          obtain ⟨ua, ub, rfl, ha, hb⟩ := f2_two f
          show wpAny _ _ (do holding [ub] (assign (.Name x xp) env ua); holding [] (assign (.Name y yp) env ub); pure ()) _ _ _
          exact wpAny_bind (wpAny_holding (assign_Name (store_ok J S' hg.1 ha fun s2 S2 => wpAny_bind (wpAny_holding (assign_Name (store_ok J S2 hg.2 hb fun s3 S3 => wpAny_pure (hQ _ S3)))))))
        · cases h
      · cases h
    · cases h
  · cases h

theorem fo_ok (KO : Ok X) (ih : Sound X rec) {tg : PySem.Expr} {k : Src} {b : List PySem.Stmt} {R : Result → Shared → Prop} {it : Addr} {ot : Obj} (h : foArm X.t rec d sc tg k b c = some r) (J : Sit X d A sc env h₀ L) (S : St X h₀ L ((it, ot) :: rest) as c s) (I : ItR X as k ot) (nds : NdOk X rest)
    (hE : EP X h₀ L rest as r (fun e s' => R (.error e) s')) (hQ : OKF X h₀ L rest as r (fun f s' => R (.ok f) s')) : codeAny (model X.prog X.w) A (.forLoop tg (.ref it) b [] env) R s := by
  refine codeAny_of_tree ?_
  rw [Around.under_of_weight (c := .forLoop tg (.ref it) b [] env) rfl]
  show wpAny (model X.prog X.w) A ((forTurn tg (.ref it) b [] env).onRaise (fun x => do noteFrame x env; theTreesLotGoes x)) _ _ s
  refine wpAny_onRaise ?_
  show wpAny (model X.prog X.w) A (forTurn tg (.ref it) b [] env) _ (Turned X A env R) s
  unfold forTurn
  unfold foArm at h
  refine wpAny_bind (wpAny_standAt (wpAny_bind (wpAny_onRaise ?_)))
  split at h
  · rename_i hn
    cases h
    refine next_ok KO J S hn I nds (fun _ s' S' => ?_) fun v k' e => nomatch e
    refine wpAny_pure ⟨rfl, block_nil ?_⟩
    exact hQ.1 _ rfl as s' (Ext.refl _) S'
  · rename_i v k' hn
    refine next_ok KO J S hn I nds (fun e => nomatch e) fun v' k'' e u ot' s' S' I' V' => ?_
    cases e
    split at h
    · rename_i c1 hb
      refine wpAny_bind (owned_go S'.iterAt I' ?_)
      refine wpAny_bind (bind_ok KO J S' hb V' fun s1 S1 => ?_)
      have hE' : EP X h₀ L ((it, ot') :: rest) as r (Turned X A env R) := fun cl dd c' e as' s' x y P => turned_ep J hE cl dd c' e as' s' x y (P.drop nds)
      refine wpAny_bind (useS ih h J S1 hE' (fun v2 c2 as2 s2 u2 e2 x2 S2 V2 => ?_) fun c2 as2 s2 h2 x2 S2 => ?_)
      · exact wpAny_pure (hQ.2 _ _ e2 as2 s2 u2 x2 (S2.drop nds) V2)
      · refine wpAny_pure ⟨rfl, ?_⟩
        have I2 : ItR X as2 k' ot' := by
          cases k' with
          | list l p => obtain ⟨a, ha, hc, hd⟩ := I'; exact ⟨a, ha.ext x2, hc, hd⟩
          | tup l p => obtain ⟨a, ha, hc, hd⟩ := I'; exact ⟨a, ha.ext x2, hc, hd⟩
          | str l p => exact I'
          | rng l p => exact I'
        exact ih.fo h2 J S2 I2 nds (hE.ext x2) (hQ.ext x2)
    · cases h
  · cases h

theorem st_ok (KO : Ok X) (ih : Sound X rec) {p : PySem.Stmt} {Q : Flow → Shared → Prop} (h : stArm X.t rec d sc p c = some r) (J : Sit X d A sc env h₀ L) (S : St X h₀ L rest as c s) (hE : EP X h₀ L rest as r E) (hQ : OKF X h₀ L rest as r Q) :
    wpAny (model X.prog X.w) A (exec p env) Q E s := by
  cases p <;> first | (cases h; done) | (unfold stArm at h; dsimp only at h)
  · rename_i e pos
    split at h
    · rename_i e'
      refine wpAny_Return_some (useV ih h J S hE fun v1 c1 as1 s1 u1 h1 x1 S1 V1 => ?_)
      cases h1
      exact hQ.2 _ _ rfl as1 s1 u1 x1 S1 V1
    · cases h
  · rename_i ts e pos
    split at h
    · exact asg_ok KO ih h J S hE hQ
    · cases h
  · rename_i tg op e pos
    split at h
    · rename_i o a ap
      split at h
      · refine wpAny_AugAssign_AttributeAny (useV ih h J S hE fun v1 c1 as1 s1 u1 h1 x1 S1 V1 => ?_)
        split at h1
        · rename_i i hi
          refine getA_ok KO J S1 hi V1 fun ui hui => ?_
          refine useV ih h1 J (S1.toks _) (hE.ext x1) fun v2 c2 as2 s2 u2 h2 x2 S2 V2 => ?_
          obtain ⟨ti, rfl⟩ := hui
          split at h2
          · obtain ⟨t2, rfl⟩ := V2
            split at h2
            · rename_i c3 hs
              cases h2
              exact PyProof.Rows.iadd_int (setA_ok KO J (S2.toks _) hs (V1.ext x2) ⟨_, rfl⟩ fun s' S' => hQ.1 _ rfl as2 s' (x1.trans x2) S')
            · cases h2
          · obtain ⟨t2, rfl⟩ := V2
            split at h2
            · rename_i c3 hs
              cases h2
              exact PyProof.Rows.isub_int (setA_ok KO J (S2.toks _) hs (V1.ext x2) ⟨_, rfl⟩ fun s' S' => hQ.1 _ rfl as2 s' (x1.trans x2) S')
            · cases h2
          · cases h2
        · cases h1
      · cases h
    · cases h
  · rename_i tg i b e pos
    split at h
    · rename_i hc
      refine wpAny_For (useV ih h J S hE fun v1 c1 as1 s1 u1 h1 x1 S1 V1 => ?_) (folded_no hc)
      split at h1
      · rename_i k hk
        refine iter_ok KO J S1 hk V1 fun it ot s2 S2 I => ?_
        refine ih.fo h1 J S2 I S1.nds (fun cl dd c' e as' s' x y P => exc_back J J.frame P fun s'' P' => hE.ext x1 cl dd c' e as' s'' x y P') (hQ.ext x1)
      · cases h1
    · cases h
  · rename_i q b e pos
    split at h
    · refine wpAny_While ?_
      exact ih.wh h J S (fun cl dd c' e as' s' x y P => exc_back J J.frame P fun s'' P' => hE cl dd c' e as' s'' x y P') hQ
    · cases h
  · rename_i q a b pos
    refine wpAny_If (useB ih h J S hE fun v1 c1 as1 s1 h1 x1 S1 => ?_)
    cases v1
    · exact ih.sts h1 J S1 (hE.ext x1) (hQ.ext x1)
    · exact ih.sts h1 J S1 (hE.ext x1) (hQ.ext x1)
  · rename_i e pos
    split at h
    · cases h
    · rename_i hc
      obtain ⟨nm, a, cd, he⟩ := J.envis
      refine wpAny_Expr_any (useV ih h J S hE fun v1 c1 as1 s1 u1 h1 x1 S1 V1 => ?_) ?_ (swaps_no hc)
      · cases h1
        exact hQ.1 _ rfl as1 s1 x1 S1
      · subst he
        unfold interactive
        show (sc.kind == .module && _) = false
        rw [J.kind]; rfl
end
end Mine

end
section
open PySem PySem.W PySem.Calls PyProof.Rows PySem.Spec
namespace Mine
section
variable {X : Cx} {h₀ : Heap} {L : Addr} {rest : List (Addr × Obj)} {as as' : List Addr} {r : Rs} {c : C} {s : Shared} {rec : Rec} {d : Nat} {sc : Scope} {A : Around} {env : Env} {E : Value → Shared → Prop}

theorem zip_ok : ∀ {ps : List Arg} {args : List V} {us : List Value} {loc : List (Str × V)}, zipArgs ps args = some loc → F2 (VR X as) args us → us.length = ps.length ∧ F2 (fun (p : Str × V) (u : Str × Value) => u.1 = p.1 ∧ VR X as p.2 u.2) loc ((ps.map (·.arg)).zip us) ∧ loc.map (·.1) = ps.map (·.arg)
  | [], [], _, loc, h, .nil => by cases h; exact ⟨rfl, .nil, rfl⟩
  | [], _ :: _, _, loc, h, _ => by cases h
  | _ :: _, [], _, loc, h, _ => by cases h
  | p :: ps, a :: args, u :: us, loc, h, .cons r f => by
    simp only [zipArgs] at h
    split at h
    · rename_i l hl
      cases h
      obtain ⟨h1, h2, h3⟩ := zip_ok hl f
      exact ⟨by rw [List.length_cons, List.length_cons, h1], .cons ⟨rfl, r⟩ h2, by rw [List.map_cons, List.map_cons, h3]⟩
    · cases h
theorem lookup_last : ∀ {l : List (Str × Value)}, (l.map (·.1)).Nodup → ∀ {x : Str} {u : Value}, (x, u) ∈ l → l.reverse.lookup x = some u
  | [], _, _, _, h => nomatch h
  | (y, w) :: l, nd, x, u, h => by
    rw [List.map_cons, List.nodup_cons] at nd
    rw [List.reverse_cons, List.lookup_append]
    have hn : ∀ z : Str, z ∉ l.map (·.1) → l.reverse.lookup z = none := fun z hz => by
      rw [List.lookup_eq_none_iff]
      intro p hp
      simp only [bne_iff_ne, ne_eq]
      intro e
      exact hz (e ▸ List.mem_map_of_mem (List.mem_reverse.mp hp))
    rcases List.mem_cons.mp h with e | h
    · cases e
      rw [hn _ nd.1]; simp [List.lookup]
    · rw [lookup_last nd.2 h]; rfl
theorem lr_zip {loc : List (Str × V)} {bs : List (Str × Value)} (f : F2 (fun (p : Str × V) (u : Str × Value) => u.1 = p.1 ∧ VR X as p.2 u.2) loc bs) (nd : (bs.map (·.1)).Nodup) : LR X as loc (fun y => bs.reverse.lookup y) := by
  have key : ∀ {loc : List (Str × V)} {bs : List (Str × Value)}, F2 (fun (p : Str × V) (u : Str × Value) => u.1 = p.1 ∧ VR X as p.2 u.2) loc bs → ∀ x v, lk x loc = some v → ∃ u, (x, u) ∈ bs ∧ VR X as v u := by
    intro loc bs f
    induction f with
    | nil => intro x v h; cases h
    | @cons p u l b r _ ih =>
      intro x v h
      unfold lk at h
      split at h
      · rename_i hx
        cases h
        exact ⟨u.2, by rw [← eqS_iff.mp hx, ← r.1]; exact .head _, r.2⟩
      · obtain ⟨u', h1, h2⟩ := ih x v h
        exact ⟨u', List.mem_cons_of_mem _ h1, h2⟩
  intro x v h
  obtain ⟨u, hu, hv⟩ := key f x v h
  exact ⟨u, lookup_last nd hu, hv⟩
theorem zip_keys {ks : List Str} {us : List Value} (h : us.length = ks.length) : (ks.zip us).map (·.1) = ks := by
  rw [List.map_fst_zip]; omega

theorem fn_ok (KO : Ok X) (ih : Sound X rec) {a : Addr} {fn : Fn} {args : List V} {us : List Value} {R : Result → Shared → Prop} (h : fnArm rec d fn args c = some r) (ha : X.t.fn a = some fn) (J : Sit X d A sc env h₀ L) (S : St X h₀ L rest as c s) (fa : F2 (VR X as) args us)
    (hE : EP X h₀ L rest as r (fun e s' => R (.error e) s')) (hQ : OKV X h₀ L rest as r (fun v s' => R (.ok (.ret v)) s')) : codeAny (model X.prog X.w) A (.call (.ref a) ⟨us, []⟩) R s := by
  obtain ⟨name, qual, doc, pm, an, cdv, od, osl, oc, hK, hcode, hkind, hco, hgen, hcell, hloc, hnd, hbind⟩ := KO.fn a fn ha
  obtain ⟨A₀, outer, B, hA⟩ := J.below
  obtain ⟨m, objs, F, N, nd, hH, hL⟩ := id S.ex
  cases d with
  | zero => cases h
  | succ d =>
    unfold fnArm at h; dsimp only at h
    split at h
    · rename_i loc hz
      obtain ⟨hlen, fz, _⟩ := zip_ok hz fa
      have hdep := J.depth
      have hun := J.units
      have hke : env.scope.kind = .function := by obtain ⟨nm, a', cd, rfl⟩ := J.envis; exact J.kind
      refine callX_plain (cl := []) (binds := (fn.params.args.map (·.arg)).zip us) B F N J.T.nolimit hA J.frame hke (S.keep _ _ (J.K _ _ hK)) rfl (codeRec_of (J.K.keeps S.keep) hcode) (by omega) (BindsTo.of_eq (hbind us hlen)) (fun y hy => ?_)
        (fun g L' h₁ FG F' N' B' st lt => ?_) hcell hco hgen hkind
      · obtain ⟨p, hp, e⟩ := List.mem_map.mp (show y.1 ∈ fn.params.args.map (·.arg) from by have := List.mem_map_of_mem (f := (·.1)) hy; rwa [zip_keys (by simpa using hlen)] at this)
        rw [← e]; exact hloc p hp
      · have J' : Sit X d (A.deeper (envX qual fn.scope L' a cdv [])) fn.scope (envX qual fn.scope L' a cdv []) g L' :=
          ⟨⟨A, env :: outer, B', Around.frames_deeper B'.stack⟩, ⟨qual, a, cdv, rfl⟩, hkind, fun b o e => st b o (J.stays b o e), by show A.depth + 1 + 2 * d + 2 < recursionLimit; omega, by show A.units + 3 + 20 * d + 100 < cLine; omega, J.handled, J.K.keeps st, J.T.keeps st⟩
        have S' : St X g L' rest as ⟨c.H, loc⟩ { s with heap := h₁, toks := s.toks + ((fn.params.args.map (·.arg)).zip us).length } :=
          ⟨⟨_, objs, F', N', nd, hH, lr_zip fz (by rw [zip_keys (by simpa using hlen)]; exact hnd)⟩, S.nds, S.sh⟩
        have hup : ∀ {v : V} {c' : C} {as1 : List Addr} {s1 : Shared} {u : Value}, r = .ok (.v v) ⟨c'.H, c.loc⟩ → Ext as as1 → St X g L' rest as1 c' s1 → VR X as1 v u → LeaveK h₀ L m g R u s1 := by
          intro v c' as1 s1 u e x1 S1 V1
          obtain ⟨m1, objs1, F1, N1, nd1, hH1, hL1⟩ := S1.ex
          exact leaveK_ F1 N1 fun F2 N2 => hQ _ _ e as1 s1 u x1 ⟨⟨m, objs1, F2, N2, nd1, hH1, hL.ext x1⟩, S1.nds, S1.sh⟩ V1
        split at h
        · rename_i c' hb
          refine ih.sts hb J' S' (fun _ _ _ q => nomatch q) ⟨fun c1 q as1 s1 x1 S1 => ?_, fun _ _ q => (nomatch q)⟩
          cases q
          exact hup (val_ok h) x1 S1 rfl
        · rename_i v c' hb
          refine ih.sts hb J' S' (fun _ _ _ q => nomatch q) ⟨fun _ q => (nomatch q), fun v1 c1 q as1 s1 u1 x1 S1 V1 => ?_⟩
          cases q
          exact hup (val_ok h) x1 S1 V1
        · rename_i cl dd c' hb
          cases h
          refine ih.sts hb J' S' (fun cl1 dd1 c1 q as1 s1 x x1 P => ?_) ⟨fun _ q => (nomatch q), fun _ _ q => (nomatch q)⟩
          cases q
          refine exc_leave J' rfl P fun s2 P2 hn => ?_
          exact hE _ _ _ rfl as1 s2 x x1 (exc_up P2 hn FG (hL.ext x1))
        · cases h
    · cases h

theorem mk_inst {m : Str → Option Value} {objs : List (Addr × Obj)} (S : St X h₀ L rest as c s) (nd : ((objs ++ rest).map (·.1)).Nodup) (hH : HR X as c.H objs) (hL : LR X as c.loc m) {h' : Heap} {n : Nat} {x dx C : Addr}
    (F' : Fr h₀ L h' m) (N' : News h₀ L h' ((x, instObj C dx) :: (dx, emptyDict) :: (objs ++ rest))) (lt : ∀ p ∈ objs ++ rest, p.1 < dx) (lt2 : dx < x) :
    St X h₀ L rest ((as ++ [dx]) ++ [x]) ⟨c.H ++ [.dict [], .inst C c.H.length], c.loc⟩ { s with heap := h', toks := n } := by
  have hlen : as.length = c.H.length := as_len S
  refine ⟨⟨m, objs ++ [(dx, emptyDict), (x, instObj C dx)], F', fun p hp => N' p ?_, ?_, ⟨?_, ?_⟩, (hL.ext (Ext.push _ _)).ext (Ext.push _ _)⟩, S.nds, S.sh⟩
  · simp only [List.mem_append, List.mem_cons, List.not_mem_nil, or_false] at hp ⊢
    rcases hp with (h | h | h) | h
    · exact .inr (.inr (.inl h))
    · exact .inr (.inl h)
    · exact .inl h
    · exact .inr (.inr (.inr h))
  · have e : (objs ++ [(dx, emptyDict), (x, instObj C dx)] ++ rest).map (·.1) = objs.map (·.1) ++ dx :: x :: rest.map (·.1) := by simp
    rw [e]
    rw [List.map_append] at nd
    have hd : ∀ b ∈ objs.map (·.1) ++ rest.map (·.1), b < dx := fun b hm => by
      rw [← List.map_append] at hm
      obtain ⟨p, hp, e⟩ := List.mem_map.mp hm
      exact e ▸ lt p hp
    refine (List.perm_middle).nodup_iff.mpr (List.nodup_cons.mpr ⟨fun hm => ?_, (List.perm_middle).nodup_iff.mpr (List.nodup_cons.mpr ⟨fun hm => ?_, nd⟩)⟩)
    · rcases List.mem_append.mp hm with h | h
      · exact Nat.lt_irrefl _ (hd dx (List.mem_append.mpr (.inl h)))
      · rcases List.mem_cons.mp h with h | h
        · exact Nat.ne_of_lt lt2 h
        · exact Nat.lt_irrefl _ (hd dx (List.mem_append.mpr (.inr h)))
    · exact Nat.lt_asymm lt2 (hd x hm)
  · rw [List.map_append, hH.1]; simp
  · refine (hH.2.mono fun _ _ q => (q.ext (Ext.push _ _)).ext (Ext.push _ _)).append (.cons ⟨[], 0, rfl, .nil⟩ (.cons ⟨dx, ?_, rfl⟩ .nil))
    rw [← hlen]; simp

/-- what is to be shown of `fail` and of `check_pattern`, each in one piece -/
noncomputable def FailOk (X : Cx) : Prop := ∀ {h₀ : Heap} {L : Addr} {rest : List (Addr × Obj)} {as : List Addr} {r : Rs} {c : C} {s : Shared} {d : Nat} {sc : Scope} {A : Around} {env : Env} {args : List V} {us : List Value} {R : Result → Shared → Prop},
  failArm args c = some r → Sit X (d + 1) A sc env h₀ L → St X h₀ L rest as c s → F2 (VR X as) args us → EP X h₀ L rest as r (fun e s' => R (.error e) s') → codeAny (model X.prog X.w) A (.call (.ref 233) ⟨us, []⟩) R s
noncomputable def CheckOk (X : Cx) : Prop := ∀ {rec : Rec}, Sound X rec → ∀ {h₀ : Heap} {L : Addr} {rest : List (Addr × Obj)} {as : List Addr} {r : Rs} {c : C} {s : Shared} {d : Nat} {sc : Scope} {A : Around} {env : Env} {args : List V} {us : List Value} {R : Result → Shared → Prop},
  checkArm X.t rec d args c = some r → Sit X (d + 1) A sc env h₀ L → St X h₀ L rest as c s → F2 (VR X as) args us → EP X h₀ L rest as r (fun e s' => R (.error e) s') → OKV X h₀ L rest as r (fun v s' => R (.ok (.ret v)) s') →
  codeAny (model X.prog X.w) A (.call (.ref 387) ⟨us, []⟩) R s

theorem call_ok (KO : Ok X) (FO : FailOk X) (CO : CheckOk X) (ih : Sound X rec) {a : Nat} {args : List V} {us : List Value} {R : Result → Shared → Prop} (h : callArm X.t rec d sc a args c = some r) (J : Sit X d A sc env h₀ L) (S : St X h₀ L rest as c s) (fa : F2 (VR X as) args us)
    (hE : EP X h₀ L rest as r (fun e s' => R (.error e) s')) (hQ : OKV X h₀ L rest as r (fun v s' => R (.ok (.ret v)) s')) : codeAny (model X.prog X.w) A (.call (.ref a) ⟨us, []⟩) R s := by
  cases d with
  | zero => cases h
  | succ d =>
    unfold callArm at h; dsimp only at h
    split at h
    · rename_i h2
      cases Nat.eq_of_beq_eq_true h2
      exact FO h J S fa hE
    · split at h
      · rename_i h2
        cases Nat.eq_of_beq_eq_true h2
        exact CO ih h J S fa hE hQ
      · split at h
        · rename_i fi hi
          split at h
          · rename_i fn hf
            obtain ⟨g1, g2, g3⟩ := KO.init a fi hi
            obtain ⟨m, objs, F, N, nd, hH, hL⟩ := id S.ex
            refine make_K F N (J.K.keeps S.keep) g1 g2 g3 fun x dx h' F' N' lt lt2 => ?_
            have S' := mk_inst (n := s.toks) S nd hH hL F' N' lt lt2
            have hlen : as.length = c.H.length := as_len S
            have x' : Ext as ((as ++ [dx]) ++ [x]) := (Ext.push _ _).trans (Ext.push _ _)
            have hx : VR X ((as ++ [dx]) ++ [x]) (.ref (c.H.length + 1)) (.ref x) := ⟨x, by rw [← hlen]; simp, rfl⟩
            have J' : Sit X d (A.under (.builtin "type.__call__" ⟨.ref a :: us, []⟩)) sc env h₀ L := by
              obtain ⟨A₀, outer, B, hA⟩ := J.below
              have hdep := J.depth
              have hun := J.units
              refine ⟨⟨A₀, outer, B, hA⟩, J.envis, J.kind, J.stays, ?_, ?_, J.handled, J.K, J.T⟩
              · show A.depth + 1 + 2 * d + 2 < recursionLimit
                omega
              · show A.units + (Code.builtin "type.__call__" ⟨.ref a :: us, []⟩).cUnits + 20 * d + 100 < cLine
                have : (Code.builtin "type.__call__" ⟨.ref a :: us, []⟩).cUnits ≤ 10 := Nat.le_of_ble_eq_true rfl
                omega
            split at h
            · rename_i c' hr
              refine fn_ok KO ih hr hf J' S' (.cons hx (fa.mono fun _ _ q => q.ext x')) (fun _ _ _ q => nomatch q) fun v1 c1 q as1 s1 u x1 S1 V1 => ?_
              cases q
              exact ⟨V1, hQ _ _ (val_ok h) as1 s1 (.ref x) (x'.trans x1) S1 (hx.ext x1)⟩
            · cases h
          · cases h
        · split at h
          · rename_i fn hf
            exact fn_ok KO ih h hf J S fa hE hQ
          · cases h

theorem sound_step (KO : Ok X) (FO : FailOk X) (CO : CheckOk X) (ih : Sound X rec) : Sound X (step X.t rec) where
  ex h _ _ _ _ _ _ _ _ _ J S hE hQ := ex_ok KO ih h J S hE hQ
  exs h ns _ _ _ _ _ _ _ _ _ _ J S hE hQ := exs_ok ih h ns J S hE hQ
  tr h _ _ _ _ _ _ _ _ _ J S hE hQ := tr_ok KO ih h J S hE hQ
  trs h _ _ _ _ _ _ _ _ _ J S hE hQ := trs_ok ih h J S hE hQ
  st h _ _ _ _ _ _ _ _ _ J S hE hQ := st_ok KO ih h J S hE hQ
  sts h _ _ _ _ _ _ _ _ _ J S hE hQ := sts_ok ih h J S hE hQ
  call h _ _ _ _ _ _ _ _ _ J S fa hE hQ := call_ok KO FO CO ih h J S fa hE hQ
  wh h _ _ _ _ _ _ _ _ J S hE hQ := wh_ok ih h J S hE hQ
  fo h _ _ _ _ _ _ _ _ _ _ J S I nds hE hQ := fo_ok KO ih h J S I nds hE hQ
theorem sound_run (KO : Ok X) (FO : FailOk X) (CO : CheckOk X) : ∀ n : Nat, Sound X (run X.t n)
  | 0 => ⟨(fun h => nomatch h), (fun h => nomatch h), (fun h => nomatch h), (fun h => nomatch h), (fun h => nomatch h), (fun h => nomatch h), (fun h => nomatch h), (fun h => nomatch h), (fun h => nomatch h)⟩
  | n + 1 => sound_step KO FO CO (sound_run KO FO CO n)
end
end Mine

end
section
open PySem PySem.W PySem.Calls PyProof.Rows PySem.Spec PySem.Builtin PySem.Builtin.ObjectAttr PySem.Builtin.Getset_descriptor
namespace Mine
noncomputable abbrev excLine : List Value := [.type "Exception", .type "BaseException", .type "object"]
theorem refuse_exc (self : Value) : refuseLoop self "__setattr__" excLine = pure () := by kernel_rfl
noncomputable def excOver (K : Frag) (C : Addr) : Prop := ∃ cd, clsIn K C = some cd ∧ cd.mro = .ref C :: excLine ∧ cd.hasDict = true

section
variable {prog : Program} {w : World} {A : Around} {E : Value → Shared → Prop} {s : Shared} {K : Frag} {x C L : Addr} {h₀ : Heap} {m : Str → Option Value} {news : List (Addr × Obj)} {R : Result → Shared → Prop}

theorem exc_open {ox : Obj} {od : Option Obj} {name : Str} {tk : Tok} {v : Value} (X : K.In s.heap) (I : InstAt s.heap x ox C od) (hp : excOver K C) (ht : takerIn K C name = some none)
    (h : ∀ b, wpAny (model prog w) A.in1 (storeInOwnDict (.ref x) (.ref C) (.str name tk) name v b)
      (fun fin s' => match fin with | .done f => R (.ok f) s' | .again c' => c'.quiet = true ∧ codeAny (model prog w) A c' R s') (fun e s' => R (.error e) s') s) :
    codeAny (model prog w) A (.call (.builtin "object.__setattr__") ⟨[.ref x, .str name tk, v], []⟩) R s := by
  have SF := PySem.F.store_object
  obtain ⟨cd, hc, hmro, hdct⟩ := hp
  have sub : Looks (model prog w) s.heap (isInstance (.ref x) (.type "object")) true := I.type.andThen (looks_mroIn X (by unfold mroIn; rw [hc, Option.bind_some, hmro]; simp))
  refine codeAny_call_builtin SF.slot.plain SF.entry (@check_slot (model prog w) _ _ s "object.__setattr__" "object" "__setattr__" (.ref x) [.str name tk, v] [] _ SF.kind SF.split sub (SF.args (.ref x) (.str name tk) v) ?_)
  obtain ⟨attr, ha, hr⟩ := Option.bind_eq_some_iff.mp ht
  have hm : Looks (model prog w) s.heap (mroOf (.ref C)) cd.mro := (looks_clsIn X hc).andThen .now
  have L3 : Looks (model prog w) s.heap (storeTaker? attr) none := by
    cases attr with
    | none => cases hr; exact .now
    | some a =>
      obtain ⟨b, hb, e⟩ := Option.map_eq_some_iff.mp hr
      refine (looks_takesIn X hb).andThen ?_
      cases b
      · exact .now
      · cases e
  rw [osa_eq, refuse_eq]
  refine wpAny_bind (wpAny_bind (I.type.here (wpAny_bind (hm.here ?_))))
  rw [hmro, refuseLoop_ref, refuse_exc]
  refine wpAny_pure (wpAny_bind (I.type.here (wpAny_bind ((looks_findIn X ha).here (wpAny_bind (L3.here ?_))))))
  exact h _

/-- the name's place in a dict, and what stands behind -/
theorem ns_put {A' : Around} {Qf : Fin → Shared → Prop} {Ef : Value → Shared → Prop} {d : Addr} {ds : List DictEntry} {n : Nat} {name : Str} {v : Value} {tk : Tok} {pre post : List (Addr × Obj)} (F : Fr h₀ L s.heap m) (N : News h₀ L s.heap (pre ++ (d, dictOf ds n) :: post)) (h1 : ∀ p ∈ pre, p.1 ≠ d) (h2 : ∀ p ∈ post, p.1 ≠ d)
    (hl : (getL name ds).isSome = true ∨ ds.toArray.any (·.refKey) = false) (hz : ds.length ≤ 100)
    (h : ∀ h', Fr h₀ L h' m → News h₀ L h' (pre ++ (d, dictOf (putL name (PyData.keyHash w.params name) (.str name s.toks) v ds) (putN name ds n)) :: post) → Qf (.done (.ret .none)) { s with heap := h', toks := s.toks + 1 }) :
    wpAny (model prog w) A' (storeInDict d (.str name tk) name v) Qf Ef s := by
  have e : Obj.putName name (PyData.keyHash w.params name) (.str name s.toks) v (dictOf ds n) = dictOf (putL name (PyData.keyHash w.params name) (.str name s.toks) v ds) (putN name ds n) := putName_dict ..
  obtain ⟨U1, U2⟩ := news_upd (f := Obj.putName name (PyData.keyHash w.params name) (.str name s.toks) v) F N h1 h2 e rfl
  have D := (N (d, dictOf ds n) (by simp)).1
  have D' := (U2 (d, dictOf (putL name (PyData.keyHash w.params name) (.str name s.toks) v ds) (putN name ds n)) (by simp)).1
  have hz' := putL_len (k := name) (hsh := PyData.keyHash w.params name) (key := .str name s.toks) (v := v) ds
  unfold storeInDict
  refine wpAny_bind (wpAny_pure (wpAny_bind ?_))
  unfold nsSet
  refine wpAny_bind (wpAny_bind (wpAny_askSetting (wpAny_pure (wpAny_bind (wpAny_mkText (wpAny_bind (wpAny_loadPart D ?_)))))))
  dsimp only
  have c : (!ds.toArray.any (·.key.isStr name) && ds.toArray.any (·.refKey)) = false := by
    rcases hl with hl | hl
    · have hl' : (lookIn name (dictOf ds n)).isSome = true := hl
      unfold lookIn at hl'
      rw [← Array.any_toList, ← Array.any_toList]
      dsimp only at hl'
      split at hl'
      · rename_i en he
        rw [List.any_eq_true.mpr ⟨en, List.mem_of_find?_eq_some he, List.find?_some he⟩]; rfl
      · split at hl'
        · cases hl'
        · rename_i z; rw [Bool.not_eq_true] at z; rw [z, Bool.and_false]
    · rw [hl, Bool.and_false]
  rw [aRefKeyMayBeTheName_at, c]
  refine wpAny_updatePart D ?_
  refine wpAny_bind (wpAny_lookBehind D' (pastItsLine_dict (by rw [List.size_toArray, sizeLine_eq]; omega)) ?_)
  exact wpAny_pure (h _ U1 U2)


theorem exc_set_next {vs : Array Value} {d : Addr} {ds : List DictEntry} {n : Nat} {name : Str} {v : Value} {pre post : List (Addr × Obj)} {Q : Unit → Shared → Prop} (F : Fr h₀ L s.heap m) (X : K.In s.heap) (N : News h₀ L s.heap (pre ++ (d, dictOf ds n) :: post))
    (hx : s.heap.get? x = some { cls := .ref C, dict := some d, data := .fields vs }) (hp : excOver K C) (hs : findIn K (.ref C) "__setattr__" = some (some (.builtin "object.__setattr__"))) (ht : takerIn K C name = some none)
    (h1 : ∀ p ∈ pre, p.1 ≠ d) (h2 : ∀ p ∈ post, p.1 ≠ d) (hl : (getL name ds).isSome = true ∨ ds.toArray.any (·.refKey) = false) (hz : ds.length ≤ 100)
    (h : ∀ h' n', Fr h₀ L h' m → News h₀ L h' (pre ++ (d, dictOf (putL name (PyData.keyHash w.params name) (.str name (s.toks + 1)) v ds) (putN name ds n)) :: post) → Q () { s with heap := h', toks := n' }) :
    wpAny (model prog w) A (setAttr (.ref x) name v) Q E s := by
  have I : InstAt s.heap x { cls := .ref C, dict := some d, data := .fields vs } C (some (dictOf ds n)) := ⟨hx, rfl, rfl, (N (d, dictOf ds n) (by simp)).1⟩
  refine set_plain X I hs (exc_open (s := { s with toks := s.toks + 1 }) X I hp ht fun b => ?_)
  obtain ⟨cd, hc, hmro, hdct⟩ := hp
  unfold storeInOwnDict
  refine wpAny_bind (wpAny_pure (wpAny_bind (wpAny_bind (wpAny_loadPart hx (wpAny_bind (looks_clsIn X hc _ _ _ _ (fun _ _ e => e) ?_))))))
  rw [hdct]
  refine wpAny_pure (a := some d) ?_
  exact ns_put (s := { s with toks := s.toks + 1 }) F N h1 h2 hl hz fun h' F' N' => h h' _ F' N'

theorem exc_set_first {vs : Array Value} {name : Str} {v : Value} {Q : Unit → Shared → Prop} (F : Fr h₀ L s.heap m) (X : K.In s.heap) (N : News h₀ L s.heap ((x, { cls := .ref C, data := .fields vs }) :: news)) (hne : ∀ p ∈ news, p.1 ≠ x)
    (hp : excOver K C) (hs : findIn K (.ref C) "__setattr__" = some (some (.builtin "object.__setattr__"))) (ht : takerIn K C name = some none)
    (h : ∀ d h' n', Fr h₀ L h' m → News h₀ L h' ((d, dictOf [⟨PyData.keyHash w.params name, .str name (s.toks + 1), v⟩] 1) :: (x, { cls := .ref C, dict := some d, data := .fields vs }) :: news) → (∀ p ∈ news, p.1 < d) → x < d → Q () { s with heap := h', toks := n' }) :
    wpAny (model prog w) A (setAttr (.ref x) name v) Q E s := by
  have hx := (N _ (.head _)).1
  have I : InstAt s.heap x { cls := .ref C, data := .fields vs } C none := ⟨hx, rfl, rfl, trivial⟩
  refine set_plain X I hs (exc_open (s := { s with toks := s.toks + 1 }) X I hp ht fun b => ?_)
  obtain ⟨cd, hc, hmro, hdct⟩ := hp
  unfold storeInOwnDict
  refine wpAny_bind (wpAny_pure (wpAny_bind (wpAny_bind (wpAny_loadPart hx (wpAny_bind (looks_clsIn X hc _ _ _ _ (fun _ _ e => e) ?_))))))
  rw [hdct]
  have hlt := Heap.lt_size hx
  have F1 := F.push { cls := .type "dict", data := .dict #[] }
  have N1 := N.push F { cls := .type "dict", data := .dict #[] }
  have z := N1 (x, _) (List.mem_cons_of_mem _ (.head _))
  obtain ⟨U1, U2⟩ := news_upd (pre := [(s.heap.objs.size, { cls := .type "dict", data := .dict #[] })]) (post := news) (o := { cls := .ref C, data := .fields vs }) (o' := { cls := .ref C, dict := some s.heap.objs.size, data := .fields vs })
    (f := fun o => { o with dict := some s.heap.objs.size }) F1 N1 (fun p hp => by simp at hp; subst hp; exact Nat.ne_of_gt hlt) hne rfl rfl
  refine wpAny_bind (wpAny_alloc (wpAny_bind (wpAny_update z.1 (wpAny_pure (a := some s.heap.objs.size) ?_))))
  refine ns_put (ds := []) (n := 0) (pre := []) (s := { s with heap := (s.heap.push { cls := .type "dict", data := .dict #[] }).update x fun o => { o with dict := some s.heap.objs.size }, toks := s.toks + 1 }) U1 U2 (fun _ h => nomatch h) (fun p hp => ?_) (.inr (by simp)) (by simp) fun h' F' N' => ?_
  · have hp : p = (x, _) ∨ p ∈ news := List.mem_cons.mp hp
    rcases hp with rfl | hp
    · exact Nat.ne_of_lt hlt
    · exact Nat.ne_of_lt (Heap.lt_size (N p (List.mem_cons_of_mem _ hp)).1)
  · exact h _ h' _ F' N' (fun p hp => Heap.lt_size (N p (List.mem_cons_of_mem _ hp)).1) hlt

theorem slot_ga : PySem.Slot "Exception" "__getattribute__" "BaseException.__getattribute__" := PySem.F.attrBase_Exception.ga
theorem slot_two (n : String) (a b : Value) : slotArgs n 1 ⟨[a, b], []⟩ = pure (a, [b]) := by unfold slotArgs; kernel_rfl
theorem attr_str (x : Str) (t : Tok) : attrName (.str x t) = pure x := by unfold attrName; rfl
theorem exc_get {ox : Obj} {od : Option Obj} {name : Str} {v : Value} {expr : Bool} {Q : Value → Shared → Prop} (X : K.In s.heap) (I : InstAt s.heap x ox C od) (hga : findIn K (.ref C) "__getattribute__" = some (some (.builtin "BaseException.__getattribute__")))
    (hgn : findIn K (.ref C) "__getattr__" = some none) (hsub : mroIn K C (.type "BaseException") = some true) (hf : findObj K C od name = some (.value v)) (hh : handedIn v = true) (h : Q v { s with toks := s.toks + 1 }) :
    wpAny (model prog w) A (getAttr (.ref x) name expr) Q E s := by
  obtain ⟨hp, g, d, t, os⟩ := s
  have L0 := I.type (M := model prog w)
  have L1 := looks_findIn (M := model prog w) X hga
  have L2 := looks_findIn (M := model prog w) X hgn
  have L3 := looks_find (M := model prog w) X I hf
  have hx2 : (Value.builtin "BaseException.__getattribute__" == Value.builtin "object.__getattribute__") = false := by decide +kernel
  have hx1 : (onTheHeap (Value.ref C) && Value.builtin "BaseException.__getattribute__" == Value.builtin "object.__getattribute__") = false := by rw [hx2]; rfl
  have hx0 : (expr && onTheHeap (Value.builtin "BaseException.__getattribute__")) = false := by cases expr <;> rfl
  unfold getAttr
  refine wpAny_bind (wpAny_mkText ?_)
  unfold getAttrBy
  refine wpAny_holding (wpAny_bind (L0.at (wpAny_bind (L1.at ?_))))
  dsimp only
  rw [if_neg (by rw [hx1]; decide)]
  unfold getAttrByItsOwn hookBefore
  refine wpAny_bind (L2.at (wpAny_bind (wpAny_attempt (wpAny_holding ?_))))
  unfold callGetattribute
  rw [if_neg (by rw [hx0]; decide)]
  unfold boundAndCalled
  have hk : builtinKind "BaseException.__getattribute__" = some .slot := by decide +kernel
  have hsp : splitId "BaseException.__getattribute__" = some ("BaseException", "__getattribute__") := by decide +kernel
  refine wpAny_bind (wpAny_of_eq (slot_ga.bind _) (wpAny_call ?_))
  refine codeAny_call_builtin slot_ga.plain PySem.F.entry_bexc_ga (@check_slot (model prog w) _ _ ⟨hp, g, d, t + 1, os⟩ "BaseException.__getattribute__" "BaseException" "__getattribute__" (.ref x) [.str name t] [] _ hk hsp (L0.andThen (looks_mroIn X hsub)) (PySem.F.args_bexc_ga _ _) ?_)
  unfold Builtin.«object.__getattribute__»
  rw [List.cons_append, List.nil_append, slot_two, pure_bind]
  show wpAny _ _ (attrName (.str name t) >>= _) _ _ _
  rw [attr_str, pure_bind]
  refine wpAny_bind (L0.at (wpAny_bind (L3.at ?_)))
  refine wpAny_pure ?_
  show wpAny _ _ (handedOut v) _ _ _
  rw [handedOut_of hh]; exact wpAny_pure h
end
end Mine

end
section
open PySem PySem.W PySem.Calls PyProof.Rows PySem.Spec PySem.Builtin
namespace Mine
section
variable {prog : Program} {w : World} {A : Around} {E : Value → Shared → Prop} {s : Shared} {K : Frag} {x C L f : Addr} {h₀ : Heap} {m : Str → Option Value} {news : List (Addr × Obj)} {R : Result → Shared → Prop}
variable {nm q : Str} {ns : Addr} {bs : List Value} {sn : List Str} {sub : List Value} {ab : Bool} {col : Option Bool} {dd : Option Addr} {k0 k1 k2 k3 k5 : Option Value}
noncomputable abbrev excBare (C t : Addr) : Obj := { cls := .ref C, data := .fields #[.ref t, .none, .none, .none, .bool false, .none] }
noncomputable abbrev excArgs (rest : List Value) : Obj := { cls := .type "tuple", data := .seq rest.toArray }

theorem make_exc {rest : List Value} (hc : K.lookup C = some (excClassObj nm q C ns bs excLine true sn sub ab col dd k0 k1 k2 k3 k5 "Exception.__new__")) (hi : findIn K (.ref C) "__init__" = some (some (.ref f))) (hf : typeIn K (.ref f) = some (.type "function"))
    (F : Fr h₀ L s.heap m) (N : News h₀ L s.heap news) (X : K.In s.heap) (hl : rest.length ≤ 10)
    (h : ∀ x t h', Fr h₀ L h' m → News h₀ L h' ((x, excBare C t) :: (t, excArgs rest) :: news) → (∀ p ∈ news, p.1 < t) → t < x →
      codeAny (model prog w) (A.under (.builtin "type.__call__" ⟨.ref C :: rest, []⟩)) (.call (.ref f) ⟨.ref x :: rest, []⟩) (InitBack x R) { s with heap := h' }) :
    codeAny (model prog w) A (.call (.ref C) ⟨rest, []⟩) R s := by
  obtain ⟨hh, g, d, t, os⟩ := s
  have hC := X _ _ hc
  have FX := PySem.F.excBase_Exception
  have T : OwnTail hh [.type "Exception", .type "BaseException", .type "object"] excLine := .base
  have f1 := tc_lookup
  have f2 := tc_bind (.ref C)
  have hT : (⟨hh, g, d, t, os⟩ : Shared).TypeIs (.ref C) "type" := ⟨_, hC, rfl⟩
  refine codeAny_of_tree ?_
  show wpAny _ _ (callAny (.ref C) _) _ _ _
  repeat (any_goals (first | assumption | with_reducible refine wpAny_loadPart_at hC ?_ | wp_step))
  refine ⟨rfl, ?_⟩
  refine codeAny_call_builtin_at (Code.quiet_builtin _ (by decide +kernel)) entry_typeCall (wpAny_check_type_call_sub hC ?_)
  repeat (first | with_reducible refine wpAny_loadPart_at hC ?_ | with_reducible refine wpAny_madeBy_exc hC ?_ | wp_step)
  refine codeAny_call_builtin_code (Code.quiet_builtin _ FX.quiet) (wpAny_check_new_subU FX (by decide +kernel) T hC ?_)
  refine codeAny_exc_new_subU FX (by decide +kernel) FX T hC ?_ (Nat.le_trans hl (by rw [sizeLine_eq]; omega))
  show wpAny _ _ _ _ _ _
  have kk : ∀ b o, hh.get? b = some o → ((hh.push (excArgs rest)).push (excBare C hh.objs.size)).get? b = some o := fun b o e => Heap.get?_push_of_some _ (Heap.get?_push_of_some _ e)
  have hC₁ := kk _ _ hC
  have hget : ((hh.push (excArgs rest)).push (excBare C hh.objs.size)).get? (hh.objs.size + 1) = some (excBare C hh.objs.size) := by heap_get
  have hcC : (Value.ref C :: excLine).contains (.ref C) = true := by simp
  have X₁ : K.In ((hh.push (excArgs rest)).push (excBare C hh.objs.size)) := fun a o e => kk _ _ (X a o e)
  have t1 : Looks (model prog w) ((hh.push (excArgs rest)).push (excBare C hh.objs.size)) (typeOf (.ref (hh.objs.size + 1))) (.ref C) := (Looks.ld hget).andThen .now
  have i1 := looks_findIn (M := model prog w) X₁ hi
  have b1 := bind_fn (M := model prog w) X₁ (.ref (hh.objs.size + 1)) hf
  have N' := (N.push F (excArgs rest)).push (F.push _) (excBare C hh.objs.size)
  rw [Heap.size_push] at N'
  have z := h _ hh.objs.size _ ((F.push _).push _) N' (fun p hp => Heap.lt_size (N p hp).1) (Nat.lt_succ_self _)
  unfold isInstance
  refine wpAny_bind (wpAny_bind (t1.at ?_))
  refine wpAny_isSubtype_exc hC₁ ?_
  rw [hcC]
  simp only [Bool.not_true, Bool.false_eq_true, if_false]
  unfold callSpecial? specialOf
  repeat (first | with_reducible refine wpAny_call ?_ | lk)
  refine codeAny_mono z fun r s' z => ?_
  rcases r with e | (v | _ | _ | _) <;> first | exact z | exact z.elim | skip
  obtain ⟨rfl, z⟩ := z
  exact wpAny_pure (wpAny_pure z)
end
end Mine

end
section
open PySem PySem.W PySem.Calls PyProof.Rows PySem.Spec PySem.Builtin
namespace Mine
section
variable {X : Cx} {h₀ : Heap} {L : Addr} {rest : List (Addr × Obj)} {as as' : List Addr} {r : Rs} {c : C} {s : Shared} {rec : Rec} {d : Nat} {sc : Scope} {A : Around} {env : Env} {E : Value → Shared → Prop}

/-- an own exception class straight under Exception, whose __init__ stores its two arguments under their names -/
structure ExcCls (X : Cx) (C f : Addr) (fn : Fn) (a1 a2 : Str) : Prop where
  obj : ∃ nm q ns bs sn sub ab col dd k0 k1 k2 k3 k5, X.K.lookup C = some (excClassObj nm q C ns bs excLine true sn sub ab col dd k0 k1 k2 k3 k5 "Exception.__new__")
  init : findIn X.K (.ref C) "__init__" = some (some (.ref f))
  isfn : typeIn X.K (.ref f) = some (.type "function")
  keep : keepIn X.K (.ref C) = true
  atfn : X.t.fn f = some fn
  args : fn.params.args.map (·.arg) = [("self" : Str), a1, a2]
  body : ∃ q1 q2 q3 q4 q5 q6 q7 q8 : Pos, fn.body = [.Assign [.Attribute (.Name "self" q1) a1 q2] (.Name a1 q3) q4, .Assign [.Attribute (.Name "self" q5) a2 q6] (.Name a2 q7) q8]
  ne : a1 ≠ "self" ∧ a2 ≠ "self" ∧ a1 ≠ a2 ∧ a1 ≠ "__debug__" ∧ a2 ≠ "__debug__"
  set : findIn X.K (.ref C) "__setattr__" = some (some (.builtin "object.__setattr__"))
  take : takerIn X.K C a1 = some none ∧ takerIn X.K C a2 = some none
  get : findIn X.K (.ref C) "__getattribute__" = some (some (.builtin "BaseException.__getattribute__")) ∧ findIn X.K (.ref C) "__getattr__" = some none
  look : findIn X.K (.ref C) a1 = some none ∧ findIn X.K (.ref C) a2 = some none
noncomputable abbrev excObj (C t dx : Addr) : Obj := { cls := .ref C, dict := some dx, data := .fields #[.ref t, .none, .none, .none, .bool false, .none] }

theorem ExcCls.over {C f : Addr} {fn : Fn} {a1 a2 : Str} (Z : ExcCls X C f fn a1 a2) : excOver X.K C := by
  obtain ⟨nm, q, ns, bs, sn, sub, ab, col, dd, k0, k1, k2, k3, k5, e⟩ := Z.obj
  refine ⟨_, by unfold clsIn; rw [show X.K.lookup C = _ from e], rfl, rfl⟩

theorem dbg_no {x : Str} (h : x ≠ "__debug__") : (x == ("__debug__" : Str)) = false := by
  rw [beq_eq_false_iff_ne]; exact h

theorem made_ok {C f : Addr} {fn : Fn} {a1 a2 : Str} {v1 v2 : V} {u1 u2 : Value} {A' : Around} {R : Result → Shared → Prop} (KO : Ok X) (Z : ExcCls X C f fn a1 a2) (J : Sit X d A sc env h₀ L) (hA' : A'.frames = A.frames ∧ A'.depth = A.depth) (S : St X h₀ L rest as c s)
    (V1 : VR X as v1 u1) (V2 : VR X as v2 u2) (h : ∀ s' x t dx, St X h₀ L ((x, excObj C t dx) :: rest) (as ++ [dx]) (c.new (.dict [(a1, v1), (a2, v2)])) s' → R (.ok (.ret (.ref x))) s') :
    codeAny (model X.prog X.w) A' (.call (.ref C) ⟨[u1, u2], []⟩) R s := by
  obtain ⟨nm, q, ns, bs, sn, sub, ab, col, dd, k0, k1, k2, k3, k5, hC⟩ := Z.obj
  obtain ⟨m, objs, F, N, nd, hH, hL⟩ := id S.ex
  have KIn := J.K.keeps S.keep
  refine make_exc hC Z.init Z.isfn F N KIn (show 2 ≤ 10 by decide) fun x t h' F' N' lt ltx => ?_
  obtain ⟨name, qual, doc, pm, an, cdv, od, osl, oc, hK, hcode, hkind, hco, hgen, hcell, hloc, hnd, hbind⟩ := KO.fn f fn Z.atfn
  obtain ⟨A₀, outer, B, hA⟩ := J.below
  have hdep := J.depth
  have hke : env.scope.kind = .function := by obtain ⟨nm, a', cd, rfl⟩ := J.envis; exact J.kind
  have K' : X.K.In h' := J.K.keeps F'.keep
  have hb := hbind [.ref x, u1, u2] (by have := congrArg List.length Z.args; rw [List.length_map] at this; exact this.symm)
  rw [Z.args] at hb
  have hl : ∀ y ∈ (["self", a1, a2] : List Str), fn.scope.names.lookup y = some .local := fun y hy => by
    rw [← Z.args] at hy
    obtain ⟨p, hp, e⟩ := List.mem_map.mp hy
    rw [← e]; exact hloc p hp
  refine callX_plain (A := A'.under (.builtin "type.__call__" ⟨.ref C :: [u1, u2], []⟩)) (s := { s with heap := h' }) (cl := []) (binds := [("self", .ref x), (a1, u1), (a2, u2)]) B F' N' J.T.nolimit (show A'.frames = _ from hA'.1.trans hA) J.frame hke (K' _ _ hK) rfl (codeRec_of K' hcode)
    (by show A'.depth + 1 < recursionLimit; rw [hA'.2]; omega) (BindsTo.of_eq hb) (fun y hy => ?_) (fun g L' h₁ FG F1 N1 B1 st lt1 => ?_) hcell hco hgen hkind
  · refine hl _ ?_
    simp only [List.mem_cons, List.not_mem_nil, or_false] at hy ⊢
    rcases hy with rfl | rfl | rfl <;> simp
  · obtain ⟨q1, q2, q3, q4, q5, q6, q7, q8, hbody⟩ := Z.body
    obtain ⟨n1, n2, n3, n4, n5⟩ := Z.ne
    have e1 : ([("self", .ref x), (a1, u1), (a2, u2)] : List (Str × Value)).reverse.lookup ("self" : Str) = some (.ref x) := by
      simp [List.lookup, beq_eq_false_iff_ne.mpr (Ne.symm n1), beq_eq_false_iff_ne.mpr (Ne.symm n2)]
    have e2 : ([("self", .ref x), (a1, u1), (a2, u2)] : List (Str × Value)).reverse.lookup a1 = some u1 := by
      simp [List.lookup, beq_eq_false_iff_ne.mpr n3]
    have e3 : ([("self", .ref x), (a1, u1), (a2, u2)] : List (Str × Value)).reverse.lookup a2 = some u2 := by
      simp [List.lookup]
    have l1 := hl "self" (by simp)
    have l2 := hl a1 (by simp)
    have l3 := hl a2 (by simp)
    have hself : ("self" : Str) ≠ "__debug__" := by decide
    have nx : ∀ p ∈ ((t, excArgs [u1, u2]) :: (objs ++ rest)), p.1 ≠ x := fun p hp => by
      rcases List.mem_cons.mp hp with rfl | hp
      · exact Nat.ne_of_lt ltx
      · exact Nat.ne_of_lt (Nat.lt_trans (lt p hp) ltx)
    rw [hbody]
    refine wpAny_execs_cons (plainObj_wpAny_Assign_Attribute (nameX_L (cl := []) F1 e2 (nameX_L (cl := []) F1 e1 ?_ hkind l1 (dbg_no hself)) hkind l2 (dbg_no n4)) (swaps_no rfl))
    have K1 : X.K.In h₁ := J.K.keeps fun b o e => F1.keep b o (st b o e)
    refine exc_set_first F1 K1 N1 nx Z.over Z.set Z.take.1 fun dx h2 tk2 F2 N2 lt2 ltd => ?_
    refine wpAny_execs_cons (plainObj_wpAny_Assign_Attribute (nameX_L (cl := []) F2 e3 (nameX_L (cl := []) F2 e1 ?_ hkind l1 (dbg_no hself)) hkind l3 (dbg_no n5)) (swaps_no rfl))
    have K2 : X.K.In h2 := J.K.keeps fun b o e => F2.keep b o (st b o e)
    refine exc_set_next (pre := []) F2 K2 N2 (N2 _ (.tail _ (.head _))).1 Z.over Z.set Z.take.2 (fun _ h => nomatch h) (fun p hp => ?_) (.inr (by simp [DictEntry.refKey])) (by simp) fun h3 tk3 F3 N3 => ?_
    · rcases List.mem_cons.mp hp with rfl | hp
      · exact Nat.ne_of_lt ltd
      · exact Nat.ne_of_lt (lt2 p hp)
    refine wpAny_execs_nil ?_
    refine leaveK_ F3 N3 fun F4 N4 => ⟨rfl, ?_⟩
    obtain ⟨ob, hob, N5⟩ : ∃ ob, OR X (as ++ [dx]) (.dict [(a1, v1), (a2, v2)]) ob ∧ News h₀ L h3 ((dx, ob) :: (x, excObj C t dx) :: (t, excArgs [u1, u2]) :: (objs ++ rest)) := by
      refine ⟨_, ⟨_, _, rfl, ?_⟩, N4⟩
      have e : Mine.st a2 v2 [(a1, v1)] = [(a1, v1), (a2, v2)] := by
        have : eqS a1 a2 = false := by rw [Bool.eq_false_iff]; exact fun e => n3 (eqS_iff.mp e)
        simp [Mine.st, this]
      have g1 : ∀ t1 : Tok, Mine.F2 (ER X (as ++ [dx])) [(a1, v1)] [⟨PyData.keyHash X.w.params a1, .str a1 t1, u1⟩] := fun t1 => .cons ⟨⟨t1, rfl⟩, rfl, V1.ext (Ext.push _ _)⟩ .nil
      have g2 := fun t1 t2 : Tok => st_put (k := a2) (tk := t2) (hsh := PyData.keyHash X.w.params a2) rfl (V2.ext (Ext.push as dx)) (g1 t1)
      rw [e] at g2
      exact g2 _ _
    refine h _ x t dx ⟨⟨m, objs ++ [(dx, ob)], F4, fun p hp => N5 p ?_, ?_, ⟨?_, ?_⟩, hL.ext (Ext.push _ _)⟩, ?_, S.sh⟩
    · simp only [List.nil_append, List.mem_append, List.mem_cons, List.not_mem_nil, or_false] at hp ⊢
      rcases hp with (h | h) | h | h
      · exact .inr (.inr (.inr (.inl h)))
      · exact .inl h
      · exact .inr (.inl h)
      · exact .inr (.inr (.inr (.inr h)))
    · have e : ∀ o : Obj, (objs ++ [(dx, o)] ++ (x, excObj C t dx) :: rest).map (·.1) = objs.map (·.1) ++ dx :: x :: rest.map (·.1) := fun o => by simp
      rw [e]
      rw [List.map_append] at nd
      have mm : ∀ b ∈ objs.map (·.1) ++ rest.map (·.1), ∃ p ∈ objs ++ rest, p.1 = b := fun b hm => by
        rw [← List.map_append] at hm
        exact List.mem_map.mp hm
      have hd : ∀ b ∈ objs.map (·.1) ++ rest.map (·.1), b < dx := fun b hm => by
        obtain ⟨p, hp, e⟩ := mm b hm
        exact e ▸ lt2 p (.tail _ hp)
      have hx : ∀ b ∈ objs.map (·.1) ++ rest.map (·.1), b < x := fun b hm => by
        obtain ⟨p, hp, e⟩ := mm b hm
        exact e ▸ Nat.lt_trans (lt p hp) ltx
      refine (List.perm_middle).nodup_iff.mpr (List.nodup_cons.mpr ⟨fun hm => ?_, (List.perm_middle).nodup_iff.mpr (List.nodup_cons.mpr ⟨fun hm => ?_, nd⟩)⟩)
      · rcases List.mem_append.mp hm with h | h
        · exact Nat.lt_irrefl _ (hd dx (List.mem_append.mpr (.inl h)))
        · rcases List.mem_cons.mp h with h | h
          · exact Nat.ne_of_gt ltd h
          · exact Nat.lt_irrefl _ (hd dx (List.mem_append.mpr (.inr h)))
      · exact Nat.lt_irrefl _ (hx x hm)
    · rw [List.map_append, hH.1]; rfl
    · exact (hH.2.mono fun _ _ q => q.ext (Ext.push _ _)).append (.cons hob .nil)
    · exact fun a ha => let ⟨p, q, r1, r2⟩ := S.nds a ha; ⟨p, q, .tail _ r1, .tail _ r2⟩
end
end Mine

end
section
open PySem PySem.W PySem.Calls PyProof.Rows PySem.Spec PySem.Builtin
namespace Mine
section
variable {M : Model} {A : Around} {E : Value → Shared → Prop} {env : Env} {s : Shared} {C e t dx : Addr}
variable {nm q : Str} {ns : Addr} {bs : List Value} {sn : List Str} {sub : List Value} {ab : Bool} {col : Option Bool} {dd : Option Addr} {k0 k1 k2 k3 k5 : Option Value}

theorem raise_own {x : Sem Value} {Q : Flow → Shared → Prop}
    (h : wpAny M A x (fun v s₁ => ∃ e t dx, v = .ref e ∧ s₁.heap.get? C = some (excClassObj nm q C ns bs excLine true sn sub ab col dd k0 k1 k2 k3 k5 "Exception.__new__") ∧
      s₁.heap.get? e = some (excObj C t dx) ∧ wpAny M A (raiseNew (.ref e) : Sem Flow) Q E s₁) E s) :
    wpAny M A (raiseStmt env (some x) none) Q E s := by
  have hcB : (Value.ref C :: excLine).contains (.type "BaseException") = true := by rw [List.contains_cons]; simp
  unfold raiseStmt
  refine wpAny_bind (wpAny_mono h (fun v s₁ h₁ => ?_) fun _ _ x => x)
  obtain ⟨e, t, dx, rfl, hC, he, hE⟩ := h₁
  obtain ⟨hp, g, d, tk, os⟩ := s₁
  repeat (first | with_reducible refine wpAny_loadPart_at he ?_ | with_reducible refine wpAny_loadPart_at hC ?_ | (with_reducible refine wpAny_isSubtype_exc hC ?_; rw [hcB]) | wp_step)
  exact hE
end
section
variable {prog : Program} {w : World} {A : Around} {E : Value → Shared → Prop} {env : Env} {s : Shared} {C e t dx : Addr}
theorem entry_unchain : entryFor table "proto.unchain" = some Builtin.«proto.unchain» := entryFor_of_tree (by kernel_rfl)
theorem raise_in {α : Type} {b : Addr} {ob oe : Obj} {vs ws : Array Value} {Q : α → Shared → Prop} (hh : A.handled = some (.ref b)) (hne : b ≠ e) (hb : s.heap.get? b = some ob) (hd : ob.data = .fields vs) (h2 : vs[2]? = some .none)
    (he : s.heap.get? e = some oe) (hw : oe.data = .fields ws) (hz : 2 < ws.size) (k : E (.ref e) { s with heap := s.heap.update e (Obj.mapFields (·.setIfInBounds 2 (.ref b))) }) :
    wpAny (model prog w) A (raiseNew (.ref e) : Sem α) Q E s := by
  unfold raiseNew
  refine wpAny_bind (wpAny_handled ?_)
  rw [hh]
  dsimp only
  rw [if_pos (by simp [hne])]
  refine wpAny_bind (wpAny_holding (wpAny_runValue (codeAny_builtin entry_unchain ?_)))
  unfold Builtin.«proto.unchain»
  refine wpAny_bind (wpAny_field hb hd h2 ?_)
  rw [if_pos (by decide)]
  refine wpAny_pure ?_
  show wpAny _ _ (setField (.ref e) 2 (.ref b) >>= fun _ => throw (.ref e)) _ _ _
  exact wpAny_bind (wpAny_setField he hw hz (wpAny_throw k))
end
end Mine

end
section
open PySem PySem.W PySem.Calls PyProof.Rows PySem.Spec PySem.Builtin
namespace Mine
section
variable {X : Cx} {h₀ : Heap} {L : Addr} {rest : List (Addr × Obj)} {as as' : List Addr} {r : Rs} {c : C} {s : Shared} {rec : Rec} {d : Nat} {sc : Scope} {A : Around} {env : Env} {E : Value → Shared → Prop} {cls x : Addr} {dd : Nat}

theorem sit_frames {h : Heap} {m : Str → Option Value} (J : Sit X d A sc env h₀ L) (hf : env.frame = some L) (e2 : h₀.objs.size ≤ L) (e3 : Upto h₀ h) (e4 : h.Ns L m) :
    ∃ outer, A.frames = some (env :: outer) ∧ h.FunFrames X.base (env :: outer) ∧ (∀ b ∈ outer.filterMap (·.frame), ∃ o, h₀.get? b = some o) := by
  obtain ⟨A₀, outer, B, hA⟩ := J.below
  refine ⟨outer, hA, ⟨?_, ⟨L, ?_⟩, B.frames.of_keeps fun b o ho hd => ?_⟩, fun b hb => let ⟨_, o, ho, _⟩ := B.frames.mem hb; ⟨o, ho⟩⟩
  · obtain ⟨nm, a, cd, rfl⟩ := J.envis
    show sc.kind ≠ .module
    rw [J.kind]; decide
  · obtain ⟨o, ho, hd⟩ := ns_obj e4
    refine ⟨o, hf, ?_, ho, hd⟩
    cases q : X.base.get? L with
    | none => rfl
    | some o => exact absurd (Nat.lt_of_lt_of_le (Heap.lt_size (J.stays _ _ q)) e2) (Nat.lt_irrefl _)
  · obtain ⟨sl, hs⟩ := e3 b o ho
    exact ⟨_, hs, rfl⟩
theorem Upto.of_keeps {h h' : Heap} (k : ∀ b o, h.get? b = some o → h'.get? b = some o) : Upto h h' := fun b o e => ⟨o.slots, k b o e⟩

/-- a fresh exception: no traceback yet -/
structure Fresh (cls dx : Addr) (ox : Obj) : Prop where
  kl : ox.cls = .ref cls
  dict : ox.dict = some dx
  data : ∃ vs, ox.data = .fields vs ∧ vs[1]? = some .none ∧ (cls = 188 → vs[2]? = some .none)

theorem fresh_note {ox : Obj} {dx : Addr} {M : Model} {A' : Around} {Q : Unit → Shared → Prop} (J : Sit X d A sc env h₀ L) (hA : A'.frames = A.frames) (S : St X h₀ L ((x, ox) :: rest) as c s) (nds : NdOk X rest) (hd : as[dd]? = some dx) (Z : Fresh cls dx ox)
    (h : ∀ s', Exc X h₀ L rest as c cls dd x s' → Q () s') : wpAny M A' (noteFrame (.ref x) env) Q E s := by
  obtain ⟨m, objs, F, N, nd, hH, hL⟩ := S.ex
  obtain ⟨vs, g1, g2, g3⟩ := Z.data
  obtain ⟨outer, hfr, hfb, hout⟩ := sit_frames J J.frame F.above (Upto.of_keeps F.keep) F.ns
  have mx : (x, ox) ∈ objs ++ (x, ox) :: rest := List.mem_append.mpr (.inr (.head _))
  obtain ⟨z1, z2, z3⟩ := N _ mx
  have sub : ∀ q ∈ objs ++ rest, q ∈ objs ++ (x, ox) :: rest := fun q hq => by
    rcases List.mem_append.mp hq with h | h
    · exact List.mem_append.mpr (.inl h)
    · exact List.mem_append.mpr (.inr (List.mem_cons_of_mem _ h))
  have nd' : x ∉ (objs ++ rest).map (·.1) ∧ ((objs ++ rest).map (·.1)).Nodup := by
    rw [List.map_append, List.map_cons] at nd
    rw [List.map_append]
    exact List.nodup_cons.mp ((List.perm_middle).nodup_iff.mp nd)
  have hbx : X.base.get? x = none := by
    cases q : X.base.get? x with
    | none => rfl
    | some o => rw [J.stays _ _ q] at z3; cases z3
  refine thrown_note0 (hA.trans hfr) hfb J.frame (fun b o e => F.keep b o (J.stays b o e)) z1 hbx g1 g2 Z.kl Z.dict g3 fun h' T' hT' hS ht => h _ ?_
  refine ⟨⟨m, objs, dx, T', rawInt L, fun b o hb => ?_, F.above, fun b o hb => ?_, ?_, fun p hp => ?_, nd'.2, hH, hL, hd, ht, .inr rfl, fun p hp => ⟨fun e => nd'.1 (e ▸ List.mem_map_of_mem hp), Nat.ne_of_lt (Nat.lt_of_lt_of_le (Heap.lt_size (N p (sub p hp)).1) hT')⟩, z3, ?_⟩, nds, S.sh⟩
  · have z := F.keep b o (J.stays b o hb)
    have ne : b ≠ x := fun q => by rw [q, hbx] at hb; cases hb
    obtain ⟨sl, q1, q2⟩ := hS b o z ne ne
    have : sl = o.slots := q2 fun hm => by rw [(hfb.mem hm).1] at hb; cases hb
    rw [this] at q1; exact q1
  · have ne : b ≠ x := fun q => by rw [q, z3] at hb; cases hb
    obtain ⟨sl, q1, _⟩ := hS b o (F.keep b o hb) ne ne
    exact ⟨sl, q1⟩
  · obtain ⟨o, es, ep, ho, hd', r⟩ := F.ns
    have ne : L ≠ x := Ne.symm z2
    obtain ⟨sl', q1, _⟩ := hS L o ho ne ne
    exact ⟨_, es, ep, q1, hd', r⟩
  · obtain ⟨y1, y2, y3⟩ := N p (sub p hp)
    have ne : p.1 ≠ x := fun e => nd'.1 (e ▸ List.mem_map_of_mem hp)
    obtain ⟨sl, q1, q2⟩ := hS p.1 p.2 y1 ne ne
    have : sl = p.2.slots := q2 fun hm => by
      rw [List.filterMap_cons, J.frame] at hm
      rcases List.mem_cons.mp hm with q | hm
      · exact y2 q
      · obtain ⟨o, ho⟩ := hout _ hm
        rw [y3] at ho; cases ho
    rw [this] at q1
    exact ⟨q1, y2, y3⟩
  · cases q : h₀.get? T' with
    | none => rfl
    | some o => exact absurd (Nat.lt_of_lt_of_le (Heap.lt_size (F.keep _ _ q)) hT') (Nat.lt_irrefl _)

theorem exc_mark0 (J : Sit X d A sc env h₀ L) (P : Exc X h₀ L rest as c cls dd x s) {Q : Unit → Shared → Prop} {M : Model} {A' : Around} (h : ∀ s', Exc X h₀ L rest as c cls dd x s' → (∃ dx T, ThrownAt X.base cls dx x T .none s'.heap) → Q () s') : wpAny M A' (setFlight (.ref x) none) Q E s := by
  obtain ⟨outer, hA, hfb, hout⟩ := exc_frames J J.frame P
  obtain ⟨m, objs, dx, T, fl, e1, e2, e3, e4, e5, e6, e7, e8, e9, e10, e11, e12, e13, e14⟩ := P.ex
  refine thrown_mark e10 fun h' hS ht' => h _ (exc_step hfb hout J.frame e1 e2 e3 e4 e5 e6 e7 e8 e9 e10 e12 e13 e14 P.nds P.sh (fun b o hb n1 n2 => ?_) (.inl rfl) ht' (.inl rfl)) ⟨dx, T, ht'⟩
  obtain ⟨sl, q1, q2⟩ := hS b o hb n1 n2
  exact ⟨sl, q1, fun _ => q2 (by simp)⟩
theorem fresh_leave {ox : Obj} {dx : Addr} {M : Model} {Q : Unit → Shared → Prop} (J : Sit X d A sc env h₀ L) (S : St X h₀ L ((x, ox) :: rest) as c s) (nds : NdOk X rest) (hd : as[dd]? = some dx) (Z : Fresh cls dx ox)
    (h : ∀ s', Exc X h₀ L rest as c cls dd x s' → (∃ dx T, ThrownAt X.base cls dx x T .none s'.heap) → Q () s') : wpAny M A (leaving env (.ref x)) Q E s := by
  unfold leaving
  exact wpAny_bind (fresh_note J rfl S nds hd Z fun s' P => exc_mark0 J P h)
end
end Mine

end
section
open PySem PySem.W PySem.Calls PyProof.Rows PySem.Spec PySem.Builtin
namespace Mine
section
variable {X : Cx} {h₀ : Heap} {L : Addr} {rest : List (Addr × Obj)} {as as' : List Addr} {r : Rs} {c : C} {s : Shared} {rec : Rec} {d : Nat} {sc : Scope} {A : Around} {env : Env} {E : Value → Shared → Prop} {cls x : Addr} {dd : Nat}

/-- the ways out of a body of our own -/
structure Outs (X : Cx) (h₀ : Heap) (L : Addr) (rest : List (Addr × Obj)) (as : List Addr) (loc : List (Str × V)) (R : Result → Shared → Prop) (g : Heap) (L' : Addr) (Q : Flow → Shared → Prop) (E : Value → Shared → Prop) : Prop where
  ret : ∀ v c' as1 s1 u, Ext as as1 → St X g L' rest as1 c' s1 → VR X as1 v u → (∀ s2, St X h₀ L rest as1 ⟨c'.H, loc⟩ s2 → R (.ok (.ret u)) s2) → Q (.ret u) s1
  next : ∀ c' as1 s1, Ext as as1 → St X g L' rest as1 c' s1 → (∀ s2, St X h₀ L rest as1 ⟨c'.H, loc⟩ s2 → R (.ok (.ret .none)) s2) → Q .next s1
  exc : ∀ cl dd c' as1 s1 x, Ext as as1 → Exc X g L' rest as1 c' cl dd x s1 → (∀ s2, Exc X h₀ L rest as1 ⟨c'.H, loc⟩ cl dd x s2 → R (.error (.ref x)) s2) → E (.ref x) s1
  fresh : ∀ cl dd dx ox c' as1 s1 x, Ext as as1 → St X g L' ((x, ox) :: rest) as1 c' s1 → as1[dd]? = some dx → Fresh cl dx ox → (∀ s2, Exc X h₀ L rest as1 ⟨c'.H, loc⟩ cl dd x s2 → R (.error (.ref x)) s2) → E (.ref x) s1

theorem enter_ok (KO : Ok X) {a : Addr} {fn : Fn} {args : List V} {us : List Value} {loc : List (Str × V)} {R : Result → Shared → Prop} (ha : X.t.fn a = some fn) (hz : zipArgs fn.params.args args = some loc) (J : Sit X (d + 1) A sc env h₀ L) (S : St X h₀ L rest as c s) (fa : F2 (VR X as) args us)
    (hb : ∀ {A' : Around} {env' : Env} {g : Heap} {L' : Addr} {s' : Shared} {Q' : Flow → Shared → Prop} {E' : Value → Shared → Prop}, Sit X d A' fn.scope env' g L' → St X g L' rest as ⟨c.H, loc⟩ s' → Outs X h₀ L rest as c.loc R g L' Q' E' → wpAny (model X.prog X.w) A' (execs fn.body env') Q' E' s') :
    codeAny (model X.prog X.w) A (.call (.ref a) ⟨us, []⟩) R s := by
  obtain ⟨name, qual, doc, pm, an, cdv, od, osl, oc, hK, hcode, hkind, hco, hgen, hcell, hloc, hnd, hbind⟩ := KO.fn a fn ha
  obtain ⟨A₀, outer, B, hA⟩ := J.below
  obtain ⟨m, objs, F, N, nd, hH, hL⟩ := id S.ex
  obtain ⟨hlen, fz, _⟩ := zip_ok hz fa
  have hdep := J.depth
  have hun := J.units
  have hke : env.scope.kind = .function := by obtain ⟨nm, a', cd, rfl⟩ := J.envis; exact J.kind
  refine callX_plain (cl := []) (binds := (fn.params.args.map (·.arg)).zip us) B F N J.T.nolimit hA J.frame hke (S.keep _ _ (J.K _ _ hK)) rfl (codeRec_of (J.K.keeps S.keep) hcode) (by omega) (BindsTo.of_eq (hbind us hlen)) (fun y hy => ?_)
    (fun g L' h₁ FG F' N' B' st lt => ?_) hcell hco hgen hkind
  · obtain ⟨p, hp, e⟩ := List.mem_map.mp (show y.1 ∈ fn.params.args.map (·.arg) from by have := List.mem_map_of_mem (f := (·.1)) hy; rwa [zip_keys (by simpa using hlen)] at this)
    rw [← e]; exact hloc p hp
  · have J' : Sit X d (A.deeper (envX qual fn.scope L' a cdv [])) fn.scope (envX qual fn.scope L' a cdv []) g L' :=
      ⟨⟨A, env :: outer, B', Around.frames_deeper B'.stack⟩, ⟨qual, a, cdv, rfl⟩, hkind, fun b o e => st b o (J.stays b o e), by show A.depth + 1 + 2 * d + 2 < recursionLimit; omega, by show A.units + 3 + 20 * d + 100 < cLine; omega, J.handled, J.K.keeps st, J.T.keeps st⟩
    have S' : St X g L' rest as ⟨c.H, loc⟩ { s with heap := h₁, toks := s.toks + ((fn.params.args.map (·.arg)).zip us).length } :=
      ⟨⟨_, objs, F', N', nd, hH, lr_zip fz (by rw [zip_keys (by simpa using hlen)]; exact hnd)⟩, S.nds, S.sh⟩
    have hup : ∀ {c' : C} {as1 : List Addr} {s1 : Shared} {u : Value}, Ext as as1 → St X g L' rest as1 c' s1 → (∀ s2, St X h₀ L rest as1 ⟨c'.H, c.loc⟩ s2 → R (.ok (.ret u)) s2) → LeaveK h₀ L m g R u s1 := by
      intro c' as1 s1 u x1 S1 k
      obtain ⟨m1, objs1, F1, N1, nd1, hH1, hL1⟩ := S1.ex
      exact leaveK_ F1 N1 fun F2 N2 => k s1 ⟨⟨m, objs1, F2, N2, nd1, hH1, hL.ext x1⟩, S1.nds, S1.sh⟩
    refine hb J' S' ⟨fun v c' as1 s1 u x1 S1 V1 k => hup x1 S1 k, fun c' as1 s1 x1 S1 k => hup x1 S1 k, fun cl dd c' as1 s1 x x1 P k => ?_, fun cl dd dx ox c' as1 s1 x x1 S1 hd Z k => ?_⟩
    · exact exc_leave J' rfl P fun s2 P2 hn => k s2 (exc_up P2 hn FG (hL.ext x1))
    · refine fresh_leave J' S1 (fun a ha => ?_) hd Z fun s2 P2 hn => k s2 (exc_up P2 hn FG (hL.ext x1))
      exact S.nds a ha

structure FailFn (fn : Fn) : Prop where
  args : fn.params.args.map (·.arg) = [("text" : Str)]
  body : ∃ (n : Nat) (q1 q2 q3 q4 q5 : Pos), fn.body = [.Raise (some (.Call (.Name "JSFail" q1) [.Constant (.str "SyntaxError") n q2, .Name "text" q3] [] q4)) none q5]
  cls : fn.scope.names.lookup ("JSFail" : Str) = some .globalImplicit
  text : fn.scope.names.lookup ("text" : Str) = some .local

theorem glob_ok (sc : Scope) {t : Tops} {x : Str} {v : V} {c : C} (h : t.glob x = some v) (hk : sc.names.lookup x = some .globalImplicit) (hd : x ≠ "__debug__") : loadN t sc x c = some v := by
  unfold loadN
  rw [show eqS x "__debug__" = false from by rw [Bool.eq_false_iff]; exact fun e => hd (eqS_iff.mp e)]
  dsimp only
  rw [hk]; exact h
theorem local_ok (sc : Scope) {t : Tops} {x : Str} {v : V} {c : C} (h : lk x c.loc = some v) (hk : sc.names.lookup x = some .local) (hd : x ≠ "__debug__") : loadN t sc x c = some v := by
  unfold loadN
  rw [show eqS x "__debug__" = false from by rw [Bool.eq_false_iff]; exact fun e => hd (eqS_iff.mp e)]
  dsimp only
  rw [hk]; exact h

theorem fail_ok (KO : Ok X) {fnI fn : Fn} (Z : ExcCls X 188 185 fnI "kind" "text") (hfn : X.t.fn 233 = some fn) (FS : FailFn fn) (hg : X.t.glob "JSFail" = some (.top 188)) : FailOk X := by
  intro h₀ L rest as r c s d sc A env args us R h J S fa hE
  unfold failArm at h
  split at h
  · rename_i x
    cases h
    have hz : zipArgs fn.params.args [.str x] = some [(("text" : Str), V.str x)] := by
      have := FS.args
      cases e : fn.params.args with
      | nil => rw [e] at this; cases this
      | cons p ps =>
        rw [e, List.map_cons] at this
        injection this with e1 e2
        rw [List.map_eq_nil_iff] at e2
        subst e2
        show some [(p.arg, V.str x)] = _
        rw [e1]
    refine enter_ok KO hfn hz J S fa fun {A' env' g L' s' Q' E'} J' S' O => ?_
    obtain ⟨n, q1, q2, q3, q4, q5, hbody⟩ := FS.body
    rw [hbody]
    refine wpAny_execs_cons ?_
    rw [arm_exec_Raise]
    obtain ⟨nm, q, ns, bs, sn, sub, ab, col, ddc, k0, k1, k2, k3, k5, hC⟩ := Z.obj
    refine wpAny_bind (wpAny_standAt (raise_own (C := 188) (nm := nm) (q := q) (ns := ns) (bs := bs) (sn := sn) (sub := sub) (ab := ab) (col := col) (dd := ddc) (k0 := k0) (k1 := k1) (k2 := k2) (k3 := k3) (k5 := k5) ?_))
    refine wpAny_bind ?_
    refine wpAny_Call_NameR (load_ok KO J' S' (glob_ok _ hg FS.cls (by decide)) fun u hu => ?_)
    cases hu
    have e1 : backTo q4 (starEach [.Constant (.str "SyntaxError") n q2, .Name "text" q3] env') = [(false, eval (.Constant (.str "SyntaxError") n q2) env'), (false, eval (.Name "text" q3) env')] := rfl
    refine call_es (P := fun h => X.K.In h) (first := []) rfl (keeps_K Z.keep) ?_
    rw [e1]
    refine spliced_cons (wpAny_Constant_str (spliced_cons (load_ok KO J' (S'.toks _) (local_ok _ (v := .str x) rfl FS.text (by decide)) fun u hu => spliced_nil ⟨J'.K.keeps S'.keep, call_run ?_⟩)))
    refine made_ok KO Z J' ⟨rfl, rfl⟩ (S'.toks _) (v1 := .str "SyntaxError") ⟨_, rfl⟩ hu fun s1 y t dx S1 => ?_
    obtain ⟨m1, objs1, F1, N1, _⟩ := id S1.ex
    refine wpAny_bind (wpAny_standAt (wpAny_pure ⟨y, t, dx, rfl, J'.K.keeps S1.keep _ _ hC, N1.get (List.mem_append.mpr (.inr (.head _))), wpAny_raiseNew_none J'.handled ?_⟩))
    refine O.fresh 188 c.H.length dx _ _ _ _ y (Ext.push _ _) S1 (by rw [← as_len S]; simp) ⟨rfl, rfl, _, rfl, rfl, fun _ => rfl⟩ fun s2 P => ?_
    exact hE _ _ _ rfl _ s2 y (Ext.push _ _) P
  · cases h
end
end Mine

end
section
open PySem PySem.W PySem.Calls PyProof.Rows PySem.Spec PySem.Builtin
namespace Mine
/-- the ground with the slots of a later heap -/
noncomputable def reslot (h₀ h : Heap) : Heap := ⟨h₀.objs.mapIdx fun i o => match h.get? i with | some o' => { o with slots := o'.slots } | none => o, h₀.life⟩
theorem reslot_get (h₀ h : Heap) (b : Addr) : (reslot h₀ h).get? b = (h₀.get? b).map fun o => match h.get? b with | some o' => { o with slots := o'.slots } | none => o := by
  have key : ∀ (x : Option Obj) (f : Obj → Obj), (∀ o, (f o).data = o.data) → (match x.map f with | some ⟨_, _, .freed, _⟩ => none | o => o) = (match x with | some ⟨_, _, .freed, _⟩ => none | o => o).map f := by
    intro x f hf
    cases x with
    | none => rfl
    | some o =>
      have := hf o
      obtain ⟨c1, c2, c3, c4⟩ := o
      generalize hq : f ⟨c1, c2, c3, c4⟩ = y at this
      obtain ⟨e1, e2, e3, e4⟩ := y
      dsimp only at this
      subst this
      rw [Option.map_some, hq]
      cases e3 <;> first | rfl | (show some _ = Option.map f (some _); rw [Option.map_some, hq])
  have e : (reslot h₀ h).objs[b]? = (h₀.objs[b]?).map fun o => match h.get? b with | some o' => { o with slots := o'.slots } | none => o := by
    unfold reslot; rw [Array.getElem?_mapIdx]
  show (match (reslot h₀ h).objs[b]? with | some ⟨_, _, .freed, _⟩ => none | o => o) = _
  rw [e]
  exact key _ _ fun o => by cases h.get? b <;> rfl
theorem reslot_none {h₀ h : Heap} {b : Addr} (e : h₀.get? b = none) : (reslot h₀ h).get? b = none := by rw [reslot_get, e]; rfl
theorem reslot_some {h₀ h : Heap} {b : Addr} {o : Obj} (u : Upto h₀ h) (e : h₀.get? b = some o) : (reslot h₀ h).get? b = h.get? b := by
  obtain ⟨sl, q⟩ := u b o e
  rw [reslot_get, e, q]; rfl
theorem reslot_up {h₀ h : Heap} (u : Upto h₀ h) : Upto h₀ (reslot h₀ h) := fun b o e => by
  obtain ⟨sl, q⟩ := u b o e
  exact ⟨sl, (reslot_some u e).trans q⟩
theorem reslot_size (h₀ h : Heap) : (reslot h₀ h).objs.size = h₀.objs.size := by unfold reslot; simp

section
variable {X : Cx} {h₀ g : Heap} {L : Addr} {rest : List (Addr × Obj)} {as as' : List Addr} {r : Rs} {c : C} {s : Shared} {rec : Rec} {d : Nat} {sc : Scope} {A : Around} {env : Env} {E : Value → Shared → Prop} {cls x : Addr} {dd : Nat}

structure Flown (cls dx T : Addr) (L : Addr) (ox oT : Obj) : Prop where
  kl : ox.cls = .ref cls
  dict : ox.dict = some dx
  data : ∃ vs, ox.data = .fields vs ∧ vs[1]? = some (.ref T) ∧ (cls = 188 → vs[2]? = some .none)
  tail : ∃ ts fl, oT.data = .fields ts ∧ ts[3]? = some fl ∧ (fl = .none ∨ fl = rawInt L)

theorem Exc.back (P : Exc X g L rest as c cls dd x s) (u : Upto h₀ g) (hl : h₀.objs.size ≤ L) : Exc X h₀ L rest as c cls dd x s := by
  obtain ⟨m, objs, dx, T, fl, e1, e2, e3, e4, e5, e6, e7, e8, e9, e10, e11, e12, e13, e14⟩ := P.ex
  have fr : ∀ {b : Addr}, g.get? b = none → h₀.get? b = none := fun {b} e => by
    cases q : h₀.get? b with
    | none => rfl
    | some o => obtain ⟨sl, z⟩ := u b o q; rw [z] at e; cases e
  refine ⟨⟨m, objs, dx, T, fl, e1, hl, fun b o e => ?_, e4, fun p hp => ⟨(e5 p hp).1, (e5 p hp).2.1, fr (e5 p hp).2.2⟩, e6, e7, e8, e9, e10, e11, e12, fr e13, fr e14⟩, P.nds, P.sh⟩
  obtain ⟨sl, z⟩ := u b o e
  obtain ⟨sl', z'⟩ := e3 b _ z
  exact ⟨sl', z'⟩

theorem exc_caught (KO : Ok X) (J : Sit X d A sc env h₀ L) (P : Exc X h₀ L rest as c cls dd x s) : ∃ g ox T oT dx, Upto h₀ g ∧ h₀.objs.size ≤ L ∧ Sit X d A sc env g L ∧ St X g L ((x, ox) :: (T, oT) :: rest) as c s ∧ as[dd]? = some dx ∧ Flown cls dx T L ox oT := by
  obtain ⟨outer, hA, hfb, hout⟩ := exc_frames J J.frame P
  obtain ⟨m, objs, dx, T, fl, e1, e2, e3, e4, e5, e6, e7, e8, e9, e10, e11, e12, e13, e14⟩ := P.ex
  obtain ⟨ox, vs, oT, ts, he, hc, hdx, hd, h1, hbx, hbT, hTx, hT, hdT, h3, h2⟩ := e10
  obtain ⟨oL, hoL, hnf⟩ := ns_obj e4
  have xL : x ≠ L := fun q => by rw [q, hoL] at he; cases he; exact hnf _ hd
  have TL : T ≠ L := fun q => by rw [q, hoL] at hT; cases hT; exact hnf _ hdT
  have kb : ∀ b o, X.base.get? b = some o → (reslot h₀ s.heap).get? b = some o := fun b o e => (reslot_some e3 (J.stays b o e)).trans (e1 b o e)
  refine ⟨reslot h₀ s.heap, ox, T, oT, dx, reslot_up e3, e2, ?_, ?_, e9, ⟨hc, hdx, ⟨vs, hd, h1, h2⟩, ts, fl, hdT, h3, e11⟩⟩
  · obtain ⟨A₀, outer', B, hA'⟩ := J.below
    exact ⟨⟨A₀, outer', ⟨B.stack, kb, B.frames.of_keeps fun b o ho hd => let ⟨sl, q⟩ := reslot_up e3 b o ho; ⟨_, q, rfl⟩⟩, hA'⟩, J.envis, J.kind, kb, J.depth, J.units, J.handled, KO.kin.keeps kb, KO.tin.keeps kb⟩
  · refine ⟨⟨m, objs, ⟨e4, fun b o e => ?_, by rw [reslot_size]; exact e2⟩, fun p hp => ?_, ?_, e7, e8⟩, fun a ha => let ⟨p, q, r1, r2⟩ := P.nds a ha; ⟨p, q, .tail _ (.tail _ r1), .tail _ (.tail _ r2)⟩, P.sh⟩
    · cases q : h₀.get? b with
      | none => rw [reslot_none q] at e; cases e
      | some o' => rw [reslot_some e3 q] at e; exact e
    · rcases List.mem_append.mp hp with h | h
      · obtain ⟨z1, z2, z3⟩ := e5 p (List.mem_append.mpr (.inl h)); exact ⟨z1, z2, reslot_none z3⟩
      · rcases List.mem_cons.mp h with rfl | h
        · exact ⟨he, xL, reslot_none e13⟩
        · rcases List.mem_cons.mp h with rfl | h
          · exact ⟨hT, TL, reslot_none e14⟩
          · obtain ⟨z1, z2, z3⟩ := e5 p (List.mem_append.mpr (.inr h)); exact ⟨z1, z2, reslot_none z3⟩
    · have nx : ∀ b ∈ (objs ++ rest).map (·.1), b ≠ x ∧ b ≠ T := fun b hb => by
        obtain ⟨p, hp, rfl⟩ := List.mem_map.mp hb
        exact e12 p hp
      rw [List.map_append] at e6 nx ⊢
      rw [List.map_cons, List.map_cons]
      refine (List.perm_middle).nodup_iff.mpr (List.nodup_cons.mpr ⟨fun hm => ?_, (List.perm_middle).nodup_iff.mpr (List.nodup_cons.mpr ⟨fun hm => (nx _ hm).2 rfl, e6⟩)⟩)
      rcases List.mem_append.mp hm with h | h
      · exact (nx _ (List.mem_append.mpr (.inl h))).1 rfl
      · rcases List.mem_cons.mp h with h | h
        · exact hTx h.symm
        · exact (nx _ (List.mem_append.mpr (.inr h))).1 rfl

theorem exc_of_st {ox oT : Obj} {T dx : Addr} (J : Sit X d A sc env h₀ L) (S : St X h₀ L ((x, ox) :: (T, oT) :: rest) as c s) (nds : NdOk X rest) (hdd : as[dd]? = some dx) (Z : Flown cls dx T L ox oT) : Exc X h₀ L rest as c cls dd x s := by
  obtain ⟨m, objs, F, N, nd, hH, hL⟩ := S.ex
  obtain ⟨vs, hd, h1, h2⟩ := Z.data
  obtain ⟨ts, fl, hdT, h3, hfl⟩ := Z.tail
  obtain ⟨x1, x2, x3⟩ := N (x, ox) (List.mem_append.mpr (.inr (.head _)))
  obtain ⟨t1, t2, t3⟩ := N (T, oT) (List.mem_append.mpr (.inr (.tail _ (.head _))))
  rw [List.map_append, List.map_cons, List.map_cons] at nd
  have n1 := List.nodup_cons.mp ((List.perm_middle).nodup_iff.mp nd)
  have n2 := List.nodup_cons.mp ((List.perm_middle).nodup_iff.mp n1.2)
  have fb : ∀ {b : Addr}, h₀.get? b = none → X.base.get? b = none := fun {b} e => by
    cases q : X.base.get? b with
    | none => rfl
    | some o => rw [J.stays _ _ q] at e; cases e
  have hTx : T ≠ x := fun e => n1.1 (List.mem_append.mpr (.inr (by rw [e]; exact .head _)))
  have inn : ∀ p ∈ objs ++ rest, p ∈ objs ++ (x, ox) :: (T, oT) :: rest := fun p hp => by
    rcases List.mem_append.mp hp with h | h
    · exact List.mem_append.mpr (.inl h)
    · exact List.mem_append.mpr (.inr (.tail _ (.tail _ h)))
  refine ⟨⟨m, objs, dx, T, fl, fun b o e => F.keep b o (J.stays b o e), F.above, Upto.of_keeps F.keep, F.ns, fun p hp => N p (inn p hp), by rw [List.map_append]; exact n2.2, hH, hL, hdd,
    ⟨ox, vs, oT, ts, x1, Z.kl, Z.dict, hd, h1, fb x3, fb t3, hTx, t1, hdT, h3, h2⟩, hfl, fun p hp => ⟨fun e => ?_, fun e => ?_⟩, x3, t3⟩, nds, S.sh⟩
  · have hm := List.mem_map_of_mem (f := (·.1)) hp
    rw [e, List.map_append] at hm
    refine n1.1 ?_
    rcases List.mem_append.mp hm with h | h
    · exact List.mem_append.mpr (.inl h)
    · exact List.mem_append.mpr (.inr (.tail _ h))
  · have hm := List.mem_map_of_mem (f := (·.1)) hp
    rw [e, List.map_append] at hm
    exact n2.1 hm
end
end Mine

end
section
open PySem PySem.W PySem.Calls PyProof.Rows PySem.Spec PySem.Builtin
namespace Mine
section
variable {X : Cx} {h₀ g : Heap} {L : Addr} {rest : List (Addr × Obj)} {as as' : List Addr} {r : Rs} {c : C} {s : Shared} {rec : Rec} {d : Nat} {sc : Scope} {A : Around} {env : Env} {E : Value → Shared → Prop} {cls x : Addr} {dd : Nat}

theorem exc_val {A' : Around} {C f : Addr} {fn : Fn} {a1 a2 a : Str} {ox oT : Obj} {T dx : Addr} {es : List (Str × V)} {v : V} {b : Bool} {Q : Value → Shared → Prop} (Z : ExcCls X C f fn a1 a2) (ha : a = a1 ∨ a = a2) (J : Sit X d A sc env h₀ L) (S : St X h₀ L ((x, ox) :: (T, oT) :: rest) as c s)
    (W : Flown C dx T L ox oT) (hd : as[dd]? = some dx) (he : c.H[dd]? = some (.dict es)) (hl : lk a es = some v) (hn : noBi v = true) (h : ∀ u, VR X as v u → Q u { s with toks := s.toks + 1 }) : wpAny (model X.prog X.w) A' (getAttr (.ref x) a b) Q E s := by
  obtain ⟨m, objs, F, N, nd, hH, hL⟩ := id S.ex
  obtain ⟨od, hod, ds, n, rfl, f⟩ := S.here he hd
  obtain ⟨u, hu, hv⟩ := (getL_lk f (k := a)).1 v hl
  have hx := N.get (List.mem_append.mpr (.inr (.head _)) : (x, ox) ∈ objs ++ (x, ox) :: (T, oT) :: rest)
  obtain ⟨vs, hdat, h1, h2⟩ := W.data
  have I : InstAt s.heap x ox C (some (dictOf ds n)) := by
    refine ⟨hx, W.kl, ?_, ?_⟩
    · unfold notCls; rw [hdat]
    · rw [W.dict]; exact hod
  have hlook : findIn X.K (.ref C) a = some none := by rcases ha with rfl | rfl; exact Z.look.1; exact Z.look.2
  obtain ⟨cd, hc, hm, hdc⟩ := Z.over
  have hsub : mroIn X.K C (.type "BaseException") = some true := by unfold mroIn; rw [hc, Option.bind_some, hm]; simp
  exact exc_get (J.K.keeps S.keep) I Z.get.1 Z.get.2 hsub (findObj_own (by unfold hasDictIn; rw [hc]; exact hdc) hlook rfl hu) (handed_of hv hn) (h u hv)

theorem caught_as {C f e : Addr} {fn : Fn} {a1 a2 xn n : Str} {np pos : Pos} {b₀ : PySem.Stmt} {suite : List PySem.Stmt} {hrest : List ExceptHandler} {Q : Flow → Shared → Prop} (KO : Ok X) (Z : ExcCls X C f fn a1 a2) (hg : X.t.glob xn = some (.top C)) (hxn : sc.names.lookup xn = some .globalImplicit)
    (hxd : xn ≠ "__debug__") (hn : sc.names.lookup n = some .local) (J : Sit X d A sc env h₀ L) (P : Exc X h₀ L rest as c C dd e s)
    (k : ∀ g ox T oT dx s', Upto h₀ g → h₀.objs.size ≤ L → Sit X d A sc env g L → (∀ loc', (∀ y v, lk y loc' = some v → lk y c.loc = some v ∧ y ≠ n) → St X g L ((e, ox) :: (T, oT) :: rest) as ⟨c.H, loc'⟩ s') → as[dd]? = some dx → Flown C dx T L ox oT →
      (∃ m, Fr g L s'.heap m ∧ m n = some (.ref e)) →
      wpAny (model X.prog X.w) (A.mark (some (.ref e))) (execs (b₀ :: suite) env) (fun f s₄ => wpAny (model X.prog X.w) A (do bindName env n .none; unbindBehindTheSuite env n pos) (fun _ s₅ => Q f s₅) E s₄)
        (AsSuiteRaised (model X.prog X.w) (A.mark (some (.ref e))) env n pos (notedBy (model X.prog X.w) (A.mark (some (.ref e))) env (cameBackBy (model X.prog X.w) A env E))) s') :
    wpAny (model X.prog X.w) A (noteFrame (.ref e) env) (fun _ s₂ => wpAny (model X.prog X.w) A (setFlight (.ref e) none) (fun _ s₃ => wpAny (model X.prog X.w) A (handleBy (.ref e) env (.ExceptHandler (some (.Name xn np)) (some n) (b₀ :: suite) pos :: hrest)) Q E s₃) E s₂) E s := by
  refine exc_note J J.frame P fun s1 P1 => exc_mark J J.frame P1 (.inl rfl) fun s2 P2 => ?_
  obtain ⟨hh, gg, dr, tk, os⟩ := s2
  obtain ⟨g, ox, T, oT, dx, u, hl, J', S', hd, W⟩ := exc_caught KO J P2
  obtain ⟨nm, q, ns, bs, sn, sub, ab, col, ddc, k0, k1, k2, k3, k5, hC⟩ := Z.obj
  obtain ⟨m0, objs0, F0, N0, _⟩ := id S'.ex
  refine wpAny_handleBy_cons (codeAny_handlers_test (load_ok KO J' S' (glob_ok _ hg hxn hxd) fun v hv => ?_)) (by intro q; cases q)
  cases hv
  refine wpAny_excMatches_sub_self (J'.K.keeps F0.keep _ _ hC) (N0.get (List.mem_append.mpr (.inr (.head _)) : (e, ox) ∈ objs0 ++ (e, ox) :: (T, oT) :: rest)) W.kl (by simp) (codeAny_handlers_suite_as ?_)
  refine exc_mark0 J P2 fun s3 P3 _ => ?_
  obtain ⟨g', ox', T', oT', dx', u', hl', J3, S3, hd', W'⟩ := exc_caught KO J P3
  obtain ⟨m, objs, F, N, nd, hH, hL⟩ := id S3.ex
  obtain ⟨nm', a', cd', rfl⟩ := J.envis
  refine stN F N (fun h' F' N' => ?_) J.kind hn
  refine k g' ox' T' oT' dx' _ u' hl' J3 (fun loc' hloc => ⟨⟨_, objs, F', N', nd, hH, fun y v hy => ?_⟩, S3.nds, S3.sh⟩) hd' W' ⟨_, F', if_pos rfl⟩
  obtain ⟨z1, z2⟩ := hloc y v hy
  obtain ⟨w, hw, hv⟩ := hL y v z1
  exact ⟨w, (if_neg z2).trans hw, hv⟩
end
end Mine

end
section
open PySem PySem.W PySem.Calls PyProof.Rows PySem.Spec PySem.Builtin
namespace Mine
section
variable {X : Cx} {h₀ g : Heap} {L : Addr} {rest : List (Addr × Obj)} {as as' : List Addr} {r : Rs} {c : C} {s : Shared} {rec : Rec} {d : Nat} {sc : Scope} {A : Around} {env : Env} {E : Value → Shared → Prop} {cls x : Addr} {dd : Nat}

theorem exc_noteA {A' : Around} (J : Sit X d A sc env h₀ L) (hA : A'.frames = A.frames) (P : Exc X h₀ L rest as c cls dd x s) {Q : Unit → Shared → Prop} {M : Model} (h : ∀ s', Exc X h₀ L rest as c cls dd x s' → Q () s') : wpAny M A' (noteFrame (.ref x) env) Q E s := by
  obtain ⟨outer, hA2, hfb, hout⟩ := exc_frames J J.frame P
  obtain ⟨m, objs, dx, T, fl, e1, e2, e3, e4, e5, e6, e7, e8, e9, e10, e11, e12, e13, e14⟩ := P.ex
  exact thrown_note (hA.trans hA2) hfb J.frame e1 e10 e11 fun h' T' hT' hS ht' => h _ (exc_step hfb hout J.frame e1 e2 e3 e4 e5 e6 e7 e8 e9 e10 e12 e13 e14 P.nds P.sh hS hT' ht' (.inr rfl))
theorem exc_markA {A' : Around} (J : Sit X d A sc env h₀ L) (P : Exc X h₀ L rest as c cls dd x s) {Q : Unit → Shared → Prop} {M : Model} {o : Option Addr} (ho : o = none ∨ o = some L) (h : ∀ s', Exc X h₀ L rest as c cls dd x s' → Q () s') : wpAny M A' (setFlight (.ref x) o) Q E s := by
  obtain ⟨outer, hA, hfb, hout⟩ := exc_frames J J.frame P
  obtain ⟨m, objs, dx, T, fl, e1, e2, e3, e4, e5, e6, e7, e8, e9, e10, e11, e12, e13, e14⟩ := P.ex
  refine thrown_mark e10 fun h' hS ht' => h _ (exc_step hfb hout J.frame e1 e2 e3 e4 e5 e6 e7 e8 e9 e10 e12 e13 e14 P.nds P.sh (fun b o hb n1 n2 => ?_) (.inl rfl) ht' (by rcases ho with rfl | rfl; exact .inl rfl; exact .inr rfl))
  obtain ⟨sl, q1, q2⟩ := hS b o hb n1 n2
  exact ⟨sl, q1, fun _ => q2 (by simp)⟩
theorem exc_pass {A' : Around} {α : Type} {Q : α → Shared → Prop} {w : String} {M : Model} (J : Sit X d A sc env h₀ L) (P : Exc X h₀ L rest as c cls dd x s) (h : ∀ s', Exc X h₀ L rest as c cls dd x s' → E (.ref x) s') : wpAny M A' (PySem.passOn w (.ref x) env : Sem α) Q E s := by
  obtain ⟨m, objs, dx, T, fl, e1, e2, e3, e4, e5, e6, e7, e8, e9, e10, e11, e12, e13, e14⟩ := id P.ex
  obtain ⟨ox, vs, oT, ts, he, hc, hdx, hd, h1, _⟩ := id e10
  unfold PySem.passOn
  refine wpAny_bind (wpAny_field he hd h1 ?_)
  rw [if_neg (by simp), J.frame]
  exact wpAny_bind (exc_markA J P (.inr rfl) fun s' P' => wpAny_throw (h s' P'))

structure CheckFn (fn : Fn) : Prop where
  args : fn.params.args.map (·.arg) = [("node" : Str)]
  body : ∃ (tb : List PySem.Stmt) (n : Nat) (q1 q2 q3 q4 q5 q6 q7 q8 q9 q10 q11 q12 q13 q14 q15 : Pos), fn.body = [.Try tb [.ExceptHandler (some (.Name "JSFail" q1)) (some "e") [.If (.Compare (.Attribute (.Name "e" q2) "kind" q3) [.Eq] [.Constant (.str "SyntaxError") n q4] q5)
    [.Raise (some (.Call (.Name "SyntaxFail" q6) [.Attribute (.Name "e" q7) "text" q8, .Attribute (.Name "node" q9) "line" q10] [] q11)) none q12] [] q13] q14] [] [] q15]
  js : fn.scope.names.lookup ("JSFail" : Str) = some .globalImplicit
  sf : fn.scope.names.lookup ("SyntaxFail" : Str) = some .globalImplicit
  node : fn.scope.names.lookup ("node" : Str) = some .local
  e : fn.scope.names.lookup ("e" : Str) = some .local

noncomputable def exR (t2 dx2 : Addr) (y : Addr) : Obj := { excObj 208 t2 dx2 with data := .fields #[.ref t2, .none, .ref y, .none, .bool false, .none] }
theorem check_raise {f1 f2 : Fn} {y T dx : Addr} {ox oT : Obj} {es : List (Str × V)} {v' : V} {tx : Str} {ln : Int} {H : List O} {m : Str → Option Value} {q6 q7 q8 q9 q10 q11 q12 : Pos} {Q : Flow → Shared → Prop} {nm : Str} {a : Addr} {cd : Value} (KO : Ok X)
    (Z1 : ExcCls X 188 185 f1 "kind" "text") (Z2 : ExcCls X 208 205 f2 "text" "line") (hg2 : X.t.glob "SyntaxFail" = some (.top 208)) (sf : sc.names.lookup ("SyntaxFail" : Str) = some .globalImplicit) (hnode : sc.names.lookup ("node" : Str) = some .local) (he : sc.names.lookup ("e" : Str) = some .local)
    (Jg : Sit X d A sc (envOf nm sc L a cd) h₀ L) (S2 : St X h₀ L ((y, ox) :: (T, oT) :: rest) as ⟨H, [("node", v')]⟩ s) (Fm : Fr h₀ L s.heap m) (hm : m "e" = some (.ref y)) (W : Flown 188 dx T L ox oT) (hd : as[dd]? = some dx) (hes : H[dd]? = some (.dict es)) (htx : lk "text" es = some (.str tx))
    (hln : getA X.t ⟨H, [("node", v')]⟩ v' "line" = some (.int ln))
    (k : ∀ y2 t2 dx2 s6, St X h₀ L ((y2, exR t2 dx2 y) :: (y, ox) :: (T, oT) :: rest) (as ++ [dx2]) ⟨H ++ [.dict [("text", .str tx), ("line", .int ln)]], [("node", v')]⟩ s6 → E (.ref y2) s6) :
    wpAny (model X.prog X.w) (A.mark (some (.ref y))) (exec (.Raise (some (.Call (.Name "SyntaxFail" q6) [.Attribute (.Name "e" q7) "text" q8, .Attribute (.Name "node" q9) "line" q10] [] q11)) none q12) (envOf nm sc L a cd)) Q E s := by
  obtain ⟨nm, q, ns, bs, sn, sub, ab, col, ddc, k0, k1, k2, k3, k5, hC⟩ := Z2.obj
  obtain ⟨vs, hvs, g1, g2⟩ := id W.data
  have made : ∀ s5 y2 t2 dx2, St X h₀ L ((y2, excObj 208 t2 dx2) :: (y, ox) :: (T, oT) :: rest) (as ++ [dx2]) ⟨H ++ [.dict [("text", .str tx), ("line", .int ln)]], [("node", v')]⟩ s5 →
      s5.heap.get? 208 = some (excClassObj nm q 208 ns bs excLine true sn sub ab col ddc k0 k1 k2 k3 k5 "Exception.__new__") ∧ s5.heap.get? y2 = some (excObj 208 t2 dx2) ∧ wpAny (model X.prog X.w) (A.mark (some (.ref y))) (raiseNew (.ref y2) : Sem Flow) Q E s5 := fun s5 y2 t2 dx2 S5 => by
    obtain ⟨m5, objs5, F5, N5, nd5, hH5, hL5⟩ := id S5.ex
    have my : (y2, excObj 208 t2 dx2) ∈ objs5 ++ (y2, excObj 208 t2 dx2) :: (y, ox) :: (T, oT) :: rest := List.mem_append.mpr (.inr (.head _))
    have me : (y, ox) ∈ objs5 ++ (y2, excObj 208 t2 dx2) :: (y, ox) :: (T, oT) :: rest := List.mem_append.mpr (.inr (.tail _ (.head _)))
    have nd6 := nd5
    rw [List.map_append, List.map_cons] at nd6
    have nd7 := (List.nodup_cons.mp ((List.perm_middle).nodup_iff.mp nd6)).1
    have pre : ∀ p ∈ objs5, p.1 ≠ y2 := fun p hp e => nd7 (List.mem_append.mpr (.inl (by have z := List.mem_map_of_mem (f := (·.1)) hp; rw [e] at z; exact z)))
    have post : ∀ p ∈ (y, ox) :: (T, oT) :: rest, p.1 ≠ y2 := fun p hp e => nd7 (List.mem_append.mpr (.inr (by have z := List.mem_map_of_mem (f := (·.1)) hp; rw [e] at z; exact z)))
    refine ⟨Jg.K.keeps S5.keep _ _ hC, N5.get my, ?_⟩
    refine raise_in (b := y) (ob := ox) (vs := vs) rfl (post _ (.head _)) (N5.get me) hvs (g2 rfl) (N5.get my) rfl (by simp) ?_
    obtain ⟨F6, N6⟩ := news_upd (f := Obj.mapFields (·.setIfInBounds 2 (.ref y))) F5 N5 pre post rfl rfl
    exact k y2 t2 dx2 _ ⟨⟨m5, objs5, F6, N6, by simpa using nd5, hH5, hL5⟩, fun a ha => let ⟨p, q, r1, r2⟩ := S2.nds a ha; ⟨p, q, .tail _ r1, .tail _ r2⟩, S5.sh⟩
  rw [arm_exec_Raise]
  refine wpAny_bind (wpAny_standAt (raise_own (C := 208) (nm := nm) (q := q) (ns := ns) (bs := bs) (sn := sn) (sub := sub) (ab := ab) (col := col) (dd := ddc) (k0 := k0) (k1 := k1) (k2 := k2) (k3 := k3) (k5 := k5) ?_))
  refine wpAny_bind ?_
  refine wpAny_Call_NameR (load_ok KO Jg (S2.toks _) (glob_ok _ hg2 sf (by decide)) fun u0 hu0 => ?_)
  cases hu0
  have e1 : ∀ env : Env, backTo q11 (starEach [.Attribute (.Name "e" q7) "text" q8, .Attribute (.Name "node" q9) "line" q10] env) = [(false, eval (.Attribute (.Name "e" q7) "text" q8) env), (false, eval (.Attribute (.Name "node" q9) "line" q10) env)] := fun _ => rfl
  refine call_es (P := fun h => X.K.In h) (first := []) rfl (keeps_K Z2.keep) ?_
  rw [e1]
  refine spliced_cons (Attribute_name (nameX_L (cl := []) Fm hm (exc_val Z1 (.inr rfl) Jg (S2.toks _) W hd hes htx rfl fun u2 hu2 => spliced_cons (Attribute_name (load_ok KO Jg (S2.toks _) (local_ok _ (v := v') ?_ hnode (by decide)) fun u3 hu3 => getA_ok KO Jg (S2.toks _) hln hu3 fun u4 hu4 =>
    spliced_nil ⟨Jg.K.keeps S2.keep, call_run ?_⟩))) Jg.kind he (by decide)))
  · show lk "node" [(("node" : Str), v')] = some v'
    unfold lk
    rw [eqS_iff.mpr rfl]
  · refine made_ok KO Z2 Jg ⟨rfl, rfl⟩ (S2.toks _) hu2 hu4 fun s5 y2 t2 dx2 S5 => ?_
    exact wpAny_bind (wpAny_standAt (wpAny_pure ⟨y2, t2, dx2, rfl, made s5 y2 t2 dx2 S5⟩))

theorem check_flies {cl : Addr} {f : Fn} {a1 a2 : Str} {H : List O} {v' : V} {y y2 T : Addr} {ox oT o2 : Obj} {dx2 : Addr} {q14 : Pos} {nm : Str} {a : Addr} {cd : Value} (KO : Ok X) (hn : sc.names.lookup ("e" : Str) = some .local) (hcl : cl ≠ 188) (J : Sit X d A sc (envOf nm sc L a cd) h₀ L)
    (S6 : St X h₀ L ((y2, o2) :: (y, ox) :: (T, oT) :: rest) as ⟨H, [("node", v')]⟩ s) (nds : NdOk X rest) (hd : as[dd]? = some dx2) (hz : Fresh cl dx2 o2) (k : ∀ s', Exc X h₀ L rest as ⟨H, [("node", v')]⟩ cl dd y2 s' → E (.ref y2) s') :
    AsSuiteRaised (model X.prog X.w) (A.mark (some (.ref y))) (envOf nm sc L a cd) "e" q14 (notedBy (model X.prog X.w) (A.mark (some (.ref y))) (envOf nm sc L a cd) (cameBackBy (model X.prog X.w) A (envOf nm sc L a cd) E)) (.ref y2) s := by
  have nds2 : NdOk X ((T, oT) :: rest) := fun a ha => let ⟨p, q, r1, r2⟩ := nds a ha; ⟨p, q, .tail _ r1, .tail _ r2⟩
  have nds1 : NdOk X ((y, ox) :: (T, oT) :: rest) := fun a ha => let ⟨p, q, r1, r2⟩ := nds2 a ha; ⟨p, q, .tail _ r1, .tail _ r2⟩
  refine fresh_note (cls := cl) (dx := dx2) J rfl S6 nds1 hd hz fun s7 P7 => ?_
  obtain ⟨g3, ox3, T3, oT3, dx3, u3, hl3, J3, S8, hd3, W3⟩ := exc_caught KO J ((P7.drop nds2).drop nds)
  obtain ⟨m8, objs8, F8, N8, nd8, hH8, hL8⟩ := id S8.ex
  refine name_goes_keeps F8 N8 (fun h9 v9 F9 N9 => ?_) J.kind hn
  have S9 : St X g3 L ((y2, ox3) :: (T3, oT3) :: rest) as ⟨H, [("node", v')]⟩ { s7 with heap := h9, toks := s7.toks + 1 } := ⟨⟨_, objs8, F9, N9, nd8, hH8, fun z w hz => by
    obtain ⟨uz, hz1, hz2⟩ := hL8 z w hz
    refine ⟨uz, (if_neg fun e => ?_).trans hz1, hz2⟩
    subst e
    change lk "e" [(("node" : Str), v')] = some w at hz
    unfold lk at hz
    split at hz
    · rename_i hq; exact absurd (eqS_iff.mp hq) (show ("node" : Str) ≠ "e" by decide)
    · cases hz⟩, S8.nds, S8.sh⟩
  refine exc_pass J3 (exc_of_st J3 S9 nds hd3 W3) fun s10 P10 => ?_
  unfold notedBy
  refine exc_noteA (A' := A.mark (some (.ref y))) J3 rfl P10 fun s11 P11 => ?_
  exact exc_back J3 J3.frame P11 fun s12 P12 => k s12 (P12.back u3 hl3)

theorem check_hand {f1 f2 : Fn} {y T dx : Addr} {ox oT : Obj} {es : List (Str × V)} {v' : V} {tx : Str} {ln : Int} {n : Nat} {q2 q3 q4 q5 q6 q7 q8 q9 q10 q11 q12 q13 q14 : Pos} {Q : Flow → Shared → Prop} (KO : Ok X)
    (Z1 : ExcCls X 188 185 f1 "kind" "text") (Z2 : ExcCls X 208 205 f2 "text" "line") (sf : sc.names.lookup ("SyntaxFail" : Str) = some .globalImplicit) (hnode : sc.names.lookup ("node" : Str) = some .local) (he : sc.names.lookup ("e" : Str) = some .local) (hg2 : X.t.glob "SyntaxFail" = some (.top 208))
    (hv' : lk "node" c.loc = some v') (nds : NdOk X rest) (Jg : Sit X d A sc env h₀ L) (Sg : ∀ loc', (∀ y v, lk y loc' = some v → lk y c.loc = some v ∧ y ≠ "e") → St X h₀ L ((y, ox) :: (T, oT) :: rest) as ⟨c.H, loc'⟩ s) (hm : ∃ m, Fr h₀ L s.heap m ∧ m "e" = some (.ref y))
    (W : Flown 188 dx T L ox oT) (hd : as[dd]? = some dx) (hes : c.H[dd]? = some (.dict es)) (hk : lk "kind" es = some (.str "SyntaxError")) (htx : lk "text" es = some (.str tx)) (hln : getA X.t c v' "line" = some (.int ln))
    (k : ∀ y2 dx2 s', Exc X h₀ L rest (as ++ [dx2]) ⟨c.H ++ [.dict [("text", .str tx), ("line", .int ln)]], [("node", v')]⟩ 208 c.H.length y2 s' → E (.ref y2) s') :
    wpAny (model X.prog X.w) (A.mark (some (.ref y))) (execs [.If (.Compare (.Attribute (.Name "e" q2) "kind" q3) [.Eq] [.Constant (.str "SyntaxError") n q4] q5) [.Raise (some (.Call (.Name "SyntaxFail" q6) [.Attribute (.Name "e" q7) "text" q8, .Attribute (.Name "node" q9) "line" q10] [] q11)) none q12] [] q13] env)
      Q (AsSuiteRaised (model X.prog X.w) (A.mark (some (.ref y))) env "e" q14 (notedBy (model X.prog X.w) (A.mark (some (.ref y))) env (cameBackBy (model X.prog X.w) A env E))) s := by
  obtain ⟨m, Fm, hm⟩ := hm
  have S2 := Sg [("node", v')] fun y w hy => by
    unfold lk at hy
    split at hy
    · rename_i hq
      cases hy
      cases eqS_iff.mp hq
      exact ⟨hv', show ("node" : Str) ≠ "e" by decide⟩
    · cases hy
  obtain ⟨nm', a', cd', henv⟩ := id Jg.envis
  subst henv
  have hd2 : ∀ dx2, (as ++ [dx2])[c.H.length]? = some dx2 := fun dx2 => by
    have this := as_len S2
    change as.length = c.H.length at this
    rw [← this]; simp
  refine wpAny_execs_cons (wpAny_If (wpAny_isTrue_Compare1 (Attribute_name (nameX_L (cl := []) Fm hm (exc_val Z1 (.inl rfl) Jg S2 W hd hes hk rfl fun u0 hu0 => ?_) Jg.kind he (by decide))) rfl))
  obtain ⟨tk, rfl⟩ := hu0
  refine wpAny_Constant_str (PyProof.Rows.eq_str ?_)
  rw [beq_self_eq_true]
  refine wpAny_truthy_bool ?_
  rw [if_pos rfl]
  refine wpAny_execs_cons (check_raise KO Z1 Z2 hg2 sf hnode he Jg (S2.toks _) Fm hm W hd hes htx hln fun y2 t2 dx2 s6 S6 => ?_)
  exact check_flies (a1 := "text") (a2 := "line") (f := f2) KO he (by decide) Jg S6 nds (hd2 dx2) ⟨rfl, rfl, _, rfl, rfl, fun e => absurd e (by decide)⟩ fun s12 P12 => k y2 dx2 s12 P12
theorem check_is {args : List V} {fn : Fn} {tb : List PySem.Stmt} {hs : List ExceptHandler} {os fs : List PySem.Stmt} {p : Pos} (hfn : X.t.fn 387 = some fn) (hbody : fn.body = [.Try tb hs os fs p]) (h : checkArm X.t rec d args c = some r) :
    ∃ v, args = [v] ∧ ((∃ c', rec d fn.scope (.sts tb) ⟨c.H, [("node", v)]⟩ = some (.ok .n c') ∧ val .none ⟨c'.H, c.loc⟩ = some r) ∨
      ∃ dd c' es tx v' ln, rec d fn.scope (.sts tb) ⟨c.H, [("node", v)]⟩ = some (.exc 188 dd c') ∧ c'.H[dd]? = some (.dict es) ∧ lk "kind" es = some (.str "SyntaxError") ∧ lk "text" es = some (.str tx) ∧ lk "node" c'.loc = some v' ∧ getA X.t c' v' "line" = some (.int ln) ∧
        r = .exc 208 c'.H.length ⟨c'.H ++ [.dict [("text", .str tx), ("line", .int ln)]], c.loc⟩) := by
  unfold checkArm at h
  split at h
  · rename_i v
    refine ⟨v, rfl, ?_⟩
    rw [hfn] at h
    dsimp only at h
    rw [hbody] at h
    dsimp only at h
    split at h
    · rename_i c' hb
      exact .inl ⟨c', hb, h⟩
    · rename_i cl dd c' hb
      refine .inr ⟨dd, c', ?_⟩
      split at h
      · rename_i hcl
        cases Nat.eq_of_beq_eq_true hcl
        split at h
        · rename_i es hes
          split at h
          · rename_i k hk
            split at h
            · rename_i hks
              cases eqS_iff.mp hks
              split at h
              · rename_i tx htx
                split at h
                · rename_i v' hv'
                  split at h
                  · rename_i ln hln
                    cases h
                    exact ⟨es, tx, v', ln, hb, hes, hk, htx, hv', hln, rfl⟩
                  · cases h
                · cases h
              · cases h
            · cases h
          · cases h
        · cases h
      · cases h
    · cases h
  · cases h
theorem check_ok (KO : Ok X) {f1 f2 fn : Fn} (Z1 : ExcCls X 188 185 f1 "kind" "text") (Z2 : ExcCls X 208 205 f2 "text" "line") (hfn : X.t.fn 387 = some fn) (CS : CheckFn fn) (hg1 : X.t.glob "JSFail" = some (.top 188)) (hg2 : X.t.glob "SyntaxFail" = some (.top 208)) : CheckOk X := by
  intro rec ih h₀ L rest as r c s d sc A env args us R h J S fa hE hQ
  obtain ⟨tb, n, q1, q2, q3, q4, q5, q6, q7, q8, q9, q10, q11, q12, q13, q14, q15, hbody⟩ := CS.body
  have hq := check_is hfn hbody h
  clear h
  obtain ⟨v, rfl, h⟩ := hq
  have hz : zipArgs fn.params.args [v] = some [(("node" : Str), v)] := by
    have := CS.args
    cases e : fn.params.args with
    | nil => rw [e] at this; cases this
    | cons p ps =>
      rw [e, List.map_cons] at this
      injection this with e1 e2
      rw [List.map_eq_nil_iff] at e2
      subst e2
      show some [(p.arg, v)] = _
      rw [e1]
  refine enter_ok KO hfn hz J S fa fun {A' env' g0 L' s' Q' E'} J' S' O => ?_
  rw [hbody]
  refine wpAny_execs_cons (wpAny_Try_except ?_)
  rcases h with ⟨c', hb, h⟩ | ⟨dd, c', es, tx, v', ln, hb, hes, hk, htx, hv', hln, rfl⟩
  · refine ih.sts hb J' S' (fun _ _ _ q => nomatch q) ⟨fun c1 q as1 s1 x1 S1 => ?_, fun _ _ q => (nomatch q)⟩
    cases q
    exact wpAny_execs_nil (wpAny_execs_nil (O.next _ _ _ x1 S1 fun s2 S2 => hQ _ _ (val_ok h) _ s2 _ x1 S2 rfl))
  · refine ih.sts hb J' S' (fun cl1 dd1 c1 q as1 s1 y x1 P => ?_) ⟨fun _ q => (nomatch q), fun _ _ q => (nomatch q)⟩
    cases q
    refine caught_as KO Z1 hg1 CS.js (by decide) CS.e J' P fun g ox T oT dx s2 u hl Jg Sg hd W hm => ?_
    exact check_hand KO Z1 Z2 CS.sf CS.node CS.e hg2 hv' S.nds Jg Sg hm W hd hes hk htx hln fun y2 dx2 s3 P3 =>
      O.exc 208 c'.H.length _ _ _ y2 (x1.trans (Ext.push _ _)) (P3.back u hl) fun s13 P13 => hE _ _ _ rfl _ s13 y2 (x1.trans (Ext.push _ _)) P13
end
end Mine

end
section
open PySem PySem.W PySem.Calls PyProof.Rows PySem.Spec PySem.Builtin
namespace Mine

/-! the objects of a heap as a list by address -/
noncomputable def frGo : Nat → List Obj → Frag
  | _, [] => []
  | n, o :: l => match o.data with
    | .freed => frGo (n + 1) l
    | _ => (n, o) :: frGo (n + 1) l
noncomputable def fr (h : Heap) : Frag := frGo 0 h.objs.toList
theorem frGo_in : ∀ (l : List Obj) (n a : Nat) (o : Obj), (frGo n l).lookup a = some o → n ≤ a ∧ l[a - n]? = some o ∧ o.data ≠ .freed
  | [], _, _, _, h => by cases h
  | p :: l, n, a, o, h => by
    have next : (frGo (n + 1) l).lookup a = some o → n ≤ a ∧ (p :: l)[a - n]? = some o ∧ o.data ≠ .freed := fun h => by
      obtain ⟨h1, h2, h3⟩ := frGo_in l (n + 1) a o h
      refine ⟨by omega, ?_, h3⟩
      rw [show a - n = (a - (n + 1)) + 1 by omega, List.getElem?_cons_succ]; exact h2
    unfold frGo at h
    split at h
    · exact next h
    · rename_i hf
      rw [List.lookup_cons] at h
      split at h
      · rename_i q
        cases h
        rw [beq_iff_eq] at q
        subst q
        refine ⟨Nat.le_refl _, by simp, fun e => hf e⟩
      · exact next h
theorem fr_in (h : Heap) : (fr h).In h := fun a o e => by
  obtain ⟨_, h2, h3⟩ := frGo_in _ _ _ _ e
  unfold Heap.get?
  rw [Nat.sub_zero, Array.getElem?_toList] at h2
  rw [h2]
  obtain ⟨c, d, da, sl⟩ := o
  cases da <;> first | rfl | exact absurd rfl h3

section
variable {X : Cx}
noncomputable def valChk : V → Value → Bool
  | .none, .none => true
  | .bool b, .bool c => b == c
  | .int i, .int j _ => decide (i = j)
  | .str s, .str x _ => eqS s x
  | .top a, .ref b => Nat.beq a b
  | .ty n, .type m => decide (n = m)
  | .bi n, .builtin m => decide (n = m)
  | _, _ => false
theorem valChk_ok {v : V} {u : Value} (h : valChk v u = true) : VR X [] v u := by
  unfold valChk at h
  split at h
  · rfl
  · rw [beq_iff_eq] at h; subst h; rfl
  · rw [decide_eq_true_eq] at h; subst h; exact ⟨_, rfl⟩
  · rw [eqS_iff] at h; subst h; exact ⟨_, rfl⟩
  · rw [Nat.eq_of_beq_eq_true h]; rfl
  · rw [decide_eq_true_eq] at h; subst h; rfl
  · rw [decide_eq_true_eq] at h; subst h; rfl
  · cases h
noncomputable def valsChk : List V → List Value → Bool
  | [], [] => true
  | v :: vs, u :: us => valChk v u && valsChk vs us
  | _, _ => false
theorem valsChk_ok : ∀ {vs : List V} {us : List Value}, valsChk vs us = true → F2 (VR X []) vs us
  | [], [], _ => .nil
  | v :: vs, u :: us, h => by
    obtain ⟨a, b⟩ := Bool.and_eq_true_iff.mp h
    exact .cons (valChk_ok a) (valsChk_ok b)
  | [], _ :: _, h => by cases h
  | _ :: _, [], h => by cases h
noncomputable def entsChk : List (Str × V) → List DictEntry → Bool
  | [], [] => true
  | p :: ps, e :: es => valChk (.str p.1) e.key && valChk p.2 e.val && entsChk ps es
  | _, _ => false
theorem entsChk_ok : ∀ {ps : List (Str × V)} {es : List DictEntry}, entsChk ps es = true → es.map (·.hash) = ps.map (fun p => PyData.keyHash X.w.params p.1) → F2 (ER X []) ps es
  | [], [], _, _ => .nil
  | p :: ps, e :: es, h, hh => by
    obtain ⟨a, c⟩ := Bool.and_eq_true_iff.mp h
    obtain ⟨a, b⟩ := Bool.and_eq_true_iff.mp a
    rw [List.map_cons, List.map_cons] at hh
    injection hh with h1 h2
    obtain ⟨t, ht⟩ := valChk_ok (X := X) a
    exact .cons ⟨⟨t, ht⟩, h1, valChk_ok b⟩ (entsChk_ok c h2)
  | [], _ :: _, h, _ => by cases h
  | _ :: _, [], h, _ => by cases h
noncomputable def objHash : Option Obj → List Int
  | some ⟨_, _, .dict es _, _⟩ => es.toList.map (·.hash)
  | _ => []
noncomputable def oHash (P : Params) : O → List Int
  | .dict es => es.map fun p => PyData.keyHash P p.1
  | _ => []
noncomputable def tyIs (v : Value) (n : String) : Bool := match v with
  | .type t => decide (t = n)
  | _ => false
theorem tyIs_ok {v : Value} {n : String} (h : tyIs v n = true) : v = .type n := by
  cases v <;> first | (cases h; done) | (rw [of_decide_eq_true h])
noncomputable def asSeq : Data → Option (Array Value × Nat)
  | .seq a n => some (a, n)
  | _ => none
noncomputable def asDict : Data → Option (Array DictEntry × Nat)
  | .dict a n => some (a, n)
  | _ => none
theorem asSeq_ok {d : Data} {p : Array Value × Nat} (h : asSeq d = some p) : d = .seq p.1 p.2 := by
  cases d <;> first | (cases h; done) | (cases h; rfl)
theorem asDict_ok {d : Data} {p : Array DictEntry × Nat} (h : asDict d = some p) : d = .dict p.1 p.2 := by
  cases d <;> first | (cases h; done) | (cases h; rfl)
theorem any_is {α : Type} {o : Option α} {p : α → Bool} (h : o.any p = true) : ∃ a, o = some a ∧ p a = true := by
  cases o with
  | none => cases h
  | some a => exact ⟨a, rfl, h⟩
noncomputable def objBare (c : String) (ob : Obj) : Bool := tyIs ob.cls c && (ob.dict.isNone && ob.slots.toList.isEmpty)
theorem objBare_ok {c : String} {ob : Obj} (h : objBare c ob = true) : ob = { cls := .type c, data := ob.data } := by
  obtain ⟨h1, h2⟩ := Bool.and_eq_true_iff.mp h
  obtain ⟨h2, h3⟩ := Bool.and_eq_true_iff.mp h2
  obtain ⟨k, d, da, ⟨l⟩⟩ := ob
  cases d with
  | some _ => cases h2
  | none => cases l with
    | cons _ _ => cases h3
    | nil =>
      cases tyIs_ok h1
      rfl
noncomputable def objChk (o : O) (x : Option Obj) : Bool := match o with
  | .tup xs => x.any fun ob => objBare "tuple" ob && (asSeq ob.data).any fun p => valsChk xs p.1.toList
  | .dict ps => x.any fun ob => objBare "dict" ob && (asDict ob.data).any fun p => entsChk ps p.1.toList
  | _ => false
theorem objChk_ok {o : O} {x : Option Obj} (h : objChk o x = true) (hh : objHash x = oHash X.w.params o) : ∃ ob, x = some ob ∧ OR X [] o ob := by
  cases o <;> first | (cases h; done) | skip
  · obtain ⟨⟨c, d, da, sl⟩, rfl, h⟩ := any_is h
    obtain ⟨h1, h2⟩ := Bool.and_eq_true_iff.mp h
    obtain ⟨⟨ys, n⟩, h2, h3⟩ := any_is h2
    cases asSeq_ok h2
    refine ⟨_, rfl, ys.toList, n, ?_, valsChk_ok h3⟩
    rw [objBare_ok h1]
  · obtain ⟨⟨c, d, da, sl⟩, rfl, h⟩ := any_is h
    obtain ⟨h1, h2⟩ := Bool.and_eq_true_iff.mp h
    obtain ⟨⟨ys, n⟩, h2, h3⟩ := any_is h2
    cases asDict_ok h2
    refine ⟨_, rfl, ys.toList, n, ?_, entsChk_ok h3 hh⟩
    rw [objBare_ok h1]

noncomputable def globChk (K : Frag) (p : Str × V) : Bool := match nsIn K mainGlobals p.1 with
  | some (some u) => valChk p.2 u
  | _ => false
noncomputable def biChk (K : Frag) (p : Str × V) : Bool := match nsIn K mainGlobals p.1 with
  | some none => !(eqS p.1 "__name__") && (match bootBuiltins p.1 with
    | some u => valChk p.2 u
    | none => false)
  | _ => false
theorem lkS_mem {α : Type} {x : Str} {v : α} : ∀ {l : List (Str × α)}, lkS x l = some v → (x, v) ∈ l
  | [], h => by cases h
  | p :: l, h => by
    unfold lkS at h
    split at h
    · rename_i q
      cases h
      rw [eqS_iff] at q
      subst q
      exact .head _
    · exact .tail _ (lkS_mem h)
theorem lkN_mem {α : Type} {x : Nat} {v : α} : ∀ {l : List (Nat × α)}, lkN x l = some v → (x, v) ∈ l
  | [], h => by cases h
  | p :: l, h => by
    unfold lkN at h
    split at h
    · rename_i q
      cases h
      have := Nat.eq_of_beq_eq_true q
      subst this
      exact .head _
    · exact .tail _ (lkN_mem h)
theorem glob_of (h1 : globTab.all (globChk X.K) = true) (h2 : biTab.all (biChk X.K) = true) (x : Str) (v : V) (h : tops.glob x = some v) :
    (∃ u, nsIn X.K mainGlobals x = some (some u) ∧ VR X [] v u) ∨ (nsIn X.K mainGlobals x = some none ∧ x ≠ "__name__" ∧ ∃ u, bootBuiltins x = some u ∧ VR X [] v u) := by
  change (match lkS x globTab with | some v => some v | none => lkS x biTab) = some v at h
  split at h
  · rename_i w e
    cases h
    have := List.all_eq_true.mp h1 _ (lkS_mem e)
    unfold globChk at this
    split at this
    · rename_i u hu
      exact .inl ⟨u, hu, valChk_ok this⟩
    · cases this
  · rename_i e
    have := List.all_eq_true.mp h2 _ (lkS_mem h)
    unfold biChk at this
    split at this
    · rename_i hu
      obtain ⟨a, b⟩ := Bool.and_eq_true_iff.mp this
      split at b
      · rename_i u hb
        refine .inr ⟨hu, fun e => ?_, u, hb, valChk_ok b⟩
        have e2 := eqS_iff.mpr e
        dsimp only at a
        rw [e2] at a
        cases a
      · cases b
    · cases this

noncomputable def attrChk (K : Frag) (p : Nat × List Str) : Bool := p.2.all fun a => plainGet K p.1 a && hasDictIn K p.1 && (match findIn K (.ref p.1) a with
    | some attr => noGet K attr
    | none => false) && (findIn K (.ref p.1) "__setattr__" == some (some (.builtin "object.__setattr__"))) && plainOver K p.1 && (takerIn K p.1 a == some none)
theorem attr_mem {C : Nat} {a : Str} (h : attrOk C a = true) : ∃ l, (C, l) ∈ attrTab ∧ a ∈ l := by
  unfold attrOk at h
  split at h
  · rename_i l e
    obtain ⟨x, hx, q⟩ := List.any_eq_true.mp h
    rw [eqS_iff] at q
    subst q
    exact ⟨l, lkN_mem e, hx⟩
  · cases h
theorem attr_of (h : attrTab.all (attrChk X.K) = true) {C : Nat} {a : Str} (e : attrOk C a = true) : (plainGet X.K C a = true ∧ hasDictIn X.K C = true ∧ ∃ attr, findIn X.K (.ref C) a = some attr ∧ noGet X.K attr = true) ∧
    findIn X.K (.ref C) "__setattr__" = some (some (.builtin "object.__setattr__")) ∧ plainOver X.K C = true ∧ takerIn X.K C a = some none ∧ hasDictIn X.K C = true := by
  obtain ⟨l, h1, h2⟩ := attr_mem e
  have := List.all_eq_true.mp (List.all_eq_true.mp h _ h1) _ h2
  simp only [Bool.and_eq_true, beq_iff_eq] at this
  obtain ⟨⟨⟨⟨⟨a1, a2⟩, a3⟩, a4⟩, a5⟩, a6⟩ := this
  refine ⟨⟨a1, a2, ?_⟩, a4, a5, a6, a2⟩
  split at a3
  · rename_i attr q; exact ⟨attr, q, a3⟩
  · cases a3

noncomputable def methChk (K : Frag) (p : Str × Nat) : Bool := plainGet K 369 p.1 && (findIn K (.ref 369) p.1 == some (some (.ref p.2))) && isFn K (.ref p.2) && keepIn K (.ref p.2)
noncomputable def initChk (K : Frag) (p : Nat × Nat) : Bool := makesIn K p.1 && (findIn K (.ref p.1) "__init__" == some (some (.ref p.2))) && (typeIn K (.ref p.2) == some (.type "function"))
noncomputable def nodeChk (K : Frag) : Bool := plainGet K 31 "__class__" && hasDictIn K 31 && (findIn K (.ref 31) "__class__" == some (some (.builtin "object.__class__"))) &&
    (specialIn K (.builtin "object.__class__") "__get__" == some (some (.builtin "getset_descriptor.__get__"))) && (takesIn K (.builtin "object.__class__") == some true) && (mroIn K 31 (.type "object") == some true) &&
    (kitOne K (.type "str") (.ref 31) == some false) && (kitOne K (.type "bool") (.ref 31) == some false) && (kitOne K (.type "NoneType") (.ref 31) == some false) && (kitOne K (.type "list") (.ref 31) == some false) && (kitOne K (.type "tuple") (.ref 31) == some false)
theorem node_of (h : nodeChk X.K = true) : (plainGet X.K 31 "__class__" = true ∧ hasDictIn X.K 31 = true ∧ findIn X.K (.ref 31) "__class__" = some (some (.builtin "object.__class__")) ∧
    specialIn X.K (.builtin "object.__class__") "__get__" = some (some (.builtin "getset_descriptor.__get__")) ∧ takesIn X.K (.builtin "object.__class__") = some true ∧ mroIn X.K 31 (.type "object") = some true) ∧
    kitOne X.K (.type "str") (.ref 31) = some false ∧ kitOne X.K (.type "bool") (.ref 31) = some false ∧ kitOne X.K (.type "NoneType") (.ref 31) = some false ∧ kitOne X.K (.type "list") (.ref 31) = some false ∧ kitOne X.K (.type "tuple") (.ref 31) = some false := by
  unfold nodeChk at h
  simp only [Bool.and_eq_true, beq_iff_eq] at h
  obtain ⟨⟨⟨⟨⟨⟨⟨⟨⟨⟨a1, a2⟩, a3⟩, a4⟩, a5⟩, a6⟩, a7⟩, a8⟩, a9⟩, a10⟩, a11⟩ := h
  exact ⟨⟨a1, a2, a3, a4, a5, a6⟩, a7, a8, a9, a10, a11⟩
end
end Mine

end
section
open PySem PySem.W PySem.Calls PyProof.Rows PySem.Spec PySem.Builtin
namespace Mine
section
variable {X : Cx}
/-! functions -/
noncomputable def asFunc : Data → Option FuncData
  | .func f => some f
  | _ => none
theorem asFunc_ok {d : Data} {p : FuncData} (h : asFunc d = some p) : d = .func p := by
  cases d <;> first | (cases h; done) | (cases h; rfl)
noncomputable def noV : Value → Bool
  | .none => true
  | _ => false
theorem noV_ok {v : Value} (h : noV v = true) : v = .none := by
  cases v <;> first | (cases h; done) | rfl
noncomputable def fnBare (f : FuncData) : Bool := f.closure.isEmpty && (noV f.defaults && (noV f.kwdefaults && (noV f.closureTuple && (Nat.beq f.globals mainGlobals && Nat.beq f.builtins builtinsNs))))
noncomputable def fnChk (K : Frag) (a : Nat) : Bool := (K.lookup a).any fun ob => (asFunc ob.data).any fun f => fnBare f && codeIn K f.code f.qualname
noncomputable def bodyOf : FuncBody → Option (List PySem.Stmt)
  | .stmts b => some b
  | _ => none
theorem bodyOf_ok {d : FuncBody} {p : List PySem.Stmt} (h : bodyOf d = some p) : d = .stmts p := by
  cases d <;> first | (cases h; done) | (cases h; rfl)
noncomputable def fnGet (K : Frag) (a : Nat) : Option Fn := (K.lookup a).bind fun ob => (asFunc ob.data).bind fun f => (bodyOf f.body).map fun b => ⟨f.params, b, f.scope⟩
theorem fn_of {K : Frag} {a : Nat} {f : Fn} (h : fnChk K a = true) (e : fnGet K a = some f) : ∃ name qual doc pm an cdv od osl oc, K.lookup a = some ⟨oc, od, .func (fnOf name qual f.params f.body f.scope .none .none doc pm an cdv .none), osl⟩ ∧ codeIn K cdv qual = true := by
  obtain ⟨⟨oc, od, da, osl⟩, hk, h⟩ := any_is h
  obtain ⟨g, hg, h⟩ := any_is h
  cases asFunc_ok hg
  obtain ⟨h, hcode⟩ := Bool.and_eq_true_iff.mp h
  obtain ⟨h1, h⟩ := Bool.and_eq_true_iff.mp h
  obtain ⟨h2, h⟩ := Bool.and_eq_true_iff.mp h
  obtain ⟨h3, h⟩ := Bool.and_eq_true_iff.mp h
  obtain ⟨h4, h⟩ := Bool.and_eq_true_iff.mp h
  obtain ⟨h5, h6⟩ := Bool.and_eq_true_iff.mp h
  obtain ⟨name, qual, ps, body, sc, gl, cl, df, kw, doc, pm, an, cd, ct, b⟩ := g
  cases List.isEmpty_iff.mp h1
  cases noV_ok h2
  cases noV_ok h3
  cases noV_ok h4
  cases Nat.eq_of_beq_eq_true h5
  cases Nat.eq_of_beq_eq_true h6
  unfold fnGet at e
  rw [hk] at e
  obtain ⟨bd, hb, rfl⟩ := Option.map_eq_some_iff.mp (show (bodyOf body).map (fun b => (⟨ps, b, sc⟩ : Fn)) = some f from e)
  cases bodyOf_ok hb
  exact ⟨name, qual, doc, pm, an, cd, od, osl, oc, hk, hcode⟩

theorem lookup_cons_ne {x y : Str} {v : Value} {l : List (Str × Value)} (h : y ≠ x) : ((x, v) :: l).lookup y = l.lookup y := by
  rw [List.lookup_cons, beq_eq_false_iff_ne.mpr h]
theorem fm_congr {α β : Type} {f g : α → Option β} : ∀ {l : List α}, (∀ x ∈ l, f x = g x) → l.filterMap f = l.filterMap g
  | [], _ => rfl
  | a :: l, h => by
    rw [List.filterMap_cons, List.filterMap_cons, h a (.head _), fm_congr fun x hx => h x (.tail _ hx)]
theorem zip_all : ∀ {xs : List Str} {us : List Value}, us.length = xs.length → xs.Nodup → xs.filterMap (fun n => ((xs.zip us).lookup n).map (n, ·)) = xs.zip us
  | [], [], _, _ => rfl
  | x :: xs, u :: us, hl, hn => by
    rw [List.nodup_cons] at hn
    rw [List.zip_cons_cons, List.filterMap_cons]
    have e1 : ((x, u) :: xs.zip us).lookup x = some u := by rw [List.lookup_cons, beq_self_eq_true]
    rw [e1]
    show (x, u) :: _ = _
    congr 1
    have : xs.filterMap (fun n => (((x, u) :: xs.zip us).lookup n).map (n, ·)) = xs.filterMap (fun n => ((xs.zip us).lookup n).map (n, ·)) := by
      refine fm_congr fun y hy => ?_
      rw [lookup_cons_ne fun e => hn.1 (by rw [← e]; exact hy)]
    rw [this]
    exact zip_all (by simpa using hl) hn.2
  | [], _ :: _, hl, _ => by cases hl
  | _ :: _, [], hl, _ => by cases hl
theorem zip_some {n : Str} {xs : List Str} {us : List Value} (hl : us.length = xs.length) (hn : n ∈ xs) : ∃ v, (xs.zip us).lookup n = some v := by
      induction xs generalizing us with
      | nil => cases hn
      | cons x xs ih =>
        cases us with
        | nil => cases hl
        | cons u us =>
          rw [List.zip_cons_cons, List.lookup_cons]
          split
          · exact ⟨_, rfl⟩
          · rename_i q
            rcases List.mem_cons.mp hn with rfl | hn
            · rw [beq_self_eq_true] at q; cases q
            · exact ih (by simpa using hl) hn
theorem zip_none : ∀ {xs : List Str} {us : List Value}, us.length = xs.length → (xs.filter fun n => ((xs.zip us).lookup n).isNone) = []
  | xs, us, hl => by
    rw [List.filter_eq_nil_iff]
    intro n hn
    have := zip_some hl hn
    obtain ⟨v, hv⟩ := this
    rw [hv]; simp
theorem bind_simple {name qual : Str} {ps : Arguments} {body : List PySem.Stmt} {scope : Scope} {doc pm : Value} {an : Option Addr} {cdv : Value} {us : List Value} (h1 : ps.posonlyargs = []) (h2 : ps.vararg = none) (h3 : ps.kwonlyargs = []) (h4 : ps.kwarg = none)
    (hn : (ps.args.map (·.arg)).Nodup) (hl : us.length = ps.args.length) : bindArgs (fnOf name qual ps body scope .none .none doc pm an cdv .none) ⟨us, []⟩ = pure ((ps.args.map (·.arg)).zip us) := by
  have hl' : us.length = (ps.args.map (·.arg)).length := by rw [List.length_map]; exact hl
  have e1 : seqItems? Value.none = pure none := rfl
  unfold bindArgs
  dsimp only
  rw [h1, h2, h3, h4, e1]
  generalize ps.args.map (·.arg) = xs at *
  simp only [List.map_nil, List.nil_append, List.append_nil, List.forIn_nil, pure_bind, Option.getD_none, List.length_nil, Nat.zero_sub, Nat.sub_zero, List.drop_nil, hl', gt_iff_lt, Nat.lt_irrefl, decide_false, Bool.false_and, Bool.false_eq_true, if_false, List.take_length, zip_none hl', List.isEmpty_nil, Bool.not_true, List.drop_length, List.zip_nil_right, zip_all hl' hn]
noncomputable def scOk (f : Fn) : Bool := (match f.scope.kind with | .function => true | _ => false) && !f.scope.isCoroutine && !f.scope.isGenerator && f.scope.names.all (fun x => match x.2 with | .cell => false | _ => true) &&
  f.params.args.all (fun p => localName f.scope p.arg) && decide (f.params.args.map (·.arg)).Nodup && f.params.posonlyargs.isEmpty && f.params.vararg.isNone && f.params.kwonlyargs.isEmpty && f.params.kwarg.isNone
theorem scOk_of {f : Fn} (h : scOk f = true) : f.scope.kind = .function ∧ f.scope.isCoroutine = false ∧ f.scope.isGenerator = false ∧ (∀ x ∈ f.scope.names, x.2 ≠ .cell) ∧ (∀ p ∈ f.params.args, f.scope.names.lookup p.arg = some .local) ∧ (f.params.args.map (·.arg)).Nodup ∧
    ∀ name qual doc pm an cdv us, us.length = f.params.args.length → bindArgs (fnOf name qual f.params f.body f.scope .none .none doc pm an cdv .none) ⟨us, []⟩ = pure ((f.params.args.map (·.arg)).zip us) := by
  unfold scOk at h
  simp only [Bool.and_eq_true, Bool.not_eq_true', List.all_eq_true, decide_eq_true_eq, List.isEmpty_iff, Option.isNone_iff_eq_none] at h
  obtain ⟨⟨⟨⟨⟨⟨⟨⟨⟨a1, a2⟩, a3⟩, a4⟩, a5⟩, a6⟩, a7⟩, a8⟩, a9⟩, a10⟩ := h
  refine ⟨?_, a2, a3, fun x hx e => ?_, fun p hp => ?_, a6, fun name qual doc pm an cdv us hl => bind_simple a7 a8 a9 a10 a6 hl⟩
  · split at a1
    · assumption
    · cases a1
  · have := a4 x hx
    rw [e] at this; cases this
  · have := a5 p hp
    unfold localName at this
    split at this
    · assumption
    · cases this

/-! own exception classes -/
noncomputable def lineChk : List Value → Bool
  | [a, b, c] => tyIs a "Exception" && (tyIs b "BaseException" && tyIs c "object")
  | _ => false
theorem lineChk_ok {l : List Value} (h : lineChk l = true) : l = excLine := by
  rcases l with _ | ⟨a, _ | ⟨b, _ | ⟨c, _ | ⟨d, l⟩⟩⟩⟩ <;> first | (cases h; done) | skip
  obtain ⟨h1, h⟩ := Bool.and_eq_true_iff.mp h
  obtain ⟨h2, h3⟩ := Bool.and_eq_true_iff.mp h
  cases tyIs_ok h1
  cases tyIs_ok h2
  cases tyIs_ok h3
  rfl
noncomputable def biIs (v : Option Value) (n : String) : Bool := match v with
  | some (.builtin t) => decide (t = n)
  | _ => false
theorem biIs_ok {v : Option Value} {n : String} (h : biIs v n = true) : v = some (.builtin n) := by
  cases v with
  | none => cases h
  | some v => cases v <;> first | (cases h; done) | (rw [of_decide_eq_true h])
noncomputable def slotChk : List (Option Value) → Bool
  | [_, _, _, _, e, _] => biIs e "Exception.__new__"
  | _ => false
noncomputable def mroChk (C : Nat) : List Value → Bool
  | .ref c :: l => Nat.beq c C && lineChk l
  | _ => false
theorem mroChk_ok {C : Nat} {l : List Value} (h : mroChk C l = true) : l = .ref C :: excLine := by
  cases l with
  | nil => cases h
  | cons v l =>
    cases v <;> first | (cases h; done) | skip
    obtain ⟨h1, h2⟩ := Bool.and_eq_true_iff.mp h
    cases Nat.eq_of_beq_eq_true h1
    rw [lineChk_ok h2]
noncomputable def asCls : Data → Option ClassData
  | .cls f => some f
  | _ => none
theorem asCls_ok {d : Data} {p : ClassData} (h : asCls d = some p) : d = .cls p := by
  cases d <;> first | (cases h; done) | (cases h; rfl)
noncomputable def excChk (C : Nat) (o : Option Obj) : Bool := o.any fun ob => tyIs ob.cls "type" && (slotChk ob.slots.toList && (asCls ob.data).any fun c => mroChk C c.mro && (c.hasDict && !c.hasDel))
theorem excChk_ok {C : Nat} {o : Option Obj} (h : excChk C o = true) : ∃ nm q ns bs sn sub ab col dd k0 k1 k2 k3 k5, o = some (excClassObj nm q C ns bs excLine true sn sub ab col dd k0 k1 k2 k3 k5 "Exception.__new__") := by
  obtain ⟨⟨k, dd, da, ⟨l⟩⟩, rfl, h⟩ := any_is h
  obtain ⟨h1, h⟩ := Bool.and_eq_true_iff.mp h
  obtain ⟨h2, h⟩ := Bool.and_eq_true_iff.mp h
  obtain ⟨⟨nm, bs, mro, ns, q, hasD, sn, sub, ab, col, del⟩, hc, h⟩ := any_is h
  obtain ⟨h3, h⟩ := Bool.and_eq_true_iff.mp h
  obtain ⟨h4, h5⟩ := Bool.and_eq_true_iff.mp h
  cases asCls_ok hc
  cases tyIs_ok h1
  cases mroChk_ok h3
  change hasD = true at h4
  cases h4
  change (!del) = true at h5
  cases del with
  | true => cases h5
  | false =>
    rcases l with _ | ⟨k0, _ | ⟨k1, _ | ⟨k2, _ | ⟨k3, _ | ⟨k4, _ | ⟨k5, _ | ⟨k6, l⟩⟩⟩⟩⟩⟩⟩ <;> first | (cases h2; done) | skip
    cases biIs_ok h2
    exact ⟨_, _, _, _, _, _, _, _, _, _, _, _, _, _, rfl⟩
noncomputable def ownChk (K : Frag) (C f : Nat) (a1 a2 : Str) : Bool := excChk C (K.lookup C) && (findIn K (.ref C) "__init__" == some (some (.ref f))) && (typeIn K (.ref f) == some (.type "function")) && keepIn K (.ref C) &&
  (findIn K (.ref C) "__setattr__" == some (some (.builtin "object.__setattr__"))) && (takerIn K C a1 == some none) && (takerIn K C a2 == some none) && (findIn K (.ref C) "__getattribute__" == some (some (.builtin "BaseException.__getattribute__"))) && (findIn K (.ref C) "__getattr__" == some none) &&
  (findIn K (.ref C) a1 == some none) && (findIn K (.ref C) a2 == some none)
theorem own_of {C f : Nat} {a1 a2 : Str} {fn : Fn} (h : ownChk X.K C f a1 a2 = true) (atfn : X.t.fn f = some fn) (args : fn.params.args.map (·.arg) = [("self" : Str), a1, a2])
    (body : ∃ q1 q2 q3 q4 q5 q6 q7 q8 : Pos, fn.body = [.Assign [.Attribute (.Name "self" q1) a1 q2] (.Name a1 q3) q4, .Assign [.Attribute (.Name "self" q5) a2 q6] (.Name a2 q7) q8])
    (ne : a1 ≠ "self" ∧ a2 ≠ "self" ∧ a1 ≠ a2 ∧ a1 ≠ "__debug__" ∧ a2 ≠ "__debug__") : ExcCls X C f fn a1 a2 := by
  unfold ownChk at h
  simp only [Bool.and_eq_true, beq_iff_eq] at h
  obtain ⟨⟨⟨⟨⟨⟨⟨⟨⟨⟨b1, b2⟩, b3⟩, b4⟩, b5⟩, b6⟩, b7⟩, b8⟩, b9⟩, b10⟩, b11⟩ := h
  exact ⟨excChk_ok b1, b2, b3, b4, atfn, args, body, ne, b5, ⟨b6, b7⟩, ⟨b8, b9⟩, b10, b11⟩
end

structure Tabs where
  glob : List (Str × V)
  bi : List (Str × V)
  obj : List (Nat × O)
  attr : List (Nat × List Str)
  meth : List (Str × Nat)
  init : List (Nat × Nat)
  keys : List Nat
noncomputable def keepAll (T : Tabs) (K : Frag) : Bool := T.keys.all (fun a => keepIn K (.ref a)) && T.init.all (fun p => keepIn K (.ref p.1))
noncomputable def chk (T : Tabs) (K : Frag) : Bool := T.glob.all (globChk K) && T.bi.all (biChk K) && T.obj.all (fun p => objChk p.2 (K.lookup p.1) && !(Nat.beq p.1 sysModules)) && T.attr.all (attrChk K) && T.meth.all (methChk K) && keepAll T K && T.keys.all (fnChk K) && nodeChk K && T.init.all (initChk K) &&
  ownChk K 188 185 "kind" "text" && ownChk K 208 205 "text" "line"
noncomputable def fnsV (T : Tabs) (K : Frag) : List (Nat × Option Fn) := T.keys.map fun a => (a, fnGet K a)
noncomputable def hashV (T : Tabs) (K : Frag) : List (List Int) := T.obj.map fun p => objHash (K.lookup p.1)
noncomputable def hashE (T : Tabs) (P : Params) : List (List Int) := T.obj.map fun p => oHash P p.2
noncomputable def Yf (T : Tabs) (s : Shared) : Bool × Bool × List (Nat × Option Fn) × List (List Int) := let K := fr s.heap; (chk T K, (K.lookup sysModules).isSome, fnsV T K, hashV T K)
noncomputable def Ya (T : Tabs) (fns : List (Nat × Option Fn)) (w : World) : Bool × Bool × List (Nat × Option Fn) × List (List Int) := (true, true, fns, hashE T w.params)
noncomputable def fnKeys : List Nat := fnTab.map (·.1)
noncomputable def T0 : Tabs := ⟨globTab, biTab, objTab, attrTab, methTab, initTab, fnKeys⟩
end Mine

end
section
open PySem PySem.W PySem.Calls PyProof.Rows PySem.Spec PySem.Builtin
namespace Mine
noncomputable section

noncomputable def topRunT (tb : String → Option Builtin) (p : Program) (w : World) (n₀ : Nat) (ann : Option Value) : Nat → SharedT → Thread → Option SharedT
  | 0, _, _ => none
  | n + 1, s, t => match through t with
    | true => some s
    | false => match stepOk n₀ ann t with
      | false => none
      | true => match stepT (denote tb) p w s t with
        | some r => topRunT tb p w n₀ ann n r.1 r.2
        | none => none

theorem topRunT_spec {tb : String → Option Builtin} {p : Program} {w : World} {n₀ : Nat} {ann : Option Value} : ∀ {n : Nat} {s s' : SharedT} {t : Thread},
    topRunT tb p w n₀ ann n s t = some s' → topRun tb p w n₀ ann n s.abs t = some s'.abs
  | 0, _, _, _, h => by cases h
  | n + 1, s, s', t, h => by
    unfold topRunT at h
    unfold topRun
    cases ht : through t with
    | true => rw [ht] at h; cases h; rfl
    | false =>
      rw [ht] at h
      cases hk : stepOk n₀ ann t with
      | false => rw [hk] at h; cases h
      | true =>
        rw [hk] at h
        cases hs : stepT (denote tb) p w s t with
        | none => rw [hs] at h; cases h
        | some r => obtain ⟨s₂, t₂⟩ := r; rw [hs] at h; rw [stepT_spec hs]; exact topRunT_spec h

noncomputable abbrev P0 : Program := PySem.Challenge.pw_pc0075_01
noncomputable def keepL : List Nat := [1, 2, 4, 5, 6, 7, 8, 9, 10, 12, 13, 15, 16, 17, 18, 19, 20, 21, 23, 24, 26, 27, 28, 29, 30, 31, 32, 33, 34, 35, 36, 37, 39, 40, 42, 43, 44]
noncomputable def q0 : Program := view P0 keepL
noncomputable def loose0 : List Str := ["LETTERS", "PARTS", "CONTROLS", "PLAIN"]

noncomputable def mkT : List Obj → Nat → BT → BT
  | [], _, t => t
  | o :: l, n, t => mkT l (n + 1) (t.ins n o)
noncomputable def bootT (P : Params) : BT := mkT (boot_heap P).objs.toList 0 .nil
noncomputable def S0 (w : World) (os : OsState) : SharedT := ⟨bootT w.params, 11, (boot_heap w.params).life, #[], boot_drawn, boot_toks, os⟩
theorem S0_abs (w : World) (os : OsState) : (S0 w os).abs = ⟨boot_heap w.params, #[], boot_drawn, boot_toks, os⟩ := by kernel_rfl

noncomputable def mods0 (p : Program) : List Str := importedModules p.main.body
noncomputable def Xt0 (q : Program) (s : Shared) : Bool := xlAt q [] s && recOk [] s
noncomputable def looks (p q : Program) (loose : List Str) (T : Tabs) (h₀ : Heap) (s : Shared) :=
  ((staticsOk (mods0 p) h₀ s.heap && namesBound p s.heap && gensDone s && laidKept h₀ s.heap), openSeen q loose (mods0 p) (Xt0 q) true s, Yf T s)
noncomputable def F (p q : Program) (loose : List Str) (T : Tabs) (w : World) (h₀ : Heap) (s₀ : SharedT) :=
  (topRunT treeTable p w 11 (some (.ref 6)) 3000 s₀ (topStub p)).map fun s => looks p q loose T h₀ s.abs
noncomputable def G (q : Program) (loose : List Str) (T : Tabs) (fns : List (Nat × Option Fn)) (w : World) := some (true, openGood q loose, Ya T fns w)
lay_quick F G
end
end Mine

end
section
open PySem PySem.W PySem.Calls PyProof.Rows PySem.Spec PySem.Builtin
namespace Mine
theorem F_eq : F = PySem.W.Fast.tw2704465385052847526 := PySem.W.Fast.te2704465385052847526
theorem G_eq : G = PySem.W.Fast.tw15365042012625946255 := PySem.W.Fast.te15365042012625946255
theorem main_f (w : World) (os : OsState) : PySem.W.Fast.tw2704465385052847526 P0 q0 loose0 T0 (w.withFollow "special-get-raises" false) (boot_heap (w.withFollow "special-get-raises" false).params) (S0 (w.withFollow "special-get-raises" false) os) = PySem.W.Fast.tw15365042012625946255 q0 loose0 T0 fnTab (w.withFollow "special-get-raises" false) := by kernel_rfl
theorem main_t (w : World) (os : OsState) : PySem.W.Fast.tw2704465385052847526 P0 q0 loose0 T0 (w.withFollow "special-get-raises" true) (boot_heap (w.withFollow "special-get-raises" true).params) (S0 (w.withFollow "special-get-raises" true) os) = PySem.W.Fast.tw15365042012625946255 q0 loose0 T0 fnTab (w.withFollow "special-get-raises" true) := by kernel_rfl
end Mine

end
section
open PySem PySem.W PySem.Calls PyProof.Rows PySem.Spec PySem.Builtin
namespace Mine
theorem main_w (w : World) (os : OsState) : F P0 q0 loose0 T0 w (boot_heap w.params) (S0 w os) = G q0 loose0 T0 fnTab w := by
  rw [F_eq, G_eq, ← World.withFollow_self w "special-get-raises"]
  cases w.params.followText "special-get-raises"
  · exact main_f w os
  · exact main_t w os
theorem boot_size (w : World) : ((boot_heap w.params).isNs mainGlobals && (#[] : Array GenState).size == 0, (boot_heap w.params).objs.size, (boot_heap w.params).nsMap mainGlobals "__annotations__") = (true, 11, some (.ref 6)) := by kernel_rfl
theorem fence0 : ∀ s, fenceModules? P0 s = some s := fun s => by kernel_rfl
theorem open0 : opening P0 = plainProg P0.main.scope.names := by kernel_rfl
theorem left0 : LeftO P0 q0 loose0 (Xt0 q0) (Yf T0) (Ya T0 fnTab) 3000 := fun w => by
  obtain ⟨⟨h, gs, d, k, os⟩, e, e'⟩ := Option.map_eq_some_iff.mp (boot_open (p := P0) (N := 3000) open0 rfl fence0 w)
  obtain ⟨rfl, rfl, rfl, rfl⟩ : h = boot_heap w.params ∧ gs = #[] ∧ d = boot_drawn ∧ k = boot_toks := by simpa using e'
  obtain ⟨z1, z2, z3⟩ : _ ∧ _ ∧ _ := by simpa only [Prod.mk.injEq] using boot_size w
  obtain ⟨s₁, r, l⟩ := Option.map_eq_some_iff.mp (main_w w os)
  obtain ⟨l1, l2, l3⟩ : _ ∧ _ ∧ _ := by simpa only [looks, Prod.mk.injEq] using l
  have r := topRunT_spec r
  rw [S0_abs] at r
  have t : topFrom treeTable P0 w 3000 ⟨boot_heap w.params, #[], boot_drawn, boot_toks, os⟩ = some s₁.abs := by
    unfold topFrom
    dsimp only
    rw [z1, z2, z3, r]
    show (match staticsOk (mods0 P0) (boot_heap w.params) s₁.abs.heap && namesBound P0 s₁.abs.heap && gensDone s₁.abs && laidKept (boot_heap w.params) s₁.abs.heap with | true => _ | false => _) = _
    rw [l1]
  unfold openEnds
  rw [e, Option.bind_some, t, Option.map_some]
  exact congrArg some (Prod.ext l2 l3)
end Mine

end
section
open PySem PySem.W PySem.Calls PyProof.Rows PySem.Spec PySem.Builtin
namespace Mine
noncomputable def dlaw : Option (DefRec × List (Str × PySem.Expr)) := defOf q0 "law"
theorem dlaw_some : dlaw.isSome = true := by kernel_rfl
theorem dlaw_def : dlaw.map (fun d => (d.1.params, d.1.body, d.1.scope)) = P0.theDef "law" := by kernel_rfl
theorem dlaw_kw : dlaw.map (fun d => (d.2, kwWritten? d.1.params.kwonlyargs d.1.params.kw_defaults, d.1.params.defaults)) = some ([], some [], []) := by kernel_rfl
theorem dlaw_fn : dlaw.map (fun d => (⟨d.1.params, d.1.body, d.1.scope⟩ : Fn)) = fnOfStmt (stmt 44) := by kernel_rfl
theorem said0 : PySem.Challenge.rw_pc0075_01.wellSaid = true := by
  rw [PySem.W.Fast.te9446332074065402090]
  kernel_rfl
noncomputable abbrev R0 : OpenRow := PySem.Challenge.rw_pc0075_01.row
theorem chains0 : (chainsOk q0 && opensWell R0.prog && (frees R0.toRowW && R0.within.isEmpty)) = true := by kernel_rfl
theorem holds0 (call : ∀ d, dlaw = some (d, []) → d.params.defaults = [] → some (⟨d.params, d.body, d.scope⟩ : Fn) = fnOfStmt (stmt 44) → WalkX q0 loose0 (XL q0 []) (Yf T0) (Ya T0 fnTab) R0.toRowW d [] fun f vs => PySem.call f vs) : PySem.Challenge.rw_pc0075_01.Holds := by
  obtain ⟨⟨d, kw⟩, hd⟩ := Option.isSome_iff_exists.mp dlaw_some
  have h1 := dlaw_def
  have h2 := dlaw_kw
  have h3 := dlaw_fn
  rw [hd] at h1 h2 h3
  simp only [Option.map_some, Option.some.injEq, Prod.mk.injEq] at h2
  obtain ⟨rfl, h2, h4⟩ := h2
  refine holds_law said0 fun said => ?_
  refine holds_openX (r := R0) (q := q0) (loose := loose0) (Xt := Xt0 q0) (XP := XL q0 []) (Yf := Yf T0) (Ya := Ya T0 fnTab) (d := d) (kwd := []) (N := 3000) left0 (fun s e => xl_of s (Bool.and_eq_true_iff.mp e).1) XL.keeps hd h1.symm h2 (fun s e => recFacts_of (Bool.and_eq_true_iff.mp e).2) rfl said chains0 ⟨rfl, rfl, rfl, rfl, rfl, by kernel_rfl⟩ ?_ (call d hd h4 h3)
  exact ⟨[.list []], by decide +kernel, by decide +kernel⟩
end Mine

end
section
open PySem PySem.W PySem.Calls PyProof.Rows PySem.Spec PySem.Builtin
namespace Mine
noncomputable def looseA : List Str := looseW q0 loose0 ++ (recsOf q0).map (·.name) ++ (litsOf q0).map (·.1) ++ (clssOf q0 (looseW q0 loose0)).map (·.name)
theorem read_of {mean : ExcName → Option Value} {mg mb : Str → Option Value} {h : Heap} (T : Top q0 (looseW q0 loose0) mean mg mb h) : TopRead P0 looseA mg mb h :=
  ⟨T.g, T.b, T.nolimit, T.builtins, fun x h1 h2 _ _ _ => by
    simp only [looseA, List.mem_append, not_or] at h2
    exact T.free x h1 h2.1.1.1 h2.1.1.2 h2.1.2 h2.2⟩

noncomputable def mkX (w : World) (K : Frag) (mg mb : Str → Option Value) (base : Heap) (nd : List Addr) (g : Array GenState) (dr : Drawn) (os : OsState) : Cx := ⟨P0, w, K, looseA, mg, mb, base, nd, g, dr, os, tops⟩

theorem fn_tab {a : Nat} {f : Fn} (h : tops.fn a = some f) : (a, some f) ∈ fnTab := by
  change (match lkN a fnTab with | some f => f | none => none) = some f at h
  split at h
  · rename_i g e
    subst h
    exact lkN_mem e
  · cases h
theorem all_sc : fnTab.all (fun p => match p.2 with | some f => scOk f | none => false) = true := by kernel_rfl

section
variable {w : World} {K : Frag} {mg mb : Str → Option Value} {base : Heap} {nd : List Addr} {g : Array GenState} {dr : Drawn} {os : OsState}
theorem sc_tab {a : Nat} {f : Fn} (h : (a, some f) ∈ fnTab) : scOk f = true := List.all_eq_true.mp all_sc _ h

theorem get_tab {a : Nat} {f : Fn} (e : fnsV T0 K = fnTab) (h : (a, some f) ∈ fnTab) : fnGet K a = some f ∧ a ∈ fnKeys := by
  rw [← e] at h
  obtain ⟨b, hb, q⟩ := List.mem_map.mp h
  obtain ⟨rfl, q2⟩ := Prod.mk.inj q
  exact ⟨q2, hb⟩

theorem obj_hash {a : Nat} {o : O} (e : hashV T0 K = hashE T0 w.params) (h : (a, o) ∈ objTab) : objHash (K.lookup a) = oHash w.params o := by
  exact (List.map_inj_left.mp e) (a, o) h

theorem ok_of (hc : chk T0 K = true) (hf : fnsV T0 K = fnTab) (hh : hashV T0 K = hashE T0 w.params) (hm : (K.lookup sysModules).isSome = true) (kin : K.In base) (TR : TopRead P0 looseA mg mb base) : Ok (mkX w K mg mb base nd g dr os) := by
  unfold chk at hc
  simp only [Bool.and_eq_true] at hc
  obtain ⟨⟨⟨⟨⟨⟨⟨⟨⟨⟨c1, c2⟩, c3⟩, c4⟩, c5⟩, c6⟩, c7⟩, c8⟩, c9⟩, c10⟩, c11⟩ := hc
  unfold keepAll at c6
  obtain ⟨c6a, c6b⟩ := Bool.and_eq_true_iff.mp c6
  refine ⟨kin, TR, fun x v h => glob_of (X := mkX w K mg mb base nd g dr os) c1 c2 x v h, fun a o h => ?_, ?_, fun C a h => (attr_of (X := mkX w K mg mb base nd g dr os) c4 h).1, fun C a h => (attr_of (X := mkX w K mg mb base nd g dr os) c4 h).2, fun C a f h => ?_, fun a h => ?_, fun a f h => ?_,
    node_of (X := mkX w K mg mb base nd g dr os) c8, fun C f h => ?_⟩
  · have hmem : (a, o) ∈ objTab := lkN_mem h
    have := List.all_eq_true.mp c3 _ hmem
    rw [Bool.and_eq_true, Bool.not_eq_true'] at this
    refine ⟨fun e => ?_, objChk_ok (X := mkX w K mg mb base nd g dr os) this.1 (obj_hash hh hmem)⟩
    have := this.2
    rw [show (a, o).1 = sysModules from e, Nat.beq_refl] at this
    cases this
  · obtain ⟨o, ho⟩ := Option.isSome_iff_exists.mp hm
    exact ⟨o, kin _ _ ho⟩
  · change (match Nat.beq C 369 with | true => lkS a methTab | false => none) = some f at h
    split at h
    · rename_i q
      cases Nat.eq_of_beq_eq_true q
      have := List.all_eq_true.mp c5 _ (lkS_mem h)
      unfold methChk at this
      simp only [Bool.and_eq_true, beq_iff_eq] at this
      obtain ⟨⟨⟨m1, m2⟩, m3⟩, m4⟩ := this
      exact ⟨m1, m2, m3, m4⟩
    · cases h
  · rcases h with h | h | h | h
    · obtain ⟨f, hf'⟩ := Option.isSome_iff_exists.mp h
      exact List.all_eq_true.mp c6a _ (get_tab hf (fn_tab hf')).2
    · obtain ⟨f, hf'⟩ := Option.isSome_iff_exists.mp h
      exact List.all_eq_true.mp c6b _ (lkN_mem hf')
    · subst h
      exact List.all_eq_true.mp c6a _ (by decide +kernel)
    · subst h
      exact List.all_eq_true.mp c6a _ (by decide +kernel)
  · have hmem := fn_tab h
    obtain ⟨hg, hk⟩ := get_tab hf hmem
    obtain ⟨name, qual, doc, pm, an, cdv, od, osl, oc, h1, h2⟩ := fn_of (List.all_eq_true.mp c7 _ hk) hg
    obtain ⟨s1, s2, s3, s4, s5, s6, s7⟩ := scOk_of (sc_tab hmem)
    exact ⟨name, qual, doc, pm, an, cdv, od, osl, oc, h1, h2, s1, s2, s3, s4, s5, s6, fun us hl => s7 name qual doc pm an cdv us hl⟩
  · have := List.all_eq_true.mp c9 _ (lkN_mem h)
    unfold initChk at this
    simp only [Bool.and_eq_true, beq_iff_eq] at this
    obtain ⟨⟨m1, m2⟩, m3⟩ := this
    exact ⟨m1, m2, m3⟩

theorem shape_fail : ∃ f, tops.fn 233 = some f ∧ FailFn f := ⟨_, rfl, ⟨rfl, ⟨_, _, _, _, _, _, rfl⟩, rfl, rfl⟩⟩
theorem shape_check : ∃ f, tops.fn 387 = some f ∧ CheckFn f := ⟨_, rfl, ⟨rfl, ⟨_, _, _, _, _, _, _, _, _, _, _, _, _, _, _, _, _, rfl⟩, rfl, rfl, rfl, rfl⟩⟩
noncomputable def InitFn (fn : Fn) (a1 a2 : Str) : Prop := fn.params.args.map (·.arg) = [("self" : Str), a1, a2] ∧ ∃ q1 q2 q3 q4 q5 q6 q7 q8 : Pos, fn.body = [.Assign [.Attribute (.Name "self" q1) a1 q2] (.Name a1 q3) q4, .Assign [.Attribute (.Name "self" q5) a2 q6] (.Name a2 q7) q8]
theorem shape_js : ∃ f, tops.fn 185 = some f ∧ InitFn f "kind" "text" := ⟨_, rfl, ⟨rfl, ⟨_, _, _, _, _, _, _, _, rfl⟩⟩⟩
theorem shape_sf : ∃ f, tops.fn 205 = some f ∧ InitFn f "text" "line" := ⟨_, rfl, ⟨rfl, ⟨_, _, _, _, _, _, _, _, rfl⟩⟩⟩
theorem js_of (hc : chk T0 K = true) : ∃ f, ExcCls (mkX w K mg mb base nd g dr os) 188 185 f "kind" "text" := by
  unfold chk at hc
  simp only [Bool.and_eq_true] at hc
  obtain ⟨f, h1, h2, h3⟩ := shape_js
  exact ⟨f, own_of (X := mkX w K mg mb base nd g dr os) hc.1.2 h1 h2 h3 (by decide)⟩
theorem sf_of (hc : chk T0 K = true) : ∃ f, ExcCls (mkX w K mg mb base nd g dr os) 208 205 f "text" "line" := by
  unfold chk at hc
  simp only [Bool.and_eq_true] at hc
  obtain ⟨f, h1, h2, h3⟩ := shape_sf
  exact ⟨f, own_of (X := mkX w K mg mb base nd g dr os) hc.2 h1 h2 h3 (by decide)⟩
theorem g_js : tops.glob "JSFail" = some (.top 188) := by kernel_rfl
theorem g_sf : tops.glob "SyntaxFail" = some (.top 208) := by kernel_rfl

theorem sound_of (hc : chk T0 K = true) (KO : Ok (mkX w K mg mb base nd g dr os)) (n : Nat) : Sound (mkX w K mg mb base nd g dr os) (run tops n) := by
  obtain ⟨f1, Z1⟩ := js_of (w := w) (mg := mg) (mb := mb) (base := base) (nd := nd) (g := g) (dr := dr) (os := os) hc
  obtain ⟨f2, Z2⟩ := sf_of (w := w) (mg := mg) (mb := mb) (base := base) (nd := nd) (g := g) (dr := dr) (os := os) hc
  obtain ⟨ff, e1, F1⟩ := shape_fail
  obtain ⟨fc, e2, F2⟩ := shape_check
  exact sound_run KO (fail_ok KO Z1 e1 F1 g_js) (check_ok KO Z1 Z2 e2 F2 g_js g_sf) n
end
end Mine

end
section
open PySem PySem.W PySem.Calls PyProof.Rows PySem.Spec PySem.Builtin
namespace Mine

/-! a state seen anew: fewer objects, other names for the same addresses -/
structure Ren where
  r : Nat → Option V
  n : Nat → Option V
noncomputable def Ren.v (f : Ren) : V → Option V
  | .ref i => f.r i
  | .nd i => f.n i
  | v => some v
noncomputable def Ren.vs (f : Ren) : List V → Option (List V)
  | [] => some []
  | v :: r => match f.v v with
    | some v => match f.vs r with
      | some r => some (v :: r)
      | none => none
    | none => none
noncomputable def Ren.es (f : Ren) : List (Str × V) → Option (List (Str × V))
  | [] => some []
  | p :: r => match f.v p.2 with
    | some v => match f.es r with
      | some r => some ((p.1, v) :: r)
      | none => none
    | none => none
noncomputable def Ren.o (f : Ren) : O → Option O
  | .list xs => match f.vs xs with
    | some xs => some (.list xs)
    | none => none
  | .tup xs => match f.vs xs with
    | some xs => some (.tup xs)
    | none => none
  | .inst C d => match f.r d with
    | some (.ref d) => some (.inst C d)
    | _ => none
  | .dict es => match f.es es with
    | some es => some (.dict es)
    | none => none
  | .rng b => some (.rng b)
structure RenOk (X X' : Cx) (as as' : List Addr) (f : Ren) : Prop where
  r : ∀ i v a, f.r i = some v → as[i]? = some a → VR X' as' v (.ref a)
  n : ∀ i v a, f.n i = some v → X.nd[i]? = some a → VR X' as' v (.ref a)
  w : X'.w = X.w
section
variable {X X' : Cx} {as as' : List Addr} {f : Ren}
theorem RenOk.v (k : RenOk X X' as as' f) {v v' : V} {u : Value} (e : f.v v = some v') (h : VR X as v u) : VR X' as' v' u := by
  cases v with
  | ref i => obtain ⟨a, ha, rfl⟩ := h; exact k.r i v' a e ha
  | nd i => obtain ⟨a, ha, rfl⟩ := h; exact k.n i v' a e ha
  | _ => cases e; exact h
theorem RenOk.vs (k : RenOk X X' as as' f) : ∀ {xs xs' : List V} {us : List Value}, f.vs xs = some xs' → F2 (VR X as) xs us → F2 (VR X' as') xs' us
  | [], _, _, e, .nil => by cases e; exact .nil
  | x :: xs, _, _, e, .cons h t => by
    unfold Ren.vs at e
    split at e
    · rename_i v hv
      split at e
      · rename_i r hr
        cases e
        exact .cons (k.v hv h) (k.vs hr t)
      · cases e
    · cases e
theorem RenOk.es (k : RenOk X X' as as' f) : ∀ {xs xs' : List (Str × V)} {us : List DictEntry}, f.es xs = some xs' → F2 (ER X as) xs us → F2 (ER X' as') xs' us
  | [], _, _, e, .nil => by cases e; exact .nil
  | x :: xs, _, _, e, .cons h t => by
    unfold Ren.es at e
    split at e
    · rename_i v hv
      split at e
      · rename_i r hr
        cases e
        exact .cons ⟨h.1, by rw [k.w]; exact h.2.1, k.v hv h.2.2⟩ (k.es hr t)
      · cases e
    · cases e
theorem Ren.vs_app (f : Ren) : ∀ {xs ys xs' ys' : List V}, f.vs xs = some xs' → f.vs ys = some ys' → f.vs (xs ++ ys) = some (xs' ++ ys')
  | [], _, _, _, e, h => by cases e; exact h
  | x :: xs, ys, _, _, e, h => by
    unfold Ren.vs at e
    split at e
    · rename_i v hv
      split at e
      · rename_i r hr
        cases e
        show f.vs (x :: (xs ++ ys)) = _
        unfold Ren.vs
        rw [hv, Ren.vs_app f hr h]; rfl
      · cases e
    · cases e
theorem Ren.vs_rev (f : Ren) : ∀ {xs xs' : List V}, f.vs xs = some xs' → f.vs xs.reverse = some xs'.reverse
  | [], _, e => by cases e; rfl
  | x :: xs, _, e => by
    unfold Ren.vs at e
    split at e
    · rename_i v hv
      split at e
      · rename_i r hr
        cases e
        rw [List.reverse_cons, List.reverse_cons]
        refine f.vs_app (f.vs_rev hr) ?_
        unfold Ren.vs
        rw [hv]; rfl
      · cases e
    · cases e
theorem RenOk.o (k : RenOk X X' as as' f) {o o' : O} {ob : Obj} (e : f.o o = some o') (h : OR X as o ob) : OR X' as' o' ob := by
  cases o with
  | list xs =>
    unfold Ren.o at e
    dsimp only at e
    split at e
    · rename_i ys hx
      cases e
      obtain ⟨us, n, rfl, g⟩ := h
      exact ⟨us, n, rfl, k.vs (f.vs_rev hx) g⟩
    · cases e
  | tup xs =>
    unfold Ren.o at e
    dsimp only at e
    split at e
    · rename_i ys hx
      cases e
      obtain ⟨us, n, rfl, g⟩ := h
      exact ⟨us, n, rfl, k.vs hx g⟩
    · cases e
  | inst C d =>
    unfold Ren.o at e
    dsimp only at e
    split at e
    · rename_i d' hd
      cases e
      obtain ⟨dx, h1, rfl⟩ := h
      obtain ⟨a, h2, h3⟩ := k.r d _ dx hd h1
      cases h3
      exact ⟨dx, h2, rfl⟩
    · cases e
  | dict es =>
    unfold Ren.o at e
    dsimp only at e
    split at e
    · rename_i ys hx
      cases e
      obtain ⟨us, n, rfl, g⟩ := h
      exact ⟨us, n, rfl, k.es hx g⟩
    · cases e
  | rng b => cases e; exact h

noncomputable def pick {α : Type} (l : List α) : List Nat → List α
  | [] => []
  | i :: r => match l[i]? with
    | some a => a :: pick l r
    | none => pick l r
noncomputable def incr (n : Nat) : List Nat → Bool
  | [] => true
  | i :: r => Nat.ble n i && incr (i + 1) r
theorem pick_sub {α : Type} : ∀ {l : List α} {idx : List Nat} {n : Nat}, incr n idx = true → (pick l idx).Sublist (l.drop n)
  | _, [], _, _ => List.nil_sublist _
  | l, i :: r, n, h => by
    obtain ⟨h1, h2⟩ := Bool.and_eq_true_iff.mp h
    have h1 := Nat.le_of_ble_eq_true h1
    unfold pick
    have ih := pick_sub (l := l) h2
    split
    · rename_i a ha
      have hlt := (List.getElem?_eq_some_iff.mp ha).1
      have : l.drop i = a :: l.drop (i + 1) := by
        rw [List.drop_eq_getElem_cons hlt, (List.getElem?_eq_some_iff.mp ha).2]
      have s1 : (a :: pick l r).Sublist (l.drop i) := by rw [this]; exact ih.cons_cons a
      refine List.Sublist.trans s1 ?_
      exact List.drop_sublist_drop_left l h1
    · refine List.Sublist.trans ih (List.drop_sublist_drop_left l (by omega))
theorem pick_map {α β : Type} (g : α → β) (l : List α) : ∀ idx : List Nat, (pick l idx).map g = pick (l.map g) idx
  | [] => rfl
  | i :: r => by
    unfold pick
    rw [List.getElem?_map]
    cases l[i]? with
    | none => exact pick_map g l r
    | some a => show g a :: _ = g a :: _; rw [pick_map g l r]
/-- the chosen objects under their new names -/
noncomputable def selH (f : Ren) (H : List O) : List Nat → Option (List O)
  | [] => some []
  | i :: r => match H[i]? with
    | some o => match f.o o with
      | some o => match selH f H r with
        | some l => some (o :: l)
        | none => none
      | none => none
    | none => none
theorem selH_ok (k : RenOk X X' as as' f) {H : List O} {objs : List (Addr × Obj)} (h : F2 (fun O p => OR X as O p.2) H objs) : ∀ {idx : List Nat} {H' : List O}, selH f H idx = some H' → F2 (fun O p => OR X' as' O p.2) H' (pick objs idx)
  | [], _, e => by cases e; exact .nil
  | i :: r, _, e => by
    unfold selH at e
    split at e
    · rename_i o ho
      split at e
      · rename_i o' ho'
        split at e
        · rename_i l hl
          cases e
          obtain ⟨p, hp, q⟩ := h.get ho
          unfold pick
          rw [hp]
          exact .cons (k.o ho' q) (selH_ok k h hl)
        · cases e
      · cases e
    · cases e

/-- the map to places among the chosen -/
noncomputable def posIn (i : Nat) : List Nat → Nat → Option V
  | [], _ => none
  | j :: r, n => match Nat.beq j i with
    | true => some (.ref n)
    | false => posIn i r (n + 1)
theorem posIn_ok {as : List Addr} {i : Nat} {a : Addr} (ha : as[i]? = some a) : ∀ {idx : List Nat} {n : Nat} {v : V}, (∀ j ∈ idx, j < as.length) → posIn i idx n = some v → ∃ k, v = .ref (n + k) ∧ (pick as idx)[k]? = some a
  | [], _, _, _, e => by cases e
  | j :: r, n, v, hj, e => by
    unfold posIn at e
    have hlt := hj j (.head _)
    have hp : pick as (j :: r) = as[j] :: pick as r := by
      rw [pick, List.getElem?_eq_getElem hlt]
    split at e
    · rename_i q
      cases e
      cases Nat.eq_of_beq_eq_true q
      refine ⟨0, rfl, ?_⟩
      rw [hp, List.getElem?_cons_zero, ← ha, List.getElem?_eq_getElem hlt]
    · obtain ⟨k, rfl, h⟩ := posIn_ok ha (fun j h => hj j (.tail _ h)) e
      refine ⟨k + 1, by rw [show n + (k + 1) = n + 1 + k by omega], ?_⟩
      rw [hp, List.getElem?_cons_succ]; exact h

structure Same (X X' : Cx) : Prop where
  w : X'.w = X.w
  g : X'.g = X.g
  dr : X'.dr = X.dr
  os : X'.os = X.os
noncomputable def selL (f : Ren) (loc : List (Str × V)) : List Str → Option (List (Str × V))
  | [] => some []
  | x :: r => match lk x loc with
    | some v => match f.v v with
      | some v => match selL f loc r with
        | some l => some ((x, v) :: l)
        | none => none
      | none => none
    | none => none
theorem selL_ok {f : Ren} {loc : List (Str × V)} : ∀ {ks : List Str} {loc' : List (Str × V)}, selL f loc ks = some loc' → ∀ x v', lk x loc' = some v' → ∃ v, lk x loc = some v ∧ f.v v = some v'
  | [], _, e, x, v', h => by cases e; cases h
  | k :: r, _, e, x, v', h => by
    unfold selL at e
    split at e
    · rename_i v hv
      split at e
      · rename_i v2 hv2
        split at e
        · rename_i l hl
          cases e
          unfold lk at h
          split at h
          · rename_i q
            cases h
            cases eqS_iff.mp q
            exact ⟨v, hv, hv2⟩
          · exact selL_ok hl x v' h
        · cases e
      · cases e
    · cases e
/-- the chosen places and names alone, places counted anew -/
noncomputable def recast (fn : Nat → Option V) (idx : List Nat) (ks : List Str) (c : C) : Option C :=
  match incr 0 idx && idx.all (fun j => Nat.blt j c.H.length) with
  | true => match selH ⟨fun i => posIn i idx 0, fn⟩ c.H idx with
    | some H => match selL ⟨fun i => posIn i idx 0, fn⟩ c.loc ks with
      | some loc => some ⟨H, loc⟩
      | none => none
    | none => none
  | false => none
variable {h₀ : Heap} {L : Addr} {rest rest' : List (Addr × Obj)} {c c' : C} {s : Shared}
theorem St.recast {fn : Nat → Option V} {idx : List Nat} {ks : List Str} (h : recast fn idx ks c = some c') (S : St X h₀ L rest as c s) (hs : Same X X') (hn : ∀ i v a, fn i = some v → X.nd[i]? = some a → VR X' (pick as idx) v (.ref a)) (hr : rest'.Sublist rest) (nds : NdOk X' rest') :
    St X' h₀ L rest' (pick as idx) c' s := by
  unfold Mine.recast at h
  split at h
  · rename_i hg
    obtain ⟨h1, h2⟩ := Bool.and_eq_true_iff.mp hg
    split at h
    · rename_i H' hH'
      split at h
      · rename_i loc' hloc'
        cases h
        obtain ⟨m, objs, F, N, nd, hH, hL⟩ := S.ex
        have hlen : as.length = c.H.length := by rw [← hH.1, List.length_map]; exact hH.2.length.symm
        have hlt : ∀ j ∈ idx, j < as.length := fun j hj => by
          have := List.all_eq_true.mp h2 j hj
          rw [hlen]
          exact Nat.lt_of_lt_of_le (Nat.lt_succ_self j) (Nat.le_of_ble_eq_true this)
        have k : RenOk X X' as (pick as idx) ⟨fun i => posIn i idx 0, fn⟩ := ⟨fun i v a e ha => by
          obtain ⟨k, rfl, hk⟩ := posIn_ok ha hlt e
          exact ⟨a, by rw [Nat.zero_add]; exact hk, rfl⟩, hn, hs.w⟩
        have sub : (pick objs idx ++ rest').Sublist (objs ++ rest) := List.Sublist.append (by have := pick_sub (l := objs) h1; rwa [List.drop_zero] at this) hr
        refine ⟨⟨m, pick objs idx, F, fun p hp => N p (sub.subset hp), (sub.map _).nodup nd, ⟨by rw [pick_map, hH.1], selH_ok k hH.2 hH'⟩, fun x v e => ?_⟩, nds, by rw [hs.g, hs.dr, hs.os]; exact S.sh⟩
        obtain ⟨v0, e1, e2⟩ := selL_ok hloc' x v e
        obtain ⟨u, e3, e4⟩ := hL x v0 e1
        exact ⟨u, e3, k.v e2 e4⟩
      · cases h
    · cases h
  · cases h

theorem f2_drop {α β : Type} {R : α → β → Prop} : ∀ (n : Nat) {x : List α} {y : List β}, F2 R x y → F2 R (x.drop n) (y.drop n)
  | 0, _, _, h => h
  | n + 1, _, _, .nil => .nil
  | n + 1, _, _, .cons _ t => f2_drop n t
theorem f2_take {α β : Type} {R : α → β → Prop} : ∀ (n : Nat) {x : List α} {y : List β}, F2 R x y → F2 R (x.take n) (y.take n)
  | 0, _, _, _ => .nil
  | n + 1, _, _, .nil => .nil
  | n + 1, _, _, .cons r t => .cons r (f2_take n t)
theorem f2_via {R R' : O → Obj → Prop} : ∀ {x x' : List O} {y : List (Addr × Obj)}, F2 (fun O p => R O p.2) x y → F2 (fun O O' => ∀ ob, R O ob → R' O' ob) x x' → F2 (fun O p => R' O p.2) x' y
  | _, _, _, .nil, .nil => .nil
  | _, _, _, .cons r t, .cons q u => .cons (q _ r) (f2_via t u)

/-- objects put aside: they stay as they are -/
theorem St.stash (S : St X h₀ L rest as c s) (n : Nat) : ∃ T, as = as.take n ++ T.map (·.1) ∧ F2 (fun O p => OR X as O p.2) (c.H.drop n) T ∧
    (∀ {X' : Cx} {H' : List O} {loc' : List (Str × V)}, Same X X' → F2 (fun O O' => ∀ ob, OR X as O ob → OR X' (as.take n) O' ob) (c.H.take n) H' → (∀ x v', lk x loc' = some v' → ∃ v, lk x c.loc = some v ∧ ∀ u, VR X as v u → VR X' (as.take n) v' u) → NdOk X' (T ++ rest) → St X' h₀ L (T ++ rest) (as.take n) ⟨H', loc'⟩ s) := by
  obtain ⟨m, objs, F, N, nd, hH, hL⟩ := S.ex
  refine ⟨objs.drop n, ?_, ?_, fun {X' H' loc'} hs h1 h2 nds => ?_⟩
  · rw [← hH.1, ← List.map_take, ← List.map_append, List.take_append_drop]
  · exact f2_drop n hH.2
  · have e : objs.take n ++ (objs.drop n ++ rest) = objs ++ rest := by rw [← List.append_assoc, List.take_append_drop]
    refine ⟨⟨m, objs.take n, F, by rw [e]; exact N, by rw [e]; exact nd, ⟨by rw [List.map_take, hH.1], ?_⟩, fun x v q => ?_⟩, nds, by rw [hs.g, hs.dr, hs.os]; exact S.sh⟩
    · exact f2_via (f2_take n hH.2) h1
    · obtain ⟨v0, e1, e2⟩ := h2 x v q
      obtain ⟨u, e3, e4⟩ := hL x v0 e1
      exact ⟨u, e3, e2 u e4⟩

/-- objects taken up again -/
theorem St.fetch {T : List (Addr × Obj)} {H' HT : List O} {loc' : List (Str × V)} (S : St X h₀ L (T ++ rest) as c s) (hs : Same X X') (h1 : F2 (fun O O' => ∀ ob, OR X as O ob → OR X' (as ++ T.map (·.1)) O' ob) c.H H') (hT : F2 (fun O p => OR X' (as ++ T.map (·.1)) O p.2) HT T)
    (h2 : ∀ x v', lk x loc' = some v' → ∃ v, lk x c.loc = some v ∧ ∀ u, VR X as v u → VR X' (as ++ T.map (·.1)) v' u) (nds : NdOk X' rest) : St X' h₀ L rest (as ++ T.map (·.1)) ⟨H' ++ HT, loc'⟩ s := by
  obtain ⟨m, objs, F, N, nd, hH, hL⟩ := S.ex
  refine ⟨⟨m, objs ++ T, F, by rw [List.append_assoc]; exact N, by rw [List.append_assoc]; exact nd, ⟨by rw [List.map_append, hH.1], ?_⟩, fun x v q => ?_⟩, nds, by rw [hs.g, hs.dr, hs.os]; exact S.sh⟩
  · exact F2.append (f2_via hH.2 h1) hT
  · obtain ⟨v0, e1, e2⟩ := h2 x v q
    obtain ⟨u, e3, e4⟩ := hL x v0 e1
    exact ⟨u, e3, e2 u e4⟩
end
end Mine

end
section
open PySem PySem.W PySem.Calls PyProof.Rows PySem.Spec PySem.Builtin
namespace Mine
noncomputable def noFn : Fn := ⟨⟨[], [], none, [], [], none, []⟩, [], sc0⟩
noncomputable def noSt : PySem.Stmt := .Return none default
noncomputable def lawF : Fn := (fnOfStmt (stmt 44)).getD noFn
noncomputable def cpF : Fn := (fnOfStmt (stmt 40)).getD noFn
noncomputable def lawS (k : Nat) : PySem.Stmt := (lawF.body[k]?).getD noSt
noncomputable def forTg : PySem.Expr := match lawS 2 with
  | .For t _ _ _ _ => t
  | _ => .Name "" default
noncomputable def forIt : PySem.Expr := match lawS 2 with
  | .For _ i _ _ _ => i
  | _ => .Name "" default
noncomputable def forB : List PySem.Stmt := match lawS 2 with
  | .For _ _ b _ _ => b
  | _ => []
noncomputable def forS (k : Nat) : PySem.Stmt := (forB[k]?).getD noSt
/-- the argument of check_patterns in the try's body -/
noncomputable def progE : PySem.Expr := match lawS 3 with
  | .Try [.Expr (.Call _ [a] _ _) _] _ _ _ _ => a
  | _ => .Name "" default
noncomputable def cpS (k : Nat) : PySem.Stmt := (cpF.body[k]?).getD noSt
noncomputable def whT : PySem.Expr := match cpS 1 with
  | .While q _ _ _ => q
  | _ => .Name "" default
noncomputable def whB : List PySem.Stmt := match cpS 1 with
  | .While _ b _ _ => b
  | _ => []

noncomputable def rd : Rec := run tops 160
noncomputable def dL : Nat := 36
noncomputable def dC : Nat := 35
noncomputable def keepN : Nat → Option V := fun i => some (.nd i)
noncomputable def runC (fn : Nat → Option V) (d : Nat) (sc : Scope) (tk : T) (c : C) (idx : List Nat) (ks : List Str) : Option C := match rd d sc tk c with
  | some (.ok .n c) => recast fn idx ks c
  | _ => none

noncomputable def cellsV (k b0 b1 b2 b3 d0 d1 d2 d3 : Nat) : List V := [.cg 8 d3, .cg 8 d2, .cg 8 d1, .cg 8 d0, .cg 17 b3, .cg 17 b2, .cg 17 b1, .cg 17 b0, .cg 3 k]
noncomputable def pats : List Bool := [true, false, true, false, false, true, true, false, false, true, false, false, true, false, false, true, false]
noncomputable def txOf (j : Nat) : Str := ((texts[j]?).getD ("", "")).1
noncomputable def flOf (j : Nat) : Str := ((texts[j]?).getD ("", "")).2
noncomputable def ipOf (j : Nat) : Bool := (pats[j]?).getD false
noncomputable def loc0 (D : V) : List (Str × V) := [("cells", .ref 0), ("body", .ref 1), ("due", D)]
noncomputable def ks0 : List Str := ["cells", "body", "due"]
noncomputable def loc1 (D : V) (at_ : Nat) : List (Str × V) := [("cells", .ref 0), ("body", .ref 1), ("due", D), ("at", .int at_)]
noncomputable def loc2 (D : V) (at_ : Nat) (tx fl : Str) (ip : Bool) : List (Str × V) := [("cells", .ref 0), ("body", .ref 1), ("due", D), ("at", .int at_), ("text", .str tx), ("flags", .str fl), ("is_pattern", .bool ip)]
noncomputable def ks2 : List Str := ["cells", "body", "due", "at", "text", "flags", "is_pattern"]

/-- the tree's objects, made behind two others: by its form and its line -/
noncomputable def TBf (f : Nat) (ln : Int) (tx fl : Str) : List O := match rd dL lawF.scope (.call 408 [.int f, .ref 4]) ⟨[.list [], .list [], .list [.str fl, .str tx], .dict [("kind", .str "Regex"), ("line", .int ln), ("parts", .ref 2), ("scope", .none)], .inst 31 3], []⟩ with
  | some (.ok _ c) => c.H.drop 2
  | _ => []
noncomputable def TB (at_ d : Nat) (tx fl : Str) : List O := TBf ((at_ + d) % 8) (10 * at_ + 10) tx fl
noncomputable def shiftR : Ren := ⟨fun i => match i with
  | i + 2 => some (.ref (i + 1))
  | _ => none, fun _ => none⟩
noncomputable def mapO (f : Ren) : List O → Option (List O)
  | [] => some []
  | o :: r => match f.o o with
    | some o => match mapO f r with
      | some l => some (o :: l)
      | none => none
    | none => none
noncomputable def TBs (at_ d : Nat) (tx fl : Str) : Option (List O) := mapO shiftR (TB at_ d tx fl)
noncomputable def TBfs (f : Nat) (ln : Int) (tx fl : Str) : Option (List O) := mapO shiftR (TBf f ln tx fl)

noncomputable def wloc : List (Str × V) := [("waiting", .ref 0)]
noncomputable def turn (c : C) : Option C := match rd dC cpF.scope (.tr whT) c with
  | some (.ok (.b true) c) => match rd dC cpF.scope (.sts whB) c with
    | some (.ok .n c) => some c
    | _ => none
  | _ => none
noncomputable def isRegex (c : C) : Option (List Nat) := match c.H with
  | .list (.ref x :: _) :: _ => match c.H[x]? with
    | some (.inst _ d) => match c.H[d]? with
      | some (.dict es) => match lk "kind" es, lk "parts" es with
        | some (.str k), some (.ref p) => match eqS k "Regex" with
          | true => some [0, p, d, x]
          | false => none
        | _, _ => none
      | _ => none
    | _ => none
  | _ => none
noncomputable def seek : Nat → C → Option C
  | 0, _ => none
  | n + 1, c => match isRegex c with
    | some idx => recast keepN idx ["waiting"] c
    | none => match turn c with
      | some c => seek n c
      | none => none
noncomputable def tail (n : Nat) : List V := (List.range n).map .nd
noncomputable def RC (n : Nat) (ln : Int) (tx fl : Str) : C := ⟨[.list (.ref 3 :: tail n), .list [.str fl, .str tx], .dict [("kind", .str "Regex"), ("line", .int ln), ("parts", .ref 1), ("scope", .none)], .inst 31 2], wloc⟩
inductive Fin where
  | ok (c : C) | no (es : List (Str × V))
noncomputable def fin (l : List Addr) (c : C) : Option Fin := match rd dC cpF.scope (.tr whT) c with
  | some (.ok (.b true) c) => match rd dC cpF.scope (.sts whB) c with
    | some (.ok .n c) => (recast (fun j => (l[j]?).map .top) [0] ["waiting"] c).map .ok
    | some (.exc 208 dd c) => match c.H[dd]? with
      | some (.dict es) => match Ren.es ⟨fun _ => none, fun _ => none⟩ es with
        | some es => some (.no es)
        | none => none
      | _ => none
    | _ => none
  | _ => none
/-- check_patterns from its start to the end of the first turn -/
noncomputable def progRun (l : List Addr) (c : C) : Option C := match rd dC cpF.scope (.st (cpS 0)) c with
  | some (.ok .n c) => match turn c with
    | some c => recast (fun j => (l[j]?).map .top) [4] ["waiting"] c
    | none => none
  | _ => none
end Mine

end
section
open PySem PySem.W PySem.Calls PyProof.Rows PySem.Spec PySem.Builtin
namespace Mine
theorem e1 (k b0 b1 b2 b3 d0 d1 d2 d3 : Nat) : runC keepN dL lawF.scope (.st (lawS 1)) ⟨[.list (cellsV k b0 b1 b2 b3 d0 d1 d2 d3)], [("cells", .ref 0)]⟩ [0, 1] ks0 = some ⟨[.list (cellsV k b0 b1 b2 b3 d0 d1 d2 d3), .list []], loc0 .none⟩ := by kernel_rfl
theorem eF (k b0 b1 b2 b3 d0 d1 d2 d3 : Nat) (hk : k < 3) : rd dL lawF.scope (.ex forIt) ⟨[.list (cellsV k b0 b1 b2 b3 d0 d1 d2 d3), .list []], loc0 .none⟩ = some (.ok (.v (.ref 2)) ⟨[.list (cellsV k b0 b1 b2 b3 d0 d1 d2 d3), .list [], .rng (2 + k)], loc0 .none⟩) := by
  iterate 3 (rcases k with _ | k; (· kernel_rfl))
  omega

noncomputable def DOk (D : V) : Prop := D = .none ∨ ∃ z, D = .int z
noncomputable def sel4 {α : Type} (n : Nat) (a b c d : α) : α := match n with
  | 0 => a
  | 1 => b
  | 2 => c
  | _ => d
noncomputable def PA (at_ : Nat) (xs : List V) (D : V) : Prop := ∀ (r k b0 b1 b2 b3 d0 d1 d2 d3 : Nat), sel4 at_ b0 b1 b2 b3 = r → r < 17 →
  runC keepN dL lawF.scope (.st (forS 0)) ⟨[.list (cellsV k b0 b1 b2 b3 d0 d1 d2 d3), .list xs], loc1 D at_⟩ [0, 1] ks2 =
    some ⟨[.list (cellsV k b0 b1 b2 b3 d0 d1 d2 d3), .list xs], loc2 D at_ (txOf ((3 * at_ + r) % 17)) (flOf ((3 * at_ + r) % 17)) (ipOf ((3 * at_ + r) % 17))⟩
theorem eA0 {D : V} (hD : DOk D) : PA 0 [] D := by
  intro r k b0 b1 b2 b3 d0 d1 d2 d3 h hr
  change b0 = r at h
  subst h
  rcases hD with rfl | ⟨z, rfl⟩ <;> ((iterate 17 (rcases b0 with _ | b0; (· kernel_rfl))); omega)
theorem eA1 (y0 : Nat) {D : V} (hD : DOk D) : PA 1 [.top y0] D := by
  intro r k b0 b1 b2 b3 d0 d1 d2 d3 h hr
  change b1 = r at h
  subst h
  rcases hD with rfl | ⟨z, rfl⟩ <;> ((iterate 17 (rcases b1 with _ | b1; (· kernel_rfl))); omega)
theorem eA2 (y0 y1 : Nat) {D : V} (hD : DOk D) : PA 2 [.top y0, .top y1] D := by
  intro r k b0 b1 b2 b3 d0 d1 d2 d3 h hr
  change b2 = r at h
  subst h
  rcases hD with rfl | ⟨z, rfl⟩ <;> ((iterate 17 (rcases b2 with _ | b2; (· kernel_rfl))); omega)
theorem eA3 (y0 y1 y2 : Nat) {D : V} (hD : DOk D) : PA 3 [.top y0, .top y1, .top y2] D := by
  intro r k b0 b1 b2 b3 d0 d1 d2 d3 h hr
  change b3 = r at h
  subst h
  rcases hD with rfl | ⟨z, rfl⟩ <;> ((iterate 17 (rcases b3 with _ | b3; (· kernel_rfl))); omega)
theorem eA {at_ : Nat} (h4 : at_ < 4) {ys : List Nat} (hy : ys.length = at_) {D : V} (hD : DOk D) : PA at_ (ys.map .top) D := by
  subst hy
  rcases ys with _ | ⟨y0, _ | ⟨y1, _ | ⟨y2, _ | ⟨y3, ys⟩⟩⟩⟩
  · exact eA0 hD
  · exact eA1 y0 hD
  · exact eA2 y0 y1 hD
  · exact eA3 y0 y1 y2 hD
  · exfalso
    simp only [List.length_cons] at h4
    omega
noncomputable def PB (at_ : Nat) (xs : List V) (D : V) : Prop := ∀ (r k b0 b1 b2 b3 d0 d1 d2 d3 : Nat) (tx fl : Str) (ip : Bool), sel4 at_ d0 d1 d2 d3 = r → r < 8 →
  rd dL lawF.scope (.st (forS 1)) ⟨[.list (cellsV k b0 b1 b2 b3 d0 d1 d2 d3), .list xs], loc2 D at_ tx fl ip⟩ =
    some (.ok .n ⟨[.list (cellsV k b0 b1 b2 b3 d0 d1 d2 d3), .list (.ref ((TB at_ r tx fl).length + 1) :: xs)] ++ TB at_ r tx fl, loc2 D at_ tx fl ip⟩)
theorem eB0 (D : V) : PB 0 [] D := by
  intro r k b0 b1 b2 b3 d0 d1 d2 d3 tx fl ip h hr
  change d0 = r at h
  subst h
  (iterate 8 (rcases d0 with _ | d0; (· kernel_rfl))); omega
theorem eB1 (y0 : Nat) (D : V) : PB 1 [.top y0] D := by
  intro r k b0 b1 b2 b3 d0 d1 d2 d3 tx fl ip h hr
  change d1 = r at h
  subst h
  (iterate 8 (rcases d1 with _ | d1; (· kernel_rfl))); omega
theorem eB2 (y0 y1 : Nat) (D : V) : PB 2 [.top y0, .top y1] D := by
  intro r k b0 b1 b2 b3 d0 d1 d2 d3 tx fl ip h hr
  change d2 = r at h
  subst h
  (iterate 8 (rcases d2 with _ | d2; (· kernel_rfl))); omega
theorem eB3 (y0 y1 y2 : Nat) (D : V) : PB 3 [.top y0, .top y1, .top y2] D := by
  intro r k b0 b1 b2 b3 d0 d1 d2 d3 tx fl ip h hr
  change d3 = r at h
  subst h
  (iterate 8 (rcases d3 with _ | d3; (· kernel_rfl))); omega
theorem eB {at_ : Nat} (h4 : at_ < 4) {ys : List Nat} (hy : ys.length = at_) (D : V) : PB at_ (ys.map .top) D := by
  subst hy
  rcases ys with _ | ⟨y0, _ | ⟨y1, _ | ⟨y2, _ | ⟨y3, ys⟩⟩⟩⟩
  · exact eB0 D
  · exact eB1 y0 D
  · exact eB2 y0 y1 D
  · exact eB3 y0 y1 y2 D
  · exfalso
    simp only [List.length_cons] at h4
    omega
noncomputable def dueNext (at_ : Nat) (ip : Bool) (D : V) : V := match ip with
  | true => D
  | false => match D with
    | .none => .int (10 * at_ + 10)
    | D => D
theorem eC {at_ : Nat} (h4 : at_ < 4) {ys : List Nat} (hy : ys.length = at_ + 1) {D : V} (hD : DOk D) (k b0 b1 b2 b3 d0 d1 d2 d3 : Nat) (tx fl : Str) (ip : Bool) :
    runC keepN dL lawF.scope (.st (forS 2)) ⟨[.list (cellsV k b0 b1 b2 b3 d0 d1 d2 d3), .list (ys.map .top)], loc2 D at_ tx fl ip⟩ [0, 1] ks0 = some ⟨[.list (cellsV k b0 b1 b2 b3 d0 d1 d2 d3), .list (ys.map .top)], loc0 (dueNext at_ ip D)⟩ := by
  rcases ys with _ | ⟨y0, _ | ⟨y1, _ | ⟨y2, _ | ⟨y3, _ | ⟨y4, ys⟩⟩⟩⟩⟩
  · cases hy
  · cases hy
    rcases hD with rfl | ⟨z, rfl⟩ <;> cases ip <;> kernel_rfl
  · cases hy
    rcases hD with rfl | ⟨z, rfl⟩ <;> cases ip <;> kernel_rfl
  · cases hy
    rcases hD with rfl | ⟨z, rfl⟩ <;> cases ip <;> kernel_rfl
  · cases hy
    rcases hD with rfl | ⟨z, rfl⟩ <;> cases ip <;> kernel_rfl
  · exfalso
    simp only [List.length_cons] at hy
    omega
theorem dueNext_ok {at_ : Nat} {ip : Bool} {D : V} (hD : DOk D) : DOk (dueNext at_ ip D) := by
  rcases hD with rfl | ⟨z, rfl⟩ <;> cases ip
  · exact .inr ⟨_, rfl⟩
  · exact .inl rfl
  · exact .inr ⟨z, rfl⟩
  · exact .inr ⟨z, rfl⟩

/-! the tree: its root stands last; shifted by one it is as before; the way to its regular expression -/
noncomputable def rootOk (H : List O) : Bool := match H.getLast? with
  | some (.inst C (d + 2)) => Nat.beq C 31 && Nat.blt d H.length
  | _ => false
theorem eTf {f : Nat} (hf : f < 8) (ln : Int) (tx fl : Str) : rootOk (TBf f ln tx fl) = true := by
  iterate 8 (rcases f with _ | f; (· kernel_rfl))
  omega
theorem eT {at_ d : Nat} (tx fl : Str) : rootOk (TB at_ d tx fl) = true := eTf (Nat.mod_lt _ (by decide)) _ tx fl
noncomputable def PSf (f n : Nat) (ln : Int) (tx fl : Str) : Option C := match TBfs f ln tx fl with
  | some H => seek 12 ⟨.list (.ref H.length :: tail n) :: H, wloc⟩
  | none => none
theorem eS0 {f : Nat} (hf : f < 8) (ln : Int) (tx fl : Str) : PSf f 0 ln tx fl = some (RC 0 ln tx fl) := by
  iterate 8 (rcases f with _ | f; (· kernel_rfl))
  omega
theorem eS1 {f : Nat} (hf : f < 8) (ln : Int) (tx fl : Str) : PSf f 1 ln tx fl = some (RC 1 ln tx fl) := by
  iterate 8 (rcases f with _ | f; (· kernel_rfl))
  omega
theorem eS2 {f : Nat} (hf : f < 8) (ln : Int) (tx fl : Str) : PSf f 2 ln tx fl = some (RC 2 ln tx fl) := by
  iterate 8 (rcases f with _ | f; (· kernel_rfl))
  omega
theorem eS3 {f : Nat} (hf : f < 8) (ln : Int) (tx fl : Str) : PSf f 3 ln tx fl = some (RC 3 ln tx fl) := by
  iterate 8 (rcases f with _ | f; (· kernel_rfl))
  omega
noncomputable def PS (at_ d n : Nat) (tx fl : Str) : Option C := match TBs at_ d tx fl with
  | some H => seek 12 ⟨.list (.ref H.length :: tail n) :: H, wloc⟩
  | none => none
theorem eS {at_ d n : Nat} (hn : n < 4) (tx fl : Str) : PS at_ d n tx fl = some (RC n (10 * at_ + 10) tx fl) := by
  have hf : (at_ + d) % 8 < 8 := Nat.mod_lt _ (by decide)
  rcases n with _ | _ | _ | _ | n
  · exact eS0 hf _ tx fl
  · exact eS1 hf _ tx fl
  · exact eS2 hf _ tx fl
  · exact eS3 hf _ tx fl
  · omega
theorem eE : rd dC cpF.scope (.wh whT whB) ⟨[.list []], wloc⟩ = some (.ok .n ⟨[.list []], wloc⟩) := by kernel_rfl
theorem eP {l : List Nat} (h : 2 ≤ l.length) (h2 : l.length < 5) {D : V} (hD : DOk D) : rd dL lawF.scope (.ex progE) ⟨[.list (tail l.length).reverse], [("body", .ref 0), ("due", D)]⟩ =
    some (.ok (.v (.ref 3)) ⟨[.list (tail l.length).reverse, .list [.bool false, .ref 0], .dict [("kind", .str "Program"), ("line", .int 1), ("parts", .ref 1), ("scope", .none)], .inst 31 2], [("body", .ref 0), ("due", D)]⟩) := by
  generalize l.length = n at h h2
  rcases n with _ | _ | _ | _ | _ | n
  · omega
  · omega
  · rcases hD with rfl | ⟨z, rfl⟩ <;> kernel_rfl
  · rcases hD with rfl | ⟨z, rfl⟩ <;> kernel_rfl
  · rcases hD with rfl | ⟨z, rfl⟩ <;> kernel_rfl
  · omega
theorem eQ {l : List Nat} (h : 2 ≤ l.length) (h2 : l.length < 5) : progRun l ⟨[.list (tail l.length).reverse, .list [.bool false, .ref 0], .dict [("kind", .str "Program"), ("line", .int 1), ("parts", .ref 1), ("scope", .none)], .inst 31 2], [("program", .ref 3)]⟩ =
    some ⟨[.list (l.map .top)], wloc⟩ := by
  rcases l with _ | ⟨y0, _ | ⟨y1, _ | ⟨y2, _ | ⟨y3, _ | ⟨y4, ys⟩⟩⟩⟩⟩
  · cases h
  · exact absurd h (by simp)
  · kernel_rfl
  · kernel_rfl
  · kernel_rfl
  · exfalso
    simp only [List.length_cons] at h2
    omega
end Mine

end
section
open PySem PySem.W PySem.Calls PyProof.Rows PySem.Spec PySem.Builtin
namespace Mine
noncomputable def noLine : Option Fin → Option Int
  | some (.no es) => match lk "line" es with
    | some (.int x) => some x
    | _ => none
  | _ => none
noncomputable def PX (l : List Nat) (j : Nat) (ln : Int) : Prop := (ipOf j = true → fin l (RC l.length ln (txOf j) (flOf j)) = some (.ok ⟨[.list (l.map .top)], wloc⟩)) ∧ (ipOf j = false → noLine (fin l (RC l.length ln (txOf j) (flOf j))) = some ln)
theorem eX0 {j : Nat} (hj : j < 17) (ln : Int) : PX [] j ln := by
  (iterate 17 (rcases j with _ | j; (· exact ⟨fun h => by first | exact absurd h (by decide) | kernel_rfl, fun h => by first | exact absurd h (by decide) | kernel_rfl⟩)))
  omega
theorem eX1 {j : Nat} (hj : j < 17) (y0 : Nat) (ln : Int) : PX [y0] j ln := by
  (iterate 17 (rcases j with _ | j; (· exact ⟨fun h => by first | exact absurd h (by decide) | kernel_rfl, fun h => by first | exact absurd h (by decide) | kernel_rfl⟩)))
  omega
theorem eX2 {j : Nat} (hj : j < 17) (y0 y1 : Nat) (ln : Int) : PX [y0, y1] j ln := by
  (iterate 17 (rcases j with _ | j; (· exact ⟨fun h => by first | exact absurd h (by decide) | kernel_rfl, fun h => by first | exact absurd h (by decide) | kernel_rfl⟩)))
  omega
theorem eX3 {j : Nat} (hj : j < 17) (y0 y1 y2 : Nat) (ln : Int) : PX [y0, y1, y2] j ln := by
  (iterate 17 (rcases j with _ | j; (· exact ⟨fun h => by first | exact absurd h (by decide) | kernel_rfl, fun h => by first | exact absurd h (by decide) | kernel_rfl⟩)))
  omega
theorem eX {l : List Nat} (h : l.length < 4) {j : Nat} (hj : j < 17) (ln : Int) : PX l j ln := by
  rcases l with _ | ⟨y0, _ | ⟨y1, _ | ⟨y2, _ | ⟨y3, ys⟩⟩⟩⟩
  · exact eX0 hj ln
  · exact eX1 hj y0 ln
  · exact eX2 hj y0 y1 ln
  · exact eX3 hj y0 y1 y2 ln
  · exfalso
    simp only [List.length_cons] at h
    omega
end Mine

end
section
open PySem PySem.W PySem.Calls PyProof.Rows PySem.Spec PySem.Builtin
namespace Mine
section
variable {X X' : Cx} {h₀ : Heap} {L : Addr} {rest rest' : List (Addr × Obj)} {as as' : List Addr} {r : Rs} {c : C} {s : Shared} {rec : Rec} {d : Nat} {sc : Scope} {A : Around} {env : Env} {E : Value → Shared → Prop}

theorem wh_turn (ih : Sound X rec) {q : PySem.Expr} {b : List PySem.Stmt} {R : Result → Shared → Prop} {c1 : C} (hq : rec d sc (.tr q) c = some (.ok (.b true) c1)) (hb : rec d sc (.sts b) c1 = some r) (J : Sit X d A sc env h₀ L) (S : St X h₀ L rest as c s)
    (hE : EP X h₀ L rest as r (fun e s' => R (.error e) s')) (hr : ∀ v c2, r ≠ .ok (.r v) c2) (hn : ∀ c2, r = .ok .n c2 → ∀ as2 s2, Ext as as2 → St X h₀ L rest as2 c2 s2 → codeAny (model X.prog X.w) A (.whileLoop q b [] env) R s2) :
    codeAny (model X.prog X.w) A (.whileLoop q b [] env) R s := by
  refine codeAny_of_tree ?_
  rw [Around.under_of_weight (c := .whileLoop q b [] env) rfl]
  have hT := turned_ep J hE
  show wpAny (model X.prog X.w) A ((whileTurn q b [] env).onRaise (fun x => do noteFrame x env; theTreesLotGoes x)) _ _ s
  refine wpAny_onRaise ?_
  show wpAny (model X.prog X.w) A (whileTurn q b [] env) _ (Turned X A env R) s
  unfold whileTurn
  refine wpAny_bind (ih.tr hq J S (fun _ _ _ q => nomatch q) fun v' c' e as1 s1 x1 S1 => ?_)
  cases e
  rw [if_pos rfl]
  refine wpAny_bind (ih.sts hb J S1 (hT.ext x1) ⟨fun c2 e as2 s2 x2 S2 => ?_, fun v c2 e => absurd e (hr v c2)⟩)
  exact wpAny_pure ⟨rfl, hn c2 e as2 s2 (x1.trans x2) S2⟩

theorem for_turn (KO : Ok X) {tg : PySem.Expr} {k k' : Src} {v : V} {b : List PySem.Stmt} {c1 : C} {R : Result → Shared → Prop} {it : Addr} {ot : Obj} (h : nextOf X.t c k = some (some (v, k'))) (hb : bindTo X.t sc tg v c = some c1) (J : Sit X d A sc env h₀ L) (S : St X h₀ L ((it, ot) :: rest) as c s)
    (I : ItR X as k ot) (nds : NdOk X rest) (hbody : ∀ ot' s1 Q E, St X h₀ L ((it, ot') :: rest) as c1 s1 → ItR X as k' ot' → (∀ s2, codeAny (model X.prog X.w) A (.forLoop tg (.ref it) b [] env) R s2 → Q .next s2) → wpAny (model X.prog X.w) A (execs b env) Q E s1) :
    codeAny (model X.prog X.w) A (.forLoop tg (.ref it) b [] env) R s := by
  refine codeAny_of_tree ?_
  rw [Around.under_of_weight (c := .forLoop tg (.ref it) b [] env) rfl]
  show wpAny (model X.prog X.w) A ((forTurn tg (.ref it) b [] env).onRaise (fun x => do noteFrame x env; theTreesLotGoes x)) _ _ s
  refine wpAny_onRaise ?_
  show wpAny (model X.prog X.w) A (forTurn tg (.ref it) b [] env) _ (Turned X A env R) s
  unfold forTurn
  refine wpAny_bind (wpAny_standAt (wpAny_bind (wpAny_onRaise ?_)))
  refine next_ok KO J S h I nds (fun e => nomatch e) fun v' k'' e u ot' s' S' I' V' => ?_
  cases e
  refine wpAny_bind (owned_go S'.iterAt I' ?_)
  refine wpAny_bind (bind_ok KO J S' hb V' fun s1 S1 => ?_)
  exact wpAny_bind (hbody ot' s1 _ _ S1 I' fun s2 k2 => wpAny_pure ⟨rfl, k2⟩)

theorem St.perm (S : St X h₀ L rest as c s) (hp : rest.Perm rest') : St X h₀ L rest' as c s := by
  obtain ⟨m, objs, F, N, nd, hH, hL⟩ := S.ex
  have q : (objs ++ rest).Perm (objs ++ rest') := hp.append_left objs
  exact ⟨⟨m, objs, F, fun p h => N p (q.mem_iff.mpr h), (q.map _).nodup_iff.mp nd, hH, hL⟩, fun a ha => let ⟨dx, od, h1, h2⟩ := S.nds a ha; ⟨dx, od, hp.mem_iff.mp h1, hp.mem_iff.mp h2⟩, S.sh⟩

theorem f2_pick {α β : Type} {R : α → β → Prop} {x : List α} {y : List β} (h : F2 R x y) : ∀ idx : List Nat, F2 R (pick x idx) (pick y idx)
  | [] => .nil
  | i :: r => by
    unfold pick
    cases e : x[i]? with
    | none =>
      have : y[i]? = none := by
        rw [List.getElem?_eq_none_iff] at e ⊢
        rw [← h.length]; exact e
      rw [this]
      exact f2_pick h r
    | some a =>
      obtain ⟨b, hb, q⟩ := h.get e
      rw [hb]
      exact .cons q (f2_pick h r)
theorem St.view {idx : List Nat} {H' : List O} {loc' : List (Str × V)} (S : St X h₀ L rest as c s) (hs : Same X X') (hi : incr 0 idx = true) (hH : F2 (fun O O' => ∀ ob, OR X as O ob → OR X' (pick as idx) O' ob) (pick c.H idx) H')
    (hloc : ∀ x v', lk x loc' = some v' → ∃ v, lk x c.loc = some v ∧ ∀ u, VR X as v u → VR X' (pick as idx) v' u) (hr : rest'.Sublist rest) (nds : NdOk X' rest') : St X' h₀ L rest' (pick as idx) ⟨H', loc'⟩ s := by
  obtain ⟨m, objs, F, N, nd, hH0, hL⟩ := S.ex
  have sub : (pick objs idx ++ rest').Sublist (objs ++ rest) := List.Sublist.append (by have := pick_sub (l := objs) hi; rwa [List.drop_zero] at this) hr
  refine ⟨⟨m, pick objs idx, F, fun p hp => N p (sub.subset hp), (sub.map _).nodup nd, ⟨by rw [pick_map, hH0.1], f2_via (f2_pick hH0.2 idx) hH⟩, fun x v e => ?_⟩, nds, by rw [hs.g, hs.dr, hs.os]; exact S.sh⟩
  obtain ⟨v0, e1, e2⟩ := hloc x v e
  obtain ⟨u, e3, e4⟩ := hL x v0 e1
  exact ⟨u, e3, e2 u e4⟩

noncomputable def flat : V → Bool
  | .ref _ => false
  | .nd _ => false
  | _ => true
theorem VR.flat {v : V} {u : Value} (h : flat v = true) (V : VR X as v u) : VR X' as' v u := by
  cases v <;> first | exact V | cases h
theorem NdOk.nil (h : X.nd = []) : NdOk X rest := fun a ha => by rw [h] at ha; cases ha
end

section
variable {w : World} {K : Frag} {mg mb : Str → Option Value} {base : Heap} {nd nd' : List Addr} {g0 : Array GenState} {dr : Drawn} {os : OsState}
  {h₀ : Heap} {L : Addr} {rest rest' : List (Addr × Obj)} {as as' : List Addr} {r : Rs} {c : C} {s : Shared} {rec : Rec} {d : Nat} {sc : Scope} {A : Around} {env : Env} {E : Value → Shared → Prop}
theorem same_nd : Same (mkX w K mg mb base nd g0 dr os) (mkX w K mg mb base nd' g0 dr os) := ⟨rfl, rfl, rfl, rfl⟩
theorem Sit.toNd (J : Sit (mkX w K mg mb base nd g0 dr os) d A sc env h₀ L) : Sit (mkX w K mg mb base nd' g0 dr os) d A sc env h₀ L :=
  ⟨J.below, J.envis, J.kind, J.stays, J.depth, J.units, J.handled, J.K, J.T⟩

/-- an exception alone, with its dict -/
theorem Exc.only {cl : Nat} {dd : Nat} {x : Addr} {es es' : List (Str × V)} {loc : List (Str × V)} (P : Exc (mkX w K mg mb base nd g0 dr os) h₀ L rest as c cl dd x s) (hd : c.H[dd]? = some (.dict es)) (he : Ren.es ⟨fun _ => none, fun _ => none⟩ es = some es') :
    ∃ dx, Exc (mkX w K mg mb base [] g0 dr os) h₀ L [] [dx] ⟨[.dict es'], []⟩ cl 0 x s := by
  obtain ⟨m, objs, dx, T, fl, e1, e2, e3, e4, e5, e6, e7, e8, e9, e10, e11, e12, e13, e14⟩ := P.ex
  obtain ⟨ob, hob, ho⟩ := e7.at hd e9
  have k : RenOk (mkX w K mg mb base nd g0 dr os) (mkX w K mg mb base [] g0 dr os) as [dx] ⟨fun _ => none, fun _ => none⟩ := ⟨fun _ _ _ e => (nomatch e), fun _ _ _ e => (nomatch e), rfl⟩
  have ho' : OR (mkX w K mg mb base [] g0 dr os) [dx] (.dict es') ob := k.o (by unfold Ren.o; dsimp only; rw [he]) ho
  have hm : (dx, ob) ∈ objs ++ rest := List.mem_append.mpr (.inl (List.mem_of_getElem? hob))
  refine ⟨dx, ⟨m, [(dx, ob)], dx, T, fl, e1, e2, e3, e4, fun p hp => ?_, by simp, ⟨rfl, .cons ho' .nil⟩, (fun x v e => nomatch e), rfl, e10, e11, fun p hp => ?_, e13, e14⟩, .nil rfl, P.sh⟩
  · simp only [List.append_nil, List.mem_singleton] at hp
    subst hp; exact e5 _ hm
  · simp only [List.append_nil, List.mem_singleton] at hp
    subst hp; exact e12 _ hm

theorem enter_free (KO : Ok (mkX w K mg mb base nd g0 dr os)) {a : Addr} {fn : Fn} {args : List V} {us : List Value} {loc loc0 : List (Str × V)} {R : Result → Shared → Prop} (ha : tops.fn a = some fn) (hz : zipArgs fn.params.args args = some loc) (J : Sit (mkX w K mg mb base nd g0 dr os) (d + 1) A sc env h₀ L)
    (S : St (mkX w K mg mb base nd g0 dr os) h₀ L rest as c s) (fa : F2 (VR (mkX w K mg mb base nd g0 dr os) as) args us) (hloc0 : ∀ x v, lk x loc0 = some v → lk x c.loc = some v ∧ flat v = true)
    (hb : ∀ {A' : Around} {env' : Env} {g : Heap} {L' : Addr} {s' : Shared} {Q' : Flow → Shared → Prop} {E' : Value → Shared → Prop}, Sit (mkX w K mg mb base nd g0 dr os) d A' fn.scope env' g L' → St (mkX w K mg mb base nd g0 dr os) g L' rest as ⟨c.H, loc⟩ s' →
      (∀ nd1 rest1 as1 c1 s1, St (mkX w K mg mb base nd1 g0 dr os) g L' rest1 as1 c1 s1 → (∀ s2, St (mkX w K mg mb base [] g0 dr os) h₀ L [] [] ⟨[], loc0⟩ s2 → R (.ok (.ret .none)) s2) → Q' .next s1) →
      (∀ cl es x as1 s1, Exc (mkX w K mg mb base [] g0 dr os) g L' [] as1 ⟨[.dict es], []⟩ cl 0 x s1 → (∀ s2, Exc (mkX w K mg mb base [] g0 dr os) h₀ L [] as1 ⟨[.dict es], loc0⟩ cl 0 x s2 → R (.error (.ref x)) s2) → E' (.ref x) s1) →
      wpAny (model P0 w) A' (execs fn.body env') Q' E' s') :
    codeAny (model P0 w) A (.call (.ref a) ⟨us, []⟩) R s := by
  obtain ⟨name, qual, doc, pm, an, cdv, od, osl, oc, hK, hcode, hkind, hco, hgen, hcell, hloc, hnd, hbind⟩ := KO.fn a fn ha
  obtain ⟨A₀, outer, B, hA⟩ := J.below
  obtain ⟨m, objs, F, N, hdup, hH, hL⟩ := id S.ex
  obtain ⟨hlen, fz, _⟩ := zip_ok hz fa
  have hdep := J.depth
  have hun := J.units
  have hke : env.scope.kind = .function := by obtain ⟨nm, a', cd, rfl⟩ := J.envis; exact J.kind
  refine callX_plain (cl := []) (binds := (fn.params.args.map (·.arg)).zip us) B F N J.T.nolimit hA J.frame hke (S.keep _ _ (J.K _ _ hK)) rfl (codeRec_of (J.K.keeps S.keep) hcode) (by omega) (BindsTo.of_eq (hbind us hlen)) (fun y hy => ?_)
    (fun g L' h₁ FG F' N' B' st lt => ?_) hcell hco hgen hkind
  · obtain ⟨p, hp, e⟩ := List.mem_map.mp (show y.1 ∈ fn.params.args.map (·.arg) from by have := List.mem_map_of_mem (f := (·.1)) hy; rwa [zip_keys (by simpa using hlen)] at this)
    rw [← e]; exact hloc p hp
  · have J' : Sit (mkX w K mg mb base nd g0 dr os) d (A.deeper (envX qual fn.scope L' a cdv [])) fn.scope (envX qual fn.scope L' a cdv []) g L' :=
      ⟨⟨A, env :: outer, B', Around.frames_deeper B'.stack⟩, ⟨qual, a, cdv, rfl⟩, hkind, fun b o e => st b o (J.stays b o e), by show A.depth + 1 + 2 * d + 2 < recursionLimit; omega, by show A.units + 3 + 20 * d + 100 < cLine; omega, J.handled, J.K.keeps st, J.T.keeps st⟩
    have S' : St (mkX w K mg mb base nd g0 dr os) g L' rest as ⟨c.H, loc⟩ { s with heap := h₁, toks := s.toks + ((fn.params.args.map (·.arg)).zip us).length } :=
      ⟨⟨_, objs, F', N', hdup, hH, lr_zip fz (by rw [zip_keys (by simpa using hlen)]; exact hnd)⟩, S.nds, S.sh⟩
    have hl0 : ∀ as1, LR (mkX w K mg mb base [] g0 dr os) as1 loc0 m := fun as1 x v e => by
      obtain ⟨e1, e2⟩ := hloc0 x v e
      obtain ⟨u, e3, e4⟩ := hL x v e1
      exact ⟨u, e3, e4.flat e2⟩
    refine hb J' S' (fun nd1 rest1 as1 c1 s1 S1 k => ?_) fun cl es x as1 s1 P k => ?_
    · obtain ⟨m1, objs1, F1, N1, nd1, hH1, hL1⟩ := S1.ex
      refine leaveK_ (news' := []) F1 (fun p hp => nomatch hp) fun F2 N2 => k s1 ⟨⟨m, [], F2, (fun p hp => nomatch hp), .nil, ⟨rfl, .nil⟩, hl0 []⟩, .nil rfl, S1.sh⟩
    · exact exc_leave (Sit.toNd (nd' := []) J') rfl P fun s2 P2 hn => k s2 (exc_up P2 hn FG (hl0 as1))
end
end Mine

end
section
open PySem PySem.W PySem.Calls PyProof.Rows PySem.Spec PySem.Builtin
namespace Mine
structure Wd where
  w : World
  K : Frag
  mg : Str → Option Value
  mb : Str → Option Value
  base : Heap
  g0 : Array GenState
  dr : Drawn
  os : OsState
noncomputable abbrev Wd.x (W : Wd) (nd : List Addr) : Cx := mkX W.w W.K W.mg W.mb W.base nd W.g0 W.dr W.os
structure Wd.Good (W : Wd) : Prop where
  chk : chk T0 W.K = true
  ok : ∀ nd, Ok (W.x nd)
theorem Wd.Good.sd {W : Wd} (G : W.Good) (nd : List Addr) : Sound (W.x nd) rd := sound_of G.chk (G.ok nd) 160

/-- a tree that the law has laid: its root, its place, its form, its pattern, its objects -/
structure TS where
  root : Addr
  at_ : Nat
  d : Nat
  j : Nat
  objs : List (Addr × Obj)
structure TS.Ok (W : Wd) (t : TS) : Prop where
  lt : t.at_ < 4 ∧ t.d < 8 ∧ t.j < 17
  H : ∃ H, TBs t.at_ t.d (txOf t.j) (flOf t.j) = some H ∧ (∀ nd a, F2 (fun O p => OR (W.x nd) (a :: t.objs.map (·.1)) O p.2) H t.objs) ∧ ∀ a, (a :: t.objs.map (·.1))[H.length]? = some t.root
  node : ∃ dx od, (t.root, instObj 31 dx) ∈ t.objs ∧ (dx, od) ∈ t.objs
noncomputable def trees : List TS → List (Addr × Obj)
  | [] => []
  | t :: r => t.objs ++ trees r
noncomputable def roots (l : List TS) : List Addr := l.map (·.root)
theorem mem_trees {p : Addr × Obj} : ∀ {l : List TS} {t : TS}, t ∈ l → p ∈ t.objs → p ∈ trees l
  | _ :: _, _, .head _, h => List.mem_append.mpr (.inl h)
  | _ :: _, _, .tail _ m, h => List.mem_append.mpr (.inr (mem_trees m h))
theorem nds_roots {W : Wd} {l : List TS} (h : ∀ t ∈ l, t.Ok W) : NdOk (W.x (roots l)) (trees l) := fun a ha => by
  obtain ⟨t, ht, rfl⟩ := List.mem_map.mp ha
  obtain ⟨dx, od, h1, h2⟩ := (h t ht).node
  exact ⟨dx, od, mem_trees ht h1, mem_trees ht h2⟩
noncomputable def firstBad : List TS → Option Int
  | [] => none
  | t :: r => match ipOf t.j with
    | true => firstBad r
    | false => some (10 * t.at_ + 10)

theorem f2_get {α β : Type} {R : α → β → Prop} : ∀ {x : List α} {y : List β}, x.length = y.length → (∀ (i : Nat) (a : α) (b : β), x[i]? = some a → y[i]? = some b → R a b) → F2 R x y
  | [], [], _, _ => .nil
  | a :: x, b :: y, hl, h => .cons (h 0 a b rfl rfl) (f2_get (by simpa using hl) fun i a b h1 h2 => h (i + 1) a b (by rw [List.getElem?_cons_succ]; exact h1) (by rw [List.getElem?_cons_succ]; exact h2))
  | [], _ :: _, hl, _ => by cases hl
  | _ :: _, [], hl, _ => by cases hl
theorem f2_comp {α β γ : Type} {R : α → γ → Prop} {R' : β → γ → Prop} : ∀ {x : List α} {y : List β} {z : List γ}, F2 R x z → F2 (fun a b => ∀ c, R a c → R' b c) x y → F2 R' y z
  | _, _, _, .nil, .nil => .nil
  | _, _, _, .cons r t, .cons q u => .cons (q _ r) (f2_comp t u)
section
variable {W : Wd} {nd nd' : List Addr} {h₀ : Heap} {L : Addr} {rest rest' : List (Addr × Obj)} {X X' : Cx} {as as' : List Addr} {r : Rs} {c c' : C} {s : Shared} {d : Nat} {sc : Scope} {A : Around} {env : Env} {E : Value → Shared → Prop}
theorem or_list {xs xs' : List V} {ob : Obj} (h : F2 (fun v v' => ∀ u, VR X as v u → VR X' as' v' u) xs xs') (q : OR X as (.list xs) ob) : OR X' as' (.list xs') ob := by
  obtain ⟨ys, n, rfl, f⟩ := q
  exact ⟨ys, n, rfl, f2_comp f h.reverse⟩
theorem tail_top (l : List Addr) : F2 (fun v v' => ∀ u, VR X as v u → VR (W.x l) as' v' u) (l.map .top) (tail l.length) := by
  refine f2_get (by simp [tail]) fun i a b h1 h2 => ?_
  rw [List.getElem?_map] at h1
  obtain ⟨r, hr, rfl⟩ := Option.map_eq_some_iff.mp h1
  unfold tail at h2
  rw [List.getElem?_map] at h2
  obtain ⟨k, hk, rfl⟩ := Option.map_eq_some_iff.mp h2
  have hlt := (List.getElem?_eq_some_iff.mp hr).1
  rw [List.getElem?_range hlt] at hk
  cases hk
  exact fun u hu => ⟨r, hr, hu⟩
theorem hn_keep {as : List Addr} : ∀ i v a, keepN i = some v → (W.x nd).nd[i]? = some a → VR (W.x nd) as v (.ref a) := fun i v a e h => by cases e; exact ⟨a, h, rfl⟩
theorem hn_top {l : List Addr} {as : List Addr} : ∀ (i : Nat) (v : V) (a : Addr), (fun j : Nat => (l[j]?).map V.top) i = some v → (W.x l).nd[i]? = some a → VR (W.x nd) as v (.ref a) := fun i v a e h => by
  dsimp only at e
  change l[i]? = some a at h
  rw [h] at e
  cases e
  exact rfl

theorem runC_is {fn : Nat → Option V} {tk : T} {idx : List Nat} {ks : List Str} (h : runC fn d sc tk c idx ks = some c') : ∃ c1, rd d sc tk c = some (.ok .n c1) ∧ recast fn idx ks c1 = some c' := by
  unfold runC at h
  split at h
  · rename_i c1 e; exact ⟨c1, e, h⟩
  · cases h

theorem turn_is (h : turn c = some c') : ∃ c1, rd dC cpF.scope (.tr whT) c = some (.ok (.b true) c1) ∧ rd dC cpF.scope (.sts whB) c1 = some (.ok .n c') := by
  unfold turn at h
  split at h
  · rename_i c1 e1
    split at h
    · rename_i c2 e2; cases h; exact ⟨c1, e1, e2⟩
    · cases h
  · cases h
theorem turn_ok (G : W.Good) {R : Result → Shared → Prop} (h : turn c = some c') (J : Sit (W.x nd) dC A cpF.scope env h₀ L) (S : St (W.x nd) h₀ L rest as c s)
    (k : ∀ as' s', Ext as as' → St (W.x nd) h₀ L rest as' c' s' → codeAny (model P0 W.w) A (.whileLoop whT whB [] env) R s') : codeAny (model P0 W.w) A (.whileLoop whT whB [] env) R s := by
  obtain ⟨c1, e1, e2⟩ := turn_is h
  exact wh_turn (G.sd nd) e1 e2 J S (fun _ _ _ q => nomatch q) (fun _ _ q => nomatch q) fun c2 e as2 s2 x2 S2 => by cases e; exact k as2 s2 x2 S2
theorem seek_ok (G : W.Good) {R : Result → Shared → Prop} (J : Sit (W.x nd) dC A cpF.scope env h₀ L) : ∀ {n : Nat} {c : C} {as : List Addr} {s : Shared}, seek n c = some c' → St (W.x nd) h₀ L rest as c s →
    (∀ as' s', St (W.x nd) h₀ L rest as' c' s' → codeAny (model P0 W.w) A (.whileLoop whT whB [] env) R s') → codeAny (model P0 W.w) A (.whileLoop whT whB [] env) R s
  | 0, _, _, _, h, _, _ => by cases h
  | n + 1, c, as, s, h, S, k => by
    unfold seek at h
    split at h
    · exact k _ _ (S.recast h ⟨rfl, rfl, rfl, rfl⟩ hn_keep (List.Sublist.refl _) S.nds)
    · split at h
      · rename_i c1 e
        exact turn_ok G e J S fun as' s' _ S' => seek_ok G J h S' k
      · cases h

theorem fin_ok (G : W.Good) {l : List Addr} {R : Result → Shared → Prop} (h : fin l c = some (.ok c')) (J : Sit (W.x l) dC A cpF.scope env h₀ L) (S : St (W.x l) h₀ L rest as c s)
    (k : ∀ as' s', St (W.x []) h₀ L rest as' c' s' → codeAny (model P0 W.w) A (.whileLoop whT whB [] env) R s') : codeAny (model P0 W.w) A (.whileLoop whT whB [] env) R s := by
  unfold fin at h
  split at h
  · rename_i c1 e1
    split at h
    · rename_i c2 e2
      obtain ⟨c3, e3, e4⟩ := Option.map_eq_some_iff.mp h
      cases e4
      exact wh_turn (G.sd l) e1 e2 J S (fun _ _ _ q => nomatch q) (fun _ _ q => nomatch q) fun c2' e as2 s2 x2 S2 => by
        cases e
        exact k _ _ (S2.recast e3 ⟨rfl, rfl, rfl, rfl⟩ hn_top (List.Sublist.refl _) (.nil rfl))
    · split at h
      · split at h <;> cases h
      · cases h
    · cases h
  · cases h
theorem fin_no (G : W.Good) {l : List Addr} {es : List (Str × V)} {R : Result → Shared → Prop} (h : fin l c = some (.no es)) (J : Sit (W.x l) dC A cpF.scope env h₀ L) (S : St (W.x l) h₀ L rest as c s)
    (k : ∀ x dx s', Exc (W.x []) h₀ L [] [dx] ⟨[.dict es], []⟩ 208 0 x s' → R (.error (.ref x)) s') : codeAny (model P0 W.w) A (.whileLoop whT whB [] env) R s := by
  unfold fin at h
  split at h
  · rename_i c1 e1
    split at h
    · rename_i c2 e2
      obtain ⟨c3, e3, e4⟩ := Option.map_eq_some_iff.mp h
      cases e4
    · rename_i dd c2 e2
      split at h
      · rename_i es0 hd
        split at h
        · rename_i es1 he
          cases h
          refine wh_turn (G.sd l) e1 e2 J S (fun cl dd' c' q as' s' x _ P => ?_) (fun _ _ q => nomatch q) fun c2' e => nomatch e
          cases q
          obtain ⟨dx, P'⟩ := P.only (loc := []) hd he
          exact k x dx s' P'
        · cases h
      · cases h
    · cases h
  · cases h

theorem fetch_tree {t : TS} {l : List TS} (S : St (W.x []) h₀ L (trees (t :: l)) as ⟨[.list ((roots (t :: l)).map .top)], wloc⟩ s) (ht : t.Ok W) (hl : ∀ t ∈ l, t.Ok W) :
    ∃ as' H, TBs t.at_ t.d (txOf t.j) (flOf t.j) = some H ∧ St (W.x (roots l)) h₀ L (trees l) as' ⟨.list (.ref H.length :: tail (roots l).length) :: H, wloc⟩ s := by
  obtain ⟨H, hH, hO, hr⟩ := ht.H
  have hlen : as.length = 1 := as_len S
  obtain ⟨a, rfl⟩ : ∃ a, as = [a] := by
    rcases as with _ | ⟨a, _ | ⟨b, as⟩⟩
    · cases hlen
    · exact ⟨a, rfl⟩
    · cases hlen
  refine ⟨[a] ++ t.objs.map (·.1), H, hH, ?_⟩
  refine St.fetch (X := W.x []) (X' := W.x (roots l)) (T := t.objs) (HT := H) S ⟨rfl, rfl, rfl, rfl⟩ (.cons (fun ob q => or_list (.cons (fun u hu => ?_) (tail_top _)) q) .nil) (hO _ a) (fun x v' e => ?_) (nds_roots hl)
  · cases hu
    exact ⟨t.root, hr a, rfl⟩
  · unfold wloc at e
    refine ⟨v', e, fun u hu => ?_⟩
    unfold lk at e
    split at e
    · cases e
      obtain ⟨b, hb, rfl⟩ := hu
      refine ⟨b, ?_, rfl⟩
      rw [List.getElem?_append_left (by simp)]; exact hb
    · cases e

theorem noLine_is {f : Option Fin} {ln : Int} (h : noLine f = some ln) : ∃ es, f = some (.no es) ∧ lk "line" es = some (.int ln) := by
  unfold noLine at h
  split at h
  · rename_i es
    split at h
    · rename_i x hx
      cases h
      exact ⟨es, rfl, hx⟩
    · cases h
  · cases h

theorem cp_loop (G : W.Good) {R : Result → Shared → Prop} (J : Sit (W.x []) dC A cpF.scope env h₀ L) : ∀ {l : List TS} {as : List Addr} {s : Shared}, l.length < 5 → (∀ t ∈ l, t.Ok W) → St (W.x []) h₀ L (trees l) as ⟨[.list ((roots l).map .top)], wloc⟩ s →
    (firstBad l = none → ∀ as' s', St (W.x []) h₀ L [] as' ⟨[.list []], wloc⟩ s' → R (.ok .next) s') →
    (∀ ln, firstBad l = some ln → ∀ es x dx s', lk "line" es = some (.int ln) → Exc (W.x []) h₀ L [] [dx] ⟨[.dict es], []⟩ 208 0 x s' → R (.error (.ref x)) s') → codeAny (model P0 W.w) A (.whileLoop whT whB [] env) R s
  | [], as, s, _, _, S, k1, _ => by
    refine (G.sd []).wh eE J S (fun _ _ _ q => nomatch q) ⟨fun c' e as' s' x S' => ?_, fun _ _ q => nomatch q⟩
    cases e
    exact k1 rfl as' s' S'
  | t :: l, as, s, hl, hok, S, k1, k2 => by
    have ht := hok t (.head _)
    have hok' : ∀ t ∈ l, t.Ok W := fun t m => hok t (.tail _ m)
    obtain ⟨l1, l2, l3⟩ := ht.lt
    have hl4 : (roots l).length < 4 := by
      unfold roots
      rw [List.length_map]
      simp only [List.length_cons] at hl
      omega
    obtain ⟨as1, H, hH, S1⟩ := fetch_tree S ht hok'
    have hs := eS (at_ := t.at_) (d := t.d) hl4 (txOf t.j) (flOf t.j)
    unfold PS at hs
    rw [hH] at hs
    dsimp only at hs
    have J1 : Sit (W.x (roots l)) dC A cpF.scope env h₀ L := Sit.toNd J
    refine seek_ok G J1 hs S1 fun as2 s2 S2 => ?_
    obtain ⟨f1, f2⟩ := eX hl4 l3 (10 * (t.at_ : Int) + 10)
    cases hip : ipOf t.j with
    | true =>
      have fb : firstBad (t :: l) = firstBad l := by
        show (match ipOf t.j with | true => firstBad l | false => some (10 * (t.at_ : Int) + 10)) = _
        rw [hip]
      refine fin_ok G (f1 hip) J1 S2 fun as3 s3 S3 => cp_loop G J (by simp only [List.length_cons] at hl; omega) hok' S3 (fun e => k1 (fb.trans e)) fun ln e => k2 ln (fb.trans e)
    | false =>
      have fb : firstBad (t :: l) = some (10 * (t.at_ : Int) + 10) := by
        show (match ipOf t.j with | true => firstBad l | false => some (10 * (t.at_ : Int) + 10)) = _
        rw [hip]
      obtain ⟨es, e1, e2⟩ := noLine_is (f2 hip)
      exact fin_no G e1 J1 S2 fun x dx s3 P => k2 _ fb es x dx s3 e2 P
end
end Mine

end
section
open PySem PySem.W PySem.Calls PyProof.Rows PySem.Spec PySem.Builtin
namespace Mine
noncomputable def dueIs : List TS → V
  | [] => .none
  | t :: r => dueNext t.at_ (ipOf t.j) (dueIs r)
theorem dueIs_ok : ∀ ts, DOk (dueIs ts)
  | [] => .inl rfl
  | _ :: r => dueNext_ok (dueIs_ok r)
/-- the trees as the loop lays them, the last first -/
noncomputable def LaidTs (W : Wd) : List TS → Prop
  | [] => True
  | t :: r => t.Ok W ∧ t.at_ = r.length ∧ LaidTs W r
theorem firstBad_snoc (t : TS) : ∀ l : List TS, firstBad (l ++ [t]) = match firstBad l with
    | some n => some n
    | none => match ipOf t.j with
      | true => none
      | false => some (10 * (t.at_ : Int) + 10)
  | [] => by
    show (match ipOf t.j with | true => firstBad [] | false => some (10 * (t.at_ : Int) + 10)) = _
    cases ipOf t.j <;> rfl
  | a :: l => by
    show (match ipOf a.j with | true => firstBad (l ++ [t]) | false => some (10 * (a.at_ : Int) + 10)) = match (match ipOf a.j with | true => firstBad l | false => some (10 * (a.at_ : Int) + 10)) with | some n => some n | none => _
    cases ipOf a.j with
    | true => exact firstBad_snoc t l
    | false => rfl
theorem dueIs_bad : ∀ ts : List TS, dueIs ts = match firstBad ts.reverse with
    | some n => .int n
    | none => .none
  | [] => rfl
  | t :: r => by
    rw [List.reverse_cons, firstBad_snoc]
    show dueNext t.at_ (ipOf t.j) (dueIs r) = _
    rw [dueIs_bad r]
    cases firstBad r.reverse with
    | some n => cases ipOf t.j <;> rfl
    | none => cases ipOf t.j <;> rfl

noncomputable def low : V → Bool
  | .ref i => Nat.blt i 2
  | .nd _ => false
  | _ => true
section
variable {W : Wd} {nd nd' : List Addr} {h₀ : Heap} {L : Addr} {rest rest' : List (Addr × Obj)} {X X' : Cx} {as as' : List Addr} {r : Rs} {c c' : C} {s : Shared} {d : Nat} {sc : Scope} {A : Around} {env : Env} {E : Value → Shared → Prop}
theorem VR.low {v : V} {u : Value} (h : low v = true) (V : VR X as v u) : VR X' (as.take 2) v u := by
  cases v with
  | ref i =>
    obtain ⟨a, ha, rfl⟩ := V
    refine ⟨a, ?_, rfl⟩
    rw [List.getElem?_take, if_pos (show i < 2 from Nat.le_of_ble_eq_true h)]; exact ha
  | nd i => cases h
  | _ => exact V
theorem f2_flat {xs : List V} (h : xs.all flat = true) : F2 (fun v v' => ∀ u, VR X as v u → VR X' as' v' u) xs xs := by
  induction xs with
  | nil => exact .nil
  | cons x xs ih =>
    obtain ⟨h1, h2⟩ := Bool.and_eq_true_iff.mp h
    exact .cons (fun u hu => hu.flat h1) (ih h2)
theorem mapO_ok {f : Ren} (k : RenOk X X' as as' f) : ∀ {H H' : List O} {T : List (Addr × Obj)}, F2 (fun O p => OR X as O p.2) H T → mapO f H = some H' → F2 (fun O p => OR X' as' O p.2) H' T
  | [], _, _, .nil, e => by cases e; exact .nil
  | o :: H, _, _, .cons r t, e => by
    unfold mapO at e
    split at e
    · rename_i o' ho
      split at e
      · rename_i l hl
        cases e
        exact .cons (k.o ho r) (mapO_ok k t hl)
      · cases e
    · cases e
theorem tops_flat (l : List Nat) : (l.map V.top).all flat = true := by
  rw [List.all_map]; exact List.all_eq_true.mpr fun _ _ => rfl

theorem runC_go (G : W.Good) {p : PySem.Stmt} {idx : List Nat} {ks : List Str} {Q : Flow → Shared → Prop} (h : runC keepN d sc (.st p) c idx ks = some c') (J : Sit (W.x nd) d A sc env h₀ L) (S : St (W.x nd) h₀ L rest as c s)
    (k : ∀ as' s', Ext as as' → St (W.x nd) h₀ L rest (pick as' idx) c' s' → Q .next s') : wpAny (model P0 W.w) A (exec p env) Q E s := by
  obtain ⟨c1, e1, e2⟩ := runC_is h
  refine (G.sd nd).st e1 J S (fun _ _ _ q => nomatch q) ⟨fun c2 q as2 s2 x2 S2 => ?_, fun _ _ q => nomatch q⟩
  cases q
  exact k as2 s2 x2 (S2.recast e2 ⟨rfl, rfl, rfl, rfl⟩ hn_keep (List.Sublist.refl _) S2.nds)

theorem stash_tree {at_ dd j : Nat} {cells xs : List V} {loc : List (Str × V)} (h4 : at_ < 4) (h8 : dd < 8) (h17 : j < 17) (hc : cells.all flat = true) (hx : xs.all flat = true) (hl : ∀ x v, lk x loc = some v → low v = true)
    (S : St (W.x []) h₀ L rest as ⟨[.list cells, .list (.ref ((TB at_ dd (txOf j) (flOf j)).length + 1) :: xs)] ++ TB at_ dd (txOf j) (flOf j), loc⟩ s) :
    ∃ t : TS, t.Ok W ∧ t.at_ = at_ ∧ t.j = j ∧ ∃ as', St (W.x []) h₀ L (t.objs ++ rest) as' ⟨[.list cells, .list (.top t.root :: xs)], loc⟩ s := by
  obtain ⟨T, hT, hF, k⟩ := S.stash 2
  have hR := eT (at_ := at_) (d := dd) (txOf j) (flOf j)
  have hS := eS (at_ := at_) (d := dd) (n := 0) (by decide) (txOf j) (flOf j)
  obtain ⟨H, hH⟩ : ∃ H, TBs at_ dd (txOf j) (flOf j) = some H := by
    unfold PS at hS
    split at hS
    · exact ⟨_, by assumption⟩
    · cases hS
  have hlen := as_len S
  have hms : mapO shiftR (TB at_ dd (txOf j) (flOf j)) = some H := hH
  generalize TB at_ dd (txOf j) (flOf j) = B at *
  change F2 (fun O p => OR (W.x []) as O p.2) B T at hF
  change as.length = ([O.list cells, O.list (.ref (B.length + 1) :: xs)] ++ B).length at hlen
  rw [List.length_append] at hlen
  change as.length = 2 + B.length at hlen
  obtain ⟨a0, a1, as2, rfl⟩ : ∃ a0 a1 as2, as = a0 :: a1 :: as2 := by
    rcases as with _ | ⟨a0, _ | ⟨a1, as2⟩⟩
    · simp at hlen; omega
    · simp at hlen; omega
    · exact ⟨_, _, _, rfl⟩
  change a0 :: a1 :: as2 = [a0, a1] ++ T.map (·.1) at hT
  obtain rfl : as2 = T.map (·.1) := by simpa using hT
  -- the root
  unfold rootOk at hR
  split at hR
  · rename_i C q hlast
    obtain ⟨h1, h2⟩ := Bool.and_eq_true_iff.mp hR
    cases Nat.eq_of_beq_eq_true h1
    rw [List.getLast?_eq_getElem?] at hlast
    have hB : B.length - 1 + 1 = B.length := by
      have := (List.getElem?_eq_some_iff.mp hlast).1
      omega
    obtain ⟨⟨rt, ort⟩, hp, dx, hdx, rfl⟩ := hF.get hlast
    change (T.map (·.1))[q]? = some dx at hdx
    rw [List.getElem?_map] at hdx
    obtain ⟨⟨dx', od⟩, hd1, hd2⟩ := Option.map_eq_some_iff.mp hdx
    cases hd2
    have hF' : ∀ nd a, F2 (fun O p => OR (W.x nd) (a :: T.map (·.1)) O p.2) H T := fun nd a => by
      refine mapO_ok (X := W.x []) (X' := W.x nd) (as' := a :: T.map (·.1)) (f := shiftR) ⟨fun i v b e hb => ?_, (fun i v b e hb => nomatch e), rfl⟩ hF hms
      unfold shiftR at e
      dsimp only at e
      split at e
      · rename_i i
        cases e
        exact ⟨b, hb, rfl⟩
      · cases e
    have hHl : H.length = B.length := by
      have := (hF' [] 0).length
      have := hF.length
      omega
    have hroot : (T.map (·.1))[B.length - 1]? = some rt := by rw [List.getElem?_map, hp]; rfl
    refine ⟨⟨rt, at_, dd, j, T⟩, ⟨⟨h4, h8, h17⟩, ⟨H, hH, hF', fun a => ?_⟩, dx', od, List.mem_of_getElem? hp, List.mem_of_getElem? hd1⟩, rfl, rfl, [a0, a1], ?_⟩
    · show (a :: T.map (·.1))[H.length]? = some rt
      rw [hHl, ← hB, List.getElem?_cons_succ]
      exact hroot
    · refine k (X' := W.x []) ⟨rfl, rfl, rfl, rfl⟩ (.cons (fun ob q => or_list (f2_flat hc) q) (.cons (fun ob q => or_list (.cons (fun u hu => ?_) (f2_flat hx)) q) .nil)) (fun x v e => ⟨v, e, fun u hu => hu.low (hl x v e)⟩) (.nil rfl)
      obtain ⟨b, hb, rfl⟩ := hu
      rw [← hB] at hb
      change (T.map (·.1))[B.length - 1]? = some b at hb
      rw [hroot] at hb
      cases hb
      rfl
  · cases hR

theorem forB_is : forB = [forS 0, forS 1, forS 2] := by kernel_rfl
theorem bind_is (H : List O) (D : V) (n : Nat) : bindTo tops lawF.scope forTg (.int n) ⟨H, loc0 D⟩ = some ⟨H, loc1 D n⟩ := by kernel_rfl
theorem loop_end (H : List O) (D : V) (n : Nat) : rd dL lawF.scope (.fo forTg (.rng n 0) forB) ⟨H, loc0 D⟩ = some (.ok .n ⟨H, loc0 D⟩) := by kernel_rfl
theorem cells_flat (k b0 b1 b2 b3 d0 d1 d2 d3 : Nat) : (cellsV k b0 b1 b2 b3 d0 d1 d2 d3).all flat = true := rfl
theorem loc2_low {D : V} (hD : DOk D) {n : Nat} {tx fl : Str} {ip : Bool} : ∀ x v, lk x (loc2 D n tx fl ip) = some v → low v = true := by
  have key : ∀ {l : List (Str × V)}, l.all (fun p => low p.2) = true → ∀ x v, lk x l = some v → low v = true := by
    intro l
    induction l with
    | nil => intro _ x v h; cases h
    | cons p l ih =>
      intro hl x v h
      obtain ⟨h1, h2⟩ := Bool.and_eq_true_iff.mp hl
      unfold lk at h
      split at h
      · cases h; exact h1
      · exact ih h2 x v h
  refine key ?_
  rcases hD with rfl | ⟨z, rfl⟩ <;> rfl
theorem sel4_lt {n a b c d m : Nat} (h : a < m ∧ b < m ∧ c < m ∧ d < m) : sel4 n a b c d < m := by
  unfold sel4; split <;> omega

theorem law_loop (G : W.Good) {R : Result → Shared → Prop} {it : Addr} (J : Sit (W.x []) dL A lawF.scope env h₀ L) {k b0 b1 b2 b3 d0 d1 d2 d3 : Nat} (hb : b0 < 17 ∧ b1 < 17 ∧ b2 < 17 ∧ b3 < 17) (hd : d0 < 8 ∧ d1 < 8 ∧ d2 < 8 ∧ d3 < 8) {m : Nat} (hm : m ≤ 4)
    (kR : ∀ ts as s, ts.length = m → LaidTs W ts → St (W.x []) h₀ L (trees ts) as ⟨[.list (cellsV k b0 b1 b2 b3 d0 d1 d2 d3), .list ((roots ts).map .top)], loc0 (dueIs ts)⟩ s → R (.ok .next) s) :
    ∀ {left : Nat} {ts : List TS} {as : List Addr} {s : Shared} {ot : Obj}, ts.length + left = m → LaidTs W ts → St (W.x []) h₀ L ((it, ot) :: trees ts) as ⟨[.list (cellsV k b0 b1 b2 b3 d0 d1 d2 d3), .list ((roots ts).map .top)], loc0 (dueIs ts)⟩ s →
      ItR (W.x []) as (.rng ts.length left) ot → codeAny (model P0 W.w) A (.forLoop forTg (.ref it) forB [] env) R s
  | 0, ts, as, s, ot, hl, hts, S, I => by
    refine (G.sd []).fo (loop_end _ (dueIs ts) ts.length) J S I (.nil rfl) (fun _ _ _ q => nomatch q) ⟨fun c2 q as2 s2 x2 S2 => ?_, fun _ _ q => nomatch q⟩
    cases q
    exact kR ts as2 s2 (by omega) hts S2
  | left + 1, ts, as, s, ot, hl, hts, S, I => by
    have h4 : ts.length < 4 := by omega
    have hy : (roots ts).length = ts.length := by unfold roots; rw [List.length_map]
    have hD := dueIs_ok ts
    refine for_turn (G.ok []) (k' := .rng ((ts.length + 1 : Nat) : Int) (left : Int)) (v := .int ts.length) ?_ (bind_is _ (dueIs ts) ts.length) J S I (.nil rfl) fun ot' s1 Q E S1 I1 kk => ?_
    · show (match decide (((left + 1 : Nat) : Int) ≤ 0) with | true => some none | false => some (some (V.int ts.length, Src.rng ((ts.length : Int) + 1) (((left + 1 : Nat) : Int) - 1)))) = _
      rw [decide_eq_false (by omega)]
      have e1 : ((left + 1 : Nat) : Int) - 1 = (left : Int) := by omega
      have e2 : ((ts.length : Int) + 1) = ((ts.length + 1 : Nat) : Int) := by omega
      rw [e1, e2]
    · rw [forB_is]
      have a0 := eA h4 hy hD (sel4 ts.length b0 b1 b2 b3) k b0 b1 b2 b3 d0 d1 d2 d3 rfl (sel4_lt hb)
      refine wpAny_execs_cons (runC_go G a0 J S1 fun as2 s2 x2 S2 => ?_)
      have a1 := eB h4 hy (dueIs ts) (sel4 ts.length d0 d1 d2 d3) k b0 b1 b2 b3 d0 d1 d2 d3 (txOf ((3 * ts.length + sel4 ts.length b0 b1 b2 b3) % 17)) (flOf ((3 * ts.length + sel4 ts.length b0 b1 b2 b3) % 17)) (ipOf ((3 * ts.length + sel4 ts.length b0 b1 b2 b3) % 17)) rfl (sel4_lt hd)
      refine wpAny_execs_cons ((G.sd []).st a1 J S2 (fun _ _ _ q => nomatch q) ⟨fun c3 q as3 s3 x3 S3 => ?_, fun _ _ q => nomatch q⟩)
      cases q
      obtain ⟨t, ht, hta, htj, as4, S4⟩ := stash_tree h4 (sel4_lt hd) (Nat.mod_lt _ (by decide)) (cells_flat ..) (tops_flat _) (loc2_low hD) S3
      have S5 := S4.perm (rest' := (it, ot') :: (t.objs ++ trees ts)) List.perm_middle
      have a2 := eC h4 (ys := t.root :: roots ts) (by rw [List.length_cons, hy]) hD k b0 b1 b2 b3 d0 d1 d2 d3 (txOf ((3 * ts.length + sel4 ts.length b0 b1 b2 b3) % 17)) (flOf ((3 * ts.length + sel4 ts.length b0 b1 b2 b3) % 17)) (ipOf ((3 * ts.length + sel4 ts.length b0 b1 b2 b3) % 17))
      refine wpAny_execs_cons (runC_go G a2 J S5 fun as6 s6 x6 S6 => ?_)
      refine wpAny_execs_nil (kk s6 ?_)
      rw [← htj] at S6
      have e : dueNext ts.length (ipOf t.j) (dueIs ts) = dueIs (t :: ts) := by
        show _ = dueNext t.at_ (ipOf t.j) (dueIs ts)
        rw [hta]
      rw [e] at S6
      exact law_loop G J hb hd hm kR (ts := t :: ts) (by rw [List.length_cons]; omega) ⟨ht, hta, hts⟩ S6 I1
end
end Mine

end
section
open PySem PySem.W PySem.Calls PyProof.Rows PySem.Spec PySem.Builtin
namespace Mine
structure Fin' (W : Wd) (s : Shared) : Prop where
  keep : W.base.StaysIn s.heap
  sh : s.gens = W.g0 ∧ s.drawn = W.dr ∧ s.os = W.os
theorem shape_try : ∃ p1 p2 p3 q1 q2 q3 q4 q5 q6 q7 q8 : Pos, lawS 3 = .Try [.Expr (.Call (.Name "check_patterns" p1) [progE] [] p2) p3] [.ExceptHandler (some (.Name "SyntaxFail" q1)) (some "e") [.Return (some (.Compare (.Attribute (.Name "e" q2) "line" q3) [.Eq] [.Name "due" q4] q5)) q6] q7] [] [] q8 :=
  ⟨_, _, _, _, _, _, _, _, _, _, _, rfl⟩
theorem cpB_is : ∃ p : Pos, cpF.body = [cpS 0, .While whT whB [] p] := ⟨_, rfl⟩
theorem fn_cp : tops.fn 394 = some cpF := by kernel_rfl
theorem zip_cp : zipArgs cpF.params.args [V.ref 3] = some [(("program" : Str), V.ref 3)] := by kernel_rfl
theorem load_cp (c : C) : loadN tops lawF.scope "check_patterns" c = some (.top 394) := by kernel_rfl
theorem star_prog (env : Env) (pos : Pos) : backTo pos (starEach [progE] env) = [(false, eval progE env)] := rfl
theorem noStar_prog : noStar [progE] = true := by kernel_rfl
theorem noComp_cp (p1 p2 : Pos) : isComp (.Call (.Name "check_patterns" p1) [progE] [] p2) = false := rfl
theorem sc_sf : lawF.scope.names.lookup ("SyntaxFail" : Str) = some .globalImplicit := by kernel_rfl
theorem sc_e : lawF.scope.names.lookup ("e" : Str) = some .local := by kernel_rfl
theorem sc_due : lawF.scope.names.lookup ("due" : Str) = some .local := by kernel_rfl
theorem law_end : rd dL lawF.scope (.st (lawS 4)) ⟨[], [("due", .none)]⟩ = some (.ok (.r (.bool true)) ⟨[], [("due", .none)]⟩) := by kernel_rfl
theorem prog_is {l : List Addr} {c c' : C} (h : progRun l c = some c') : ∃ c1 c2, rd dC cpF.scope (.st (cpS 0)) c = some (.ok .n c1) ∧ turn c1 = some c2 ∧ recast (fun j => (l[j]?).map .top) [4] ["waiting"] c2 = some c' := by
  unfold progRun at h
  split at h
  · rename_i c1 e1
    split at h
    · rename_i c2 e2; exact ⟨c1, c2, e1, e2, h⟩
    · cases h
  · cases h
theorem trees_app : ∀ (a b : List TS), trees (a ++ b) = trees a ++ trees b
  | [], _ => rfl
  | t :: a, b => by
    show t.objs ++ trees (a ++ b) = (t.objs ++ trees a) ++ trees b
    rw [trees_app a b, List.append_assoc]
theorem trees_rev : ∀ l : List TS, (trees l).Perm (trees l.reverse)
  | [] => .refl _
  | t :: l => by
    rw [List.reverse_cons, trees_app]
    show (t.objs ++ trees l).Perm (trees l.reverse ++ (t.objs ++ []))
    rw [List.append_nil]
    exact (List.perm_append_comm).trans ((trees_rev l).append_right _)
theorem laid_all {W : Wd} : ∀ {ts : List TS}, LaidTs W ts → ∀ t ∈ ts, t.Ok W
  | _ :: _, h, _, .head _ => h.1
  | _ :: _, h, _, .tail _ m => laid_all h.2.2 _ m

section
variable {W : Wd} {nd nd' : List Addr} {h₀ : Heap} {L : Addr} {rest rest' : List (Addr × Obj)} {X X' : Cx} {as as' : List Addr} {r : Rs} {c c' : C} {s : Shared} {d : Nat} {sc : Scope} {A : Around} {env : Env} {E : Value → Shared → Prop}

/-- the call of check_patterns -/
theorem cp_call (G : W.Good) {l : List TS} {D : V} {u : Value} {R : Result → Shared → Prop} (h5 : l.length < 5) (h2 : 2 ≤ l.length) (hok : ∀ t ∈ l, t.Ok W) (hD : DOk D) (J : Sit (W.x (roots l)) (dC + 1) A lawF.scope env h₀ L)
    (S : St (W.x (roots l)) h₀ L (trees l) as ⟨[.list (tail (roots l).length).reverse, .list [.bool false, .ref 0], .dict [("kind", .str "Program"), ("line", .int 1), ("parts", .ref 1), ("scope", .none)], .inst 31 2], [("body", .ref 0), ("due", D)]⟩ s) (hu : VR (W.x (roots l)) as (.ref 3) u)
    (k1 : firstBad l = none → ∀ s2, St (W.x []) h₀ L [] [] ⟨[], [("due", D)]⟩ s2 → R (.ok (.ret .none)) s2)
    (k2 : ∀ ln, firstBad l = some ln → ∀ es x dx s2, lk "line" es = some (.int ln) → Exc (W.x []) h₀ L [] [dx] ⟨[.dict es], [("due", D)]⟩ 208 0 x s2 → R (.error (.ref x)) s2) : codeAny (model P0 W.w) A (.call (.ref 394) ⟨[u], []⟩) R s := by
  have hrl : (roots l).length = l.length := by unfold roots; rw [List.length_map]
  refine enter_free (loc0 := [("due", D)]) (G.ok (roots l)) fn_cp zip_cp J S (.cons hu .nil) (fun x v e => ?_) fun {A' env' g L' s' Q' E'} J' S' kn ke => ?_
  · unfold lk at e
    split at e
    · rename_i q
      cases e
      cases eqS_iff.mp q
      exact ⟨rfl, by rcases hD with rfl | ⟨z, rfl⟩ <;> rfl⟩
    · cases e
  · obtain ⟨p, hbody⟩ := cpB_is
    rw [hbody]
    have hq := eQ (l := roots l) (by omega) (by omega)
    obtain ⟨c1, c2, e1, e2, e3⟩ := prog_is hq
    refine wpAny_execs_cons ((G.sd _).st e1 J' S' (fun _ _ _ q => nomatch q) ⟨fun c' q as1 s1 x1 S1 => ?_, fun _ _ q => nomatch q⟩)
    cases q
    refine wpAny_execs_cons (wpAny_While ?_)
    refine turn_ok G e2 J' S1 fun as2 s2 x2 S2 => ?_
    have S3 := S2.recast (X' := W.x []) (rest' := trees l) e3 ⟨rfl, rfl, rfl, rfl⟩ hn_top (List.Sublist.refl _) (.nil rfl)
    refine cp_loop G (Sit.toNd J') h5 hok S3 (fun fb as4 s4 S4 => ?_) fun ln fb es x dx s4 hl P => ?_
    · exact wpAny_execs_nil (kn [] [] as4 _ s4 S4 (k1 fb))
    · refine exc_back (X := W.x []) (Sit.toNd J') J'.frame P fun s5 P5 => ?_
      exact ke 208 es x [dx] s5 P5 fun s6 P6 => k2 ln fb es x dx s6 hl P6

theorem law_tail (G : W.Good) {ts : List TS} {cells : List V} {Q : Flow → Shared → Prop} (h2 : 2 ≤ ts.length) (h5 : ts.length < 5) (hts : LaidTs W ts) (J : Sit (W.x []) dL A lawF.scope env h₀ L)
    (S : St (W.x []) h₀ L (trees ts) as ⟨[.list cells, .list ((roots ts).map .top)], loc0 (dueIs ts)⟩ s) (kQ : ∀ s', Fin' W s' → Q (.ret (.bool true)) s') : wpAny (model P0 W.w) A (execs [lawS 3, lawS 4] env) Q E s := by
  obtain ⟨p1, p2, p3, q1, q2, q3, q4, q5, q6, q7, q8, hsh⟩ := shape_try
  rw [hsh]
  have hD := dueIs_ok ts
  have hbad := dueIs_bad ts
  generalize dueIs ts = D at *
  have hall : ∀ t ∈ ts.reverse, t.Ok W := fun t m => laid_all hts t (List.mem_reverse.mp m)
  have h2' : 2 ≤ ts.reverse.length := by rw [List.length_reverse]; exact h2
  have h5' : ts.reverse.length < 5 := by rw [List.length_reverse]; exact h5
  have hro : roots ts = (roots ts.reverse).reverse := by unfold roots; rw [List.map_reverse, List.reverse_reverse]
  have S0 := S.perm (trees_rev ts)
  rw [hro] at S0
  generalize ts.reverse = l at *
  have hrl : (roots l).length = l.length := by unfold roots; rw [List.length_map]
  have hlen : as.length = 2 := as_len S0
  obtain ⟨a0, a1, rfl⟩ : ∃ a0 a1, as = [a0, a1] := by
    rcases as with _ | ⟨a0, _ | ⟨a1, _ | ⟨a2, as⟩⟩⟩
    · cases hlen
    · cases hlen
    · exact ⟨_, _, rfl⟩
    · cases hlen
  have S1 : St (W.x (roots l)) h₀ L (trees l) [a1] ⟨[.list (tail (roots l).length).reverse], [("body", .ref 0), ("due", D)]⟩ s := by
    refine St.view (X := W.x []) (X' := W.x (roots l)) (idx := [1]) (as := [a0, a1]) S0 ⟨rfl, rfl, rfl, rfl⟩ rfl (.cons (fun ob q => or_list ?_ q) .nil) (fun x v e => ?_) (List.Sublist.refl _) (nds_roots hall)
    · rw [List.map_reverse]
      exact (tail_top (roots l)).reverse
    · unfold lk at e
      split at e
      · rename_i q
        cases e
        cases eqS_iff.mp q
        exact ⟨.ref 1, rfl, fun u hu => hu⟩
      · unfold lk at e
        split at e
        · rename_i q
          cases e
          cases eqS_iff.mp q
          exact ⟨D, rfl, fun u hu => hu.flat (by rcases hD with rfl | ⟨z, rfl⟩ <;> rfl)⟩
        · cases e
  have J1 : Sit (W.x (roots l)) dL A lawF.scope env h₀ L := Sit.toNd J
  have hp := eP (l := roots l) (by omega) (by omega) hD
  obtain ⟨nm, a, cd, henv⟩ := id J.envis
  refine wpAny_execs_cons (wpAny_Try_except (wpAny_execs_cons (wpAny_Expr_any ?_ ?_ (swaps_no (noComp_cp p1 p2)))))
  · refine wpAny_Call_NameR (load_ok (G.ok (roots l)) J1 S1 (load_cp _) fun u0 hu0 => ?_)
    cases hu0
    refine call_es (P := fun h => W.K.In h) (first := []) noStar_prog (keeps_K ((G.ok []).keep 394 (.inl (by rw [show (W.x []).t.fn 394 = some cpF from fn_cp]; rfl)))) ?_
    rw [star_prog]
    refine spliced_cons ((G.sd (roots l)).ex hp J1 S1 (fun _ _ _ q => nomatch q) fun v c2 q as2 s2 u x2 S2 hu => ?_)
    cases q
    refine spliced_nil ⟨J1.K.keeps S2.keep, call_run (X := W.x []) ?_⟩
    refine cp_call G h5' h2' hall hD J1 S2 hu (fun fb s3 S3 => ?_) fun ln fb es x dx s3 hl P => ?_
    · rw [fb] at hbad
      dsimp only at hbad
      subst hbad
      refine wpAny_execs_nil (wpAny_execs_nil (wpAny_execs_cons ((G.sd []).st law_end J S3 (fun _ _ _ q => nomatch q) ⟨(fun _ q => nomatch q), fun v c4 q as4 s4 u4 x4 S4 hu4 => ?_⟩)))
      cases q
      cases hu4
      obtain ⟨m, objs, F, N, nd, hH, hL⟩ := S4.ex
      exact kQ s4 ⟨fun b o e => F.keep b o (J.stays b o e), S4.sh⟩
    · rw [fb] at hbad
      dsimp only at hbad
      subst hbad
      obtain ⟨f2, Z⟩ := sf_of (w := W.w) (mg := W.mg) (mb := W.mb) (base := W.base) (nd := []) (g := W.g0) (dr := W.dr) (os := W.os) G.chk
      refine caught_as (X := W.x []) (G.ok []) Z g_sf sc_sf (by decide) sc_e J P fun g ox T oT dx' s4 u hl' Jg Sg hd Wf hm => ?_
      obtain ⟨m, Fm, hm⟩ := hm
      have S4 := Sg [("due", .int ln)] fun y w hy => by
        refine ⟨hy, ?_⟩
        unfold lk at hy
        split at hy
        · rename_i hq
          cases hy
          cases eqS_iff.mp hq
          exact show ("due" : Str) ≠ "e" by decide
        · cases hy
      subst henv
      refine wpAny_execs_cons (wpAny_Return_some (wpAny_Compare1 (Attribute_name (nameX_L (cl := []) Fm hm (exc_val (X := W.x []) Z (.inr rfl) Jg S4 Wf hd rfl hl rfl fun u0 hu0 => ?_) Jg.kind sc_e (by decide))) rfl))
      obtain ⟨tk, rfl⟩ := hu0
      refine load_ok (G.ok []) Jg (S4.toks _) (local_ok _ (v := .int ln) (by unfold lk; rw [eqS_iff.mpr rfl]) sc_due (by decide)) fun u1 hu1 => ?_
      obtain ⟨tk1, rfl⟩ := hu1
      refine PyProof.Rows.eq_int ?_
      rw [beq_self_eq_true]
      obtain ⟨m4, objs4, F4, N4, nd4, hH4, hL4⟩ := (S4.toks (s4.toks + 1)).ex
      refine name_goes_keeps F4 N4 (fun h9 v9 F9 N9 => ?_) Jg.kind sc_e
      exact kQ _ ⟨fun b o e => F9.keep b o (Jg.stays b o e), S4.sh⟩
  · subst henv
    unfold interactive
    show (lawF.scope.kind == .module && _) = false
    rw [J.kind]; rfl
end
end Mine

end
section
open PySem PySem.W PySem.Calls PyProof.Rows PySem.Spec PySem.Builtin
namespace Mine
theorem shape_cells : ∃ (n1 n2 n3 n4 : Nat) (p1 p2 p3 p4 p5 p6 p7 p8 p9 p10 p11 p12 p13 p14 p15 p16 : Pos), lawS 0 = .Assign [.Name "cells" p1] (.Subscript (.BinOp (.Call (.Name "list" p2) [.Subscript (.Name "script" p3) (.Slice none (some (.Constant (.int 9) n1 p4)) none p5) p6] [] p7) .Add
    (.BinOp (.List [.Constant (.int 0) n2 p8] p9) .Mult (.Constant (.int 9) n3 p10) p11) p12) (.Slice none (some (.Constant (.int 9) n4 p13)) none p14) p15) p16 := ⟨_, _, _, _, _, _, _, _, _, _, _, _, _, _, _, _, _, _, _, _, rfl⟩
theorem sc_cells : localName lawF.scope "cells" = true := by kernel_rfl
theorem sc_script : lawF.scope.names.lookup ("script" : Str) = some .local := by kernel_rfl
theorem load_list (c : C) : loadN tops lawF.scope "list" c = some (.ty "list") := by kernel_rfl

theorem pick9 (vs : List Value) : slicePick vs.toArray none (some 9) none = (vs.take 9).toArray := by
  have e : sliceBounds none (some 9) none vs.toArray.size = (((0 : Nat) : Int), ((min 9 vs.toArray.size : Nat) : Int), 1) := by
    simp only [sliceBounds, Option.getD_none, show (1 : Int) > 0 by decide, if_true, if_neg (show ¬ ((9 : Int) < 0) by omega)]
    congr 1
    congr 1
    omega
  rw [kmk_pick_nat _ e, Nat.sub_zero, List.size_toArray]
  show ((vs.drop 0).take (min 9 vs.length)).toArray = _
  rw [List.drop_zero, kmk_take_min]

section
variable {W : Wd} {nd nd' : List Addr} {h₀ : Heap} {L : Addr} {rest rest' : List (Addr × Obj)} {X X' : Cx} {as as' : List Addr} {r : Rs} {c c' : C} {s : Shared} {d : Nat} {sc : Scope} {A : Around} {env : Env} {E : Value → Shared → Prop} {m : Str → Option Value} {news : List (Addr × Obj)} {prog : Program} {w : World}

theorem cut9 {value : PySem.Expr} {n : Nat} {p1 p2 : Pos} {l : Addr} {vs : List Value} {Q : Value → Shared → Prop} (F : Fr h₀ L s.heap m) (N : News h₀ L s.heap news) (hl : s.heap.IsList l vs.toArray) (hz : vs.length ≤ 1000)
    (h : ∀ h' D tk, Fr h₀ L h' m → News h₀ L h' ((D, { cls := .type "list", data := .seq (vs.take 9).toArray }) :: news) → Q (.ref D) { s with heap := h', toks := tk }) :
    wpAny (model prog w) A (eval (.Slice none (some (.Constant (.int 9) n p1)) none p2) env) (fun i s2 => wpAny (model prog w) A (subscriptTail value (.Slice none (some (.Constant (.int 9) n p1)) none p2) (.ref l) i) Q E s2) E s := by
  refine wpAny_Slice (wpAny_pure ?_)
  show wpAny _ _ (eval (.Constant (.int 9) n p1) env) _ _ _
  refine wpAny_Constant_int (wpAny_pure ?_)
  have F1 := F.push { cls := .type "slice", data := .fields #[.none, .int 9 s.toks, .none] }
  have N1 := N.pushKeep { cls := .type "slice", data := .fields #[.none, .int 9 s.toks, .none] }
  refine tail_on (ops := [.ref s.heap.objs.size, .ref l]) ⟨"list", _, list_getitem_lookup, Heap.IsList.typeIs (s := { s with heap := s.heap.push { cls := .type "slice", data := .fields #[.none, .int 9 s.toks, .none] }, toks := s.toks + 1 }) (hl.push _),
    wpAny_getItem_list_slice (hl.push _) (Heap.IsSliceOf.new ..) .none (.int 9 _) .none (by decide) ?_ (by rw [List.size_toArray, sizeLine_eq]; omega)⟩ rfl
  rw [pick9]
  exact h _ _ _ (F1.push _) (News.push F1 N1 _)
theorem nine {ys : List Value} {ns : List Int} (h : IntsAre ys ns) (hl : ns.length = 9) : ∃ k b0 b1 b2 b3 d0 d1 d2 d3 : Nat, k < 3 ∧ (b0 < 17 ∧ b1 < 17 ∧ b2 < 17 ∧ b3 < 17) ∧ (d0 < 8 ∧ d1 < 8 ∧ d2 < 8 ∧ d3 < 8) ∧ ∀ X as, F2 (VR X as) (cellsV k b0 b1 b2 b3 d0 d1 d2 d3).reverse ys := by
  have lt : ∀ (i : Int) (m : Nat), 0 < m → (i.fmod m).toNat < m := fun i m hm => by
    have h1 := Int.fmod_lt_of_pos i (b := (m : Int)) (by omega)
    have h2 := Int.fmod_nonneg_of_pos i (b := (m : Int)) (by omega)
    omega
  have v : ∀ (X : Cx) (as : List Addr) (i : Int) (t : Tok) (m : Nat), 0 < m → VR X as (.cg m (i.fmod m).toNat) (.int i t) := fun X as i t m hm => ⟨i, t, rfl, (fmod_nat hm).symm⟩
  cases h with
  | nil => cases hl
  | cons i0 t0 h => cases h with
    | nil => cases hl
    | cons i1 t1 h => cases h with
      | nil => cases hl
      | cons i2 t2 h => cases h with
        | nil => cases hl
        | cons i3 t3 h => cases h with
          | nil => cases hl
          | cons i4 t4 h => cases h with
            | nil => cases hl
            | cons i5 t5 h => cases h with
              | nil => cases hl
              | cons i6 t6 h => cases h with
                | nil => cases hl
                | cons i7 t7 h => cases h with
                  | nil => cases hl
                  | cons i8 t8 h => cases h with
                    | nil =>
                      exact ⟨(i0.fmod (3 : Nat)).toNat, (i1.fmod (17 : Nat)).toNat, (i2.fmod (17 : Nat)).toNat, (i3.fmod (17 : Nat)).toNat, (i4.fmod (17 : Nat)).toNat, (i5.fmod (8 : Nat)).toNat, (i6.fmod (8 : Nat)).toNat, (i7.fmod (8 : Nat)).toNat, (i8.fmod (8 : Nat)).toNat,
                        lt _ _ (by decide), ⟨lt _ _ (by decide), lt _ _ (by decide), lt _ _ (by decide), lt _ _ (by decide)⟩, ⟨lt _ _ (by decide), lt _ _ (by decide), lt _ _ (by decide), lt _ _ (by decide)⟩, fun X as =>
                        .cons (v X as _ _ _ (by decide)) (.cons (v X as _ _ _ (by decide)) (.cons (v X as _ _ _ (by decide)) (.cons (v X as _ _ _ (by decide)) (.cons (v X as _ _ _ (by decide)) (.cons (v X as _ _ _ (by decide)) (.cons (v X as _ _ _ (by decide)) (.cons (v X as _ _ _ (by decide)) (.cons (v X as _ _ _ (by decide)) .nil))))))))⟩
                    | cons i9 t9 h => simp at hl

theorem zeros (t : Tok) : IntsAre (List.replicate 9 (Value.int 0 t)) (List.replicate 9 0) := .cons _ _ (.cons _ _ (.cons _ _ (.cons _ _ (.cons _ _ (.cons _ _ (.cons _ _ (.cons _ _ (.cons _ _ .nil))))))))
theorem cells_ok (G : W.Good) (J : Sit (W.x []) dL A lawF.scope env h₀ L) {a : Addr} {vs : List Value} {ns : List Int} {Q : Flow → Shared → Prop} (F : Fr h₀ L s.heap m) (hm : m "script" = some (.ref a)) (hl : s.heap.IsList a vs.toArray) (hi : IntsAre vs ns) (hz : ns.length ≤ 63)
    (hsh : s.gens = W.g0 ∧ s.drawn = W.dr ∧ s.os = W.os)
    (kQ : ∀ s' D k b0 b1 b2 b3 d0 d1 d2 d3, k < 3 → (b0 < 17 ∧ b1 < 17 ∧ b2 < 17 ∧ b3 < 17) → (d0 < 8 ∧ d1 < 8 ∧ d2 < 8 ∧ d3 < 8) → St (W.x []) h₀ L [] [D] ⟨[.list (cellsV k b0 b1 b2 b3 d0 d1 d2 d3)], [("cells", .ref 0)]⟩ s' → Q .next s') :
    wpAny (model P0 W.w) A (exec (lawS 0) env) Q E s := by
  obtain ⟨n1, n2, n3, n4, p1, p2, p3, p4, p5, p6, p7, p8, p9, p10, p11, p12, p13, p14, p15, p16, hsp⟩ := shape_cells
  rw [hsp]
  obtain ⟨nm, fa, cd, henv⟩ := id J.envis
  have hvl : vs.length ≤ 63 := by rw [hi.length]; exact hz
  have S : St (W.x []) h₀ L [] [] ⟨[], []⟩ s := ⟨⟨m, [], F, (fun p hp => nomatch hp), .nil, ⟨rfl, .nil⟩, fun x v e => nomatch e⟩, .nil rfl, hsh⟩
  have sz : sizeLine = 2 ^ 24 := sizeLine_eq
  refine wpAny_Assign_Name ?_ (swaps_no rfl)
  refine Subscript_ (wpAny_BinOp ?_)
  -- list(script[:9])
  refine wpAny_Call_NameR (load_ok (G.ok []) J S (load_list _) fun u0 hu0 => ?_)
  cases hu0
  refine call_es (P := fun _ => True) (first := []) rfl keep_type ?_
  have e1 : backTo p7 (starEach [.Subscript (.Name "script" p3) (.Slice none (some (.Constant (.int 9) n1 p4)) none p5) p6] env) = [(false, eval (.Subscript (.Name "script" p3) (.Slice none (some (.Constant (.int 9) n1 p4)) none p5) p6) env)] := rfl
  rw [e1]
  refine spliced_cons (Subscript_ ?_)
  subst henv
  refine nameX_L (cl := []) F hm ?_ J.kind sc_script (by decide)
  refine cut9 F (News.nil : News _ _ _ []) hl (by omega) fun h1 D1 tk1 F1 N1 => ?_
  refine spliced_nil ⟨trivial, ?_⟩
  refine list_copyK F1 N1 ⟨_, N1.get (.head _), rfl, 0, rfl⟩ (fun D2 e2 h2 F2' N2 lt2 => ?_) (by rw [List.size_toArray, List.length_take]; omega)
  -- [0] * 9
  refine wpAny_BinOp (List_ ?_)
  have e3 : ∀ env : Env, backTo p9 (starEach [.Constant (.int 0) n2 p8] env) = [(false, eval (.Constant (.int 0) n2 p8) env)] := fun _ => rfl
  rw [e3]
  refine spliced_cons (wpAny_Constant_int (spliced_nil ?_))
  refine newList_N F2' N2 (fun h3 F3 N3 => ?_) (by rw [sz, List.length_singleton]; omega)
  refine wpAny_Constant_int ?_
  refine mul_list F3 N3 (N3.get (.head _)) (by decide) (by decide) (by simp) fun h4 F4 N4 => ?_
  have hzs : (List.foldl (fun x1 x2 => x1 ++ x2) #[] (List.replicate (if ([Value.int 0 tk1].toArray).isEmpty = true then 0 else (9 : Int).toNat) [Value.int 0 tk1].toArray)) = (List.replicate 9 (Value.int 0 tk1)).toArray := rfl
  change News h₀ L h4 ((_, { cls := .type "list", data := .seq (List.foldl (fun x1 x2 => x1 ++ x2) #[] (List.replicate (if ([Value.int 0 tk1].toArray).isEmpty = true then 0 else (9 : Int).toNat) [Value.int 0 tk1].toArray)) }) :: _) at N4
  rw [hzs] at N4
  -- the sum
  refine add_lists F4 N4 (vs := vs.take 9) (ws := List.replicate 9 (Value.int 0 tk1)) ⟨_, N4.get (.tail _ (.tail _ (.head _))), rfl, _, rfl⟩ ⟨_, N4.get (.head _), rfl, _, rfl⟩ (fun h5 F5 N5 => ?_) (by rw [List.length_take, List.length_replicate]; omega)
  refine cut9 F5 N5 ⟨_, N5.get (.head _), rfl, _, rfl⟩ (by rw [List.length_append, List.length_take, List.length_replicate]; omega) fun h6 D6 tk6 F6 N6 => ?_
  obtain ⟨k, b0, b1, b2, b3, d0, d1, d2, d3, hk, hb, hd, hF⟩ := nine (((hi.take 9).append (zeros tk1)).take 9) (by simp)
  refine stN F6 N6 (fun h7 F7 N7 => ?_) J.kind (localName_is sc_cells)
  refine kQ _ D6 k b0 b1 b2 b3 d0 d1 d2 d3 hk hb hd ⟨⟨_, [(D6, _)], F7, fun p hp => N7 p ?_, by simp, ⟨rfl, .cons ⟨_, 0, rfl, hF _ _⟩ .nil⟩, fun x v e => ?_⟩, .nil rfl, hsh⟩
  · simp only [List.append_nil, List.mem_singleton] at hp
    subst hp
    exact .head _
  · unfold lk at e
    split at e
    · rename_i q
      cases e
      cases eqS_iff.mp q
      exact ⟨_, if_pos rfl, D6, rfl, rfl⟩
    · cases e
end
end Mine

end
section
open PySem PySem.W PySem.Calls PyProof.Rows PySem.Spec PySem.Builtin
namespace Mine
theorem law_body : lawF.body = [lawS 0, lawS 1, lawS 2, lawS 3, lawS 4] := by kernel_rfl
theorem shape_for : ∃ p : Pos, lawS 2 = .For forTg forIt forB [] p := ⟨_, rfl⟩
theorem noComp_for : isComp forIt = false := by kernel_rfl

theorem src_is {k : Nat} (hk : k < 3) (xs : List V) : srcOf tops ⟨[.list xs, .list [], .rng (2 + k)], loc0 .none⟩ (.ref 2) = some (.rng 0 (2 + k)) := by
  iterate 3 (rcases k with _ | k; (· kernel_rfl))
  omega
theorem drop_rng (xs : List V) (b : Int) : recast keepN [0, 1] ks0 ⟨[.list (xs), .list [], .rng b], loc0 .none⟩ = (recast keepN [0, 1] ks0 ⟨[.list xs, .list []], loc0 .none⟩) := by kernel_rfl
theorem keep_two (k b0 b1 b2 b3 d0 d1 d2 d3 : Nat) : recast keepN [0, 1] ks0 ⟨[.list (cellsV k b0 b1 b2 b3 d0 d1 d2 d3), .list []], loc0 .none⟩ = some ⟨[.list (cellsV k b0 b1 b2 b3 d0 d1 d2 d3), .list []], loc0 .none⟩ := by kernel_rfl
theorem hloc0 : lawF.scope.names.lookup ("script" : Str) = some .local := sc_script
theorem law_sc : lawF.scope.kind = .function ∧ lawF.scope.isCoroutine = false ∧ lawF.scope.isGenerator = false ∧ lawF.scope.names.all (fun x => match x.2 with | .cell => false | _ => true) = true := ⟨by kernel_rfl, by kernel_rfl, by kernel_rfl, by kernel_rfl⟩
theorem law_cell : ∀ x ∈ lawF.scope.names, x.2 ≠ .cell := fun x hx e => by
  have := List.all_eq_true.mp law_sc.2.2.2 x hx
  rw [e] at this
  cases this

theorem law_run {W : Wd} (G : W.Good) {h₀ : Heap} {L : Addr} {A : Around} {env : Env} {E : Value → Shared → Prop} {s : Shared} (J : Sit (W.x []) dL A lawF.scope env h₀ L) {m : Str → Option Value} {a : Addr} {vs : List Value} {ns : List Int} {Q : Flow → Shared → Prop} (F : Fr h₀ L s.heap m)
    (hm : m "script" = some (.ref a)) (hl : s.heap.IsList a vs.toArray) (hi : IntsAre vs ns) (hz : ns.length ≤ 63) (hsh : s.gens = W.g0 ∧ s.drawn = W.dr ∧ s.os = W.os) (kQ : ∀ s', Fin' W s' → Q (.ret (.bool true)) s') : wpAny (model P0 W.w) A (execs lawF.body env) Q E s := by
  rw [law_body]
  refine wpAny_execs_cons (cells_ok G J F hm hl hi hz hsh fun s1 D k b0 b1 b2 b3 d0 d1 d2 d3 hk hb hd S1 => ?_)
  refine wpAny_execs_cons (runC_go G (e1 k b0 b1 b2 b3 d0 d1 d2 d3) J S1 fun as2 s2 x2 S2 => ?_)
  obtain ⟨p, hp⟩ := shape_for
  rw [hp]
  refine wpAny_execs_cons (wpAny_For ((G.sd []).ex (eF k b0 b1 b2 b3 d0 d1 d2 d3 hk) J S2 (fun _ _ _ q => nomatch q) fun v c3 q as3 s3 u x3 S3 hu => ?_) (folded_no noComp_for))
  cases q
  refine iter_ok (G.ok []) J S3 (src_is hk _) hu fun it ot s4 S4 I4 => ?_
  have S5 := S4.recast (X' := W.x []) (fn := keepN) (idx := [0, 1]) (ks := ks0) ((drop_rng _ _).trans (keep_two k b0 b1 b2 b3 d0 d1 d2 d3)) ⟨rfl, rfl, rfl, rfl⟩ hn_keep (List.Sublist.refl _) (.nil rfl)
  refine law_loop G J hb hd (m := 2 + k) (by omega) (fun ts as6 s6 hl6 hts S6 => ?_) (left := 2 + k) (ts := []) (by simp) trivial S5 ?_
  · exact law_tail G (by omega) (by omega) hts J S6 kQ
  · have e : ((2 + k : Nat) : Int) = 2 + (k : Int) := by omega
    rw [e]
    exact I4

theorem walk0 (d : DefRec) (hd : dlaw = some (d, [])) (hdef : d.params.defaults = []) (hfn : some (⟨d.params, d.body, d.scope⟩ : Fn) = fnOfStmt (stmt 44)) : WalkX q0 loose0 (XL q0 []) (Yf T0) (Ya T0 fnTab) R0.toRowW d [] fun f vs => PySem.call f vs := by
  intro w s₀ s₁ mg mb G Y fa o pm cd doc dV kV ho hdat hcd hD hmg hg args vals as L hpre hlay hrd hwl hlo
  wrow_args hpre hlay hrd hwl hlo
  rename_i ns _ _ _ _ _ _ _ l vs _ hl _ _ _ hI _ hlen _
  refine enter_call (codeAny_mono ?_ fun _ _ g => GoodW.toG g)
  obtain ⟨y1, y2, y3, y4⟩ : chk T0 (fr s₀.heap) = true ∧ ((fr s₀.heap).lookup sysModules).isSome = true ∧ fnsV T0 (fr s₀.heap) = fnTab ∧ hashV T0 (fr s₀.heap) = hashE T0 w.params := by
    have Y' : (chk T0 (fr s₀.heap), ((fr s₀.heap).lookup sysModules).isSome, fnsV T0 (fr s₀.heap), hashV T0 (fr s₀.heap)) = (true, true, fnTab, hashE T0 w.params) := Y
    simpa only [Prod.mk.injEq] using Y'
  have TR : TopRead P0 looseA mg mb s₁.heap := read_of G.T
  have kin : (fr s₀.heap).In s₁.heap := (fr_in _).keeps L.keeps
  let W : Wd := ⟨w, fr s₀.heap, mg, mb, s₁.heap, s₁.gens, s₁.drawn, s₁.os⟩
  have GW : W.Good := ⟨y1, fun nd => ok_of y1 y3 y4 y2 kin TR⟩
  have hf : (⟨d.params, d.body, d.scope⟩ : Fn) = lawF := by unfold lawF; rw [← hfn]; rfl
  obtain ⟨e1, e2, e3⟩ : d.params = lawF.params ∧ d.body = lawF.body ∧ d.scope = lawF.scope := ⟨congrArg Fn.params hf, congrArg Fn.body hf, congrArg Fn.scope hf⟩
  have he := Dflts.none hD hdef
  subst he
  generalize d.params = dp at *
  generalize d.body = db at *
  generalize d.scope = ds at *
  subst e1 e2 e3
  have B := below_caller s₁.heap
  refine call_fullW (binds := [(("script" : Str), Value.ref l)]) (by decide) ho hdat TR.nolimit hcd (BindsTo.of_eq rfl) (fun x hx => ?_) (fun h₁ F => ?_) law_sc.2.1 law_sc.2.2.1 law_sc.1 law_cell
  · rw [List.mem_singleton] at hx
    subst hx
    exact sc_script
  · have J : Sit (W.x []) dL (callerA.deeper (envOf d.name lawF.scope s₁.heap.objs.size fa cd)) lawF.scope (envOf d.name lawF.scope s₁.heap.objs.size fa cd) s₁.heap s₁.heap.objs.size :=
      ⟨⟨callerA, [], B, Around.frames_deeper B.stack⟩, ⟨_, _, _, rfl⟩, law_sc.1, fun _ _ e => e, by show callerA.depth + 1 + 2 * 36 + 2 < recursionLimit; decide, by show callerA.units + 3 + 20 * 36 + 100 < cLine; decide, rfl, kin, TR⟩
    refine law_run GW J F rfl (Exists.elim hl fun o h => ⟨o, F.keep _ _ h.1, h.2⟩) hI (by omega) ⟨rfl, rfl, rfl⟩ fun s' Z => ?_
    exact ⟨.inl ⟨.bool true, .bool true, [], rfl, raisesW_false (by wrow_none_raised), .bool true, by wrow_post, unshared_nil⟩, Z.keep, Z.sh.2.2, Z.sh.1.trans hg⟩
end Mine
theorem PySem.Challenge.cw_pc0075_01_holds : PySem.Challenge.rw_pc0075_01.Holds := by
  exact Mine.holds0 fun d hd hdef hfn => Mine.walk0 d hd hdef hfn

end
