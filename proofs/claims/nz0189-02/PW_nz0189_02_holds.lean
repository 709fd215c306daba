import PyProof.Rows.All
import Wide.All
import OpenK.AllK
import Wide.FinOn
import Lean
import PySem.Challenge.RW_nz0189_02
section
set_option genSizeOf false
set_option genSizeOfSpec false
open PySem PySem.W PyProof.Rows
set_option Elab.async false
set_option linter.unusedVariables false
namespace Mine

/-- abstract values -/
inductive V where
  | none | bool (b : Bool) | int (i : Int) | str (s : List Nat) | ref (a : Addr)
  deriving DecidableEq

inductive AObj where
  | list (vs : List V)
  | tup (vs : List V)
  | inst (c : String) (d : Addr)
  | dict (fs : List (String × V))
  | sdict (kvs : List (List Nat × Int))

noncomputable abbrev AHeap := Addr → Option AObj
noncomputable def upd (H : AHeap) (a : Addr) (o : AObj) : AHeap := fun b => if b = a then some o else H b
theorem upd_same (H : AHeap) (a : Addr) (o : AObj) : upd H a o a = some o := if_pos rfl
theorem upd_ne (H : AHeap) {a b : Addr} (o : AObj) (h : b ≠ a) : upd H a o b = H b := if_neg h

noncomputable abbrev Loc := List (Option V)

inductive C where
  | lit (v : V) | loc (i : Nat)
  | bin (op : Operator) (a b : C) | cmp (op : CmpOp) (a b : C) | neg (a : C) | andv (a b : C) | ite (t a b : C)
  | call (f : String) (args : C) | new (c : String) (args : C) (ks : List String) (kvs : C)
  | bi (f : String) (args : C) | isi (e : C) (t : String) | meth (m : String) (o args : C)
  | attr (o : C) (n : String) | sub (o i : C) | slice (o lo hi : C)
  | list (es : C) | tup (es : C) | dict (kvs : List (List Nat × Int))
  | comp (caps : List (Option Nat)) (tgt : Nat) (elt it : C)
  | range (e : C) | val (e : C)
  | nil | cons (a b : C)
  | and (ts : C) | or (ts : C) | not (t : C)

inductive S where
  | nil | seq (a b : S)
  | assign (t e : C) | assignC (i : Nat) (e : C) | assign2 (i j : Nat) (a b : C) | aug (t : C) (op : Operator) (e : C) | expr (e : C)
  | ite (t : C) (a b : S) | while (t : C) (b : S) | for (i : Nat) (it : C) (b : S)
  | ret (e : C) | raise (e : C) | tryDie (b : S)

inductive Fl where
  | next | ret (v : V)

/-- a function: its scope's names, the number of its parameters, its body -/
structure Fn where
  names : List (Str × NameKind)
  params : Nat
  body : S

set_option genInjectivity false in
structure G where
  prog : Program
  w : World
  K : Frag
  base : Heap
  mg : Str → Option Value
  mb : Str → Option Value
  addr : String → Addr
  ro : Addr → Option AObj
  gv : List (Str × V)
  fns : List (Str × String)
  cl : List (Str × String)
  T : String → Option Fn

/-! ## concrete and abstract -/
noncomputable def vrel : Value → V → Prop
  | .none, .none => True
  | .bool b, .bool c => b = c
  | .int i _, .int j => i = j
  | .str x _, .str s => x.cps.toList = s
  | .ref a, .ref b => a = b
  | _, _ => False

noncomputable def vrels : List Value → List V → Prop
  | [], [] => True
  | v :: vs, x :: xs => vrel v x ∧ vrels vs xs
  | _, _ => False

noncomputable def fieldsRel : List DictEntry → List (String × V) → Prop
  | [], [] => True
  | e :: es, f :: fs => (∃ t, e.key = .str (Str.ofString f.1) t) ∧ vrel e.val f.2 ∧ fieldsRel es fs
  | _, _ => False

noncomputable def sdRel : List (Str × Value) → List (List Nat × Int) → Prop
  | [], [] => True
  | c :: cs, f :: fs => c.1 = ⟨f.1.toArray⟩ ∧ (∃ t, c.2 = .int f.2 t) ∧ sdRel cs fs
  | _, _ => False

noncomputable def ORel (g : G) (ob : Obj) : AObj → Prop
  | .list vs => ∃ cvs n, ob = { cls := .type "list", dict := Option.none, data := .seq cvs n, slots := #[] } ∧ vrels cvs.toList vs
  | .tup vs => ob.cls = .type "tuple" ∧ ∃ cvs n, ob.data = .seq cvs n ∧ vrels cvs.toList vs
  | .inst c d => ob.cls = .ref (g.addr c) ∧ ob.dict = some d ∧ ob.data = .plain
  | .dict fs => ∃ es n, ob = dictOf es n ∧ fieldsRel es fs
  | .sdict kvs => ob.ExactDict ∧ ∃ es n ckvs, ob.data = .dict es n ∧ KeysOf (strKind g.prog g.w) es ∧ Pairs (strKind g.prog g.w) es.toList ckvs ∧ (ckvs.map (·.1)).Nodup ∧ sdRel ckvs kvs

/-- the same of the text's own read-only objects -/
noncomputable def ORo (g : G) (ob : Obj) : AObj → Prop
  | .list vs => ob.cls = .type "list" ∧ ∃ cvs n, ob.data = .seq cvs n ∧ vrels cvs.toList vs
  | o => ORel g ob o

set_option genInjectivity false in
structure Cx where
  A : Around
  env : Env
  stack : List Env
  h₀ : Heap
  mu : Addr → Prop
  own : List Addr
  os : OsState
  gens : Array GenState

noncomputable def fsOf (l : List Env) : List Addr := l.filterMap (·.frame)
noncomputable def cellsOf (env : Env) : List Addr := env.cells.map (·.2)

structure Cx.Ok (g : G) (Γ : Cx) (n : Nat) : Prop where
  fr : Γ.A.frames = some Γ.stack
  hd : Γ.A.handled = Option.none
  dp : Γ.A.depth + 2 * n < recursionLimit
  kind : Γ.env.scope.kind = .function
  gl : Γ.env.globals = mainGlobals
  bl : Γ.env.builtins = builtinsNs
  lb : g.base.get? Γ.env.locals = Option.none
  lc : Γ.env.locals ∉ cellsOf Γ.env
  cb : ∀ c ∈ cellsOf Γ.env, g.base.get? c = Option.none ∧ c ∉ fsOf Γ.stack
  cd : Γ.env.cells.Pairwise fun x y => x.2 ≠ y.2
  nd : (Γ.env.scope.names.map (·.1)).Nodup
  ow : ∀ c ∈ Γ.own, c ∈ cellsOf Γ.env
  lf : Γ.env.locals ∈ fsOf Γ.stack ∨ Γ.own = []

/-- the bound of what is kept: `B` holds all but the frames, `h` is the heap itself -/
structure CC (g : G) (Γ : Cx) (loc : Loc) (H : AHeap) (B h : Heap) : Prop where
  stay : g.base.StaysIn B
  keepX : ∀ b o, Γ.h₀.get? b = some o → ¬ Γ.mu b → b ∉ fsOf Γ.stack → b ≠ Γ.env.locals → b ∉ Γ.own → B.get? b = some o
  keepF : ∀ b ∈ fsOf Γ.stack, b ≠ Γ.env.locals → ∀ o, Γ.h₀.get? b = some o → ∃ sl, h.get? b = some { o with slots := sl }
  ff : h.FunFrames g.base Γ.stack
  led : ∀ a o, H a = some o → ∃ ob, B.get? a = some ob ∧ ORel g ob o
  adr : ∀ a o, H a = some o → g.base.get? a = Option.none ∧ a ∉ fsOf Γ.stack ∧ a ≠ Γ.env.locals ∧ a ∉ cellsOf Γ.env ∧ (Γ.h₀.get? a = Option.none ∨ Γ.mu a)
  lcs : ∃ m, h.Ns Γ.env.locals m ∧ ∀ (i : Nat) x v, Γ.env.scope.names[i]? = some (x, NameKind.local) → loc[i]? = some (some v) → ∃ cv, m x = some cv ∧ vrel cv v
  cel : ∀ (i : Nat) x, Γ.env.scope.names[i]? = some (x, NameKind.cell) → ∃ c ov, Γ.env.cells.lookup x = some c ∧ B.IsCell c ov ∧ ∀ v, loc[i]? = some (some v) → ∃ cv, ov = some cv ∧ vrel cv v
  cex : ∀ c ∈ cellsOf Γ.env, ∃ ov, B.IsCell c ov
  len : loc.length = Γ.env.scope.names.length

/-- the state behind a step -/
structure SC (g : G) (Γ : Cx) (loc : Loc) (H : AHeap) (s : Shared) : Prop where
  cc : CC g Γ loc H s.heap s.heap
  os : s.os = Γ.os
  gens : s.gens = Γ.gens

/-- an exception of the class Die on its way: new, noted, or held by the newest frame -/
noncomputable def ExcSt (B : Heap) (l : List Env) (e : Addr) (die : Value) (h : Heap) : Prop :=
  B.StaysIn h ∧ B.get? e = Option.none ∧ h.FunFrames B l ∧
    ((∃ oe vs a0, h.get? e = some oe ∧ oe.cls = die ∧ oe.data = .fields vs ∧ vs[1]? = some .none ∧ vs[0]? = some a0) ∨
     (∃ a0, h.TracedW B e die a0) ∨
     (∃ a0 L, (fsOf l).head? = some L ∧ h.TracedAtW B e die a0 (rawInt L)))

structure EC (g : G) (Γ : Cx) (H : AHeap) (e : Value) (s : Shared) : Prop where
  ex : ∃ a B loc, e = .ref a ∧ CC g Γ loc H B s.heap ∧ ExcSt B Γ.stack a (.ref (g.addr "Die")) s.heap
  os : s.os = Γ.os
  gens : s.gens = Γ.gens

noncomputable def CallSem (g : G) (n : Nat) (f : String) (args : List V) (H : AHeap) (Q : V → AHeap → Prop) (X : AHeap → Prop) : Prop :=
  ∀ (Γ : Cx) (loc : Loc) (s : Shared) (cargs : List Value) (Q' E' : Value → Shared → Prop), Γ.Ok g n → SC g Γ loc H s → 0 < s.toks → vrels cargs args →
    (∀ v cv H' s', Q v H' → vrel cv v → SC g Γ loc H' s' → Q' cv s') →
    (∀ e H' s', X H' → EC g Γ H' e s' → E' e s') →
    wpAny (model g.prog g.w) Γ.A (PySem.call (.ref (g.addr f)) cargs) Q' E' s

noncomputable def NewSem (g : G) (n : Nat) (c : String) (args : List V) (ks : List String) (kvs : List V) (H : AHeap) (Q : V → AHeap → Prop) (X : AHeap → Prop) : Prop :=
  ∀ (Γ : Cx) (loc : Loc) (s : Shared) (cargs ckvs : List Value) (Q' E' : Value → Shared → Prop), Γ.Ok g n → SC g Γ loc H s → 0 < s.toks → vrels cargs args → vrels ckvs kvs →
    (∀ v cv H' s', Q v H' → vrel cv v → SC g Γ loc H' s' → Q' cv s') →
    (∀ e H' s', X H' → EC g Γ H' e s' → E' e s') →
    wpAny (model g.prog g.w) Γ.A (PySem.call (.ref (g.addr c)) cargs ((ks.map Str.ofString).zip ckvs)) Q' E' s

/-! ## the weakest precondition -/
noncomputable def lim : Nat := 2 ^ 20

def Ob (g : G) (H : AHeap) (a : Addr) (o : AObj) : Prop := H a = some o ∨ g.ro a = some o

noncomputable def strs? : List V → Option (List (List Nat))
  | [] => some []
  | .str s :: r => (strs? r).map (s :: ·)
  | _ :: _ => .none
noncomputable def ints? : List V → Option (List Int)
  | [] => some []
  | .int s :: r => (ints? r).map (s :: ·)
  | _ :: _ => .none

def alloc (H : AHeap) (o : AObj) (K : V → AHeap → Prop) : Prop := ∀ a, H a = .none → K (.ref a) (upd H a o)

def binK (g : G) (op : Operator) (a b : V) (H : AHeap) (K : V → AHeap → Prop) : Prop := match a with
  | .int x => (match b with
    | .int y => (match op with
      | .Add => K (.int (x + y)) H
      | .Sub => K (.int (x - y)) H
      | .Mult => (-(2 ^ 64) < x ∧ x < 2 ^ 64 ∨ -(2 ^ 64) < y ∧ y < 2 ^ 64) ∧ K (.int (x * y)) H
      | .FloorDiv => (0 < y ∧ y < 2 ^ 64) ∧ K (.int (x / y)) H
      | .Mod => 0 < y ∧ K (.int (x % y)) H
      | .LShift => (0 ≤ y ∧ y ≤ 1000 ∧ x.natAbs < 2 ^ 64) ∧ K (.int (x * 2 ^ y.toNat)) H
      | .RShift => 0 ≤ y ∧ K (.int (x / 2 ^ y.toNat)) H
      | .Pow => (0 ≤ y ∧ y ≤ 1000 ∧ 0 ≤ x ∧ x < 2 ^ 64) ∧ K (.int (x ^ y.toNat)) H
      | _ => False)
    | _ => False)
  | .str x => (match b with
    | .str y => if op = .Add then x.length + y.length ≤ lim ∧ K (.str (x ++ y)) H else False
    | .int y => if op = .Mult then (x.length = 1 ∧ y ≤ lim ∧ -lim ≤ y) ∧ K (.str (List.replicate y.toNat (x.headD 0))) H else False
    | _ => False)
  | .ref p => (match b with
    | .ref q => if op = .Add then ∃ xs ys, Ob g H p (.list xs) ∧ H q = some (.list ys) ∧ xs.length + ys.length ≤ lim ∧ alloc H (.list (xs ++ ys)) K else False
    | _ => False)
  | _ => False

def iopK (op : Operator) (a b : V) (H : AHeap) (K : V → AHeap → Prop) : Prop := match a with
  | .int x => (match b with
    | .int y => (match op with
      | .Add => K (.int (x + y)) H
      | .Sub => K (.int (x - y)) H
      | .FloorDiv => (0 < y ∧ y < 2 ^ 64) ∧ K (.int (x / y)) H
      | .Mod => 0 < y ∧ K (.int (x % y)) H
      | _ => False)
    | _ => False)
  | .str x => (match b with
    | .str y => if op = .Add then x.length + y.length ≤ lim ∧ K (.str (x ++ y)) H else False
    | _ => False)
  | _ => False

def cmpK (g : G) (op : CmpOp) (a b : V) (H : AHeap) (K : Bool → Prop) : Prop := match b with
  | .none => (match op with
    | .Is => K (decide (a = .none))
    | .IsNot => K (decide (a ≠ .none))
    | .Eq => (match a with
      | .none => K true
      | .str _ => K false
      | _ => False)
    | _ => False)
  | .int y => (match a with
    | .int x => (match op with
      | .Eq => K (decide (x = y))
      | .NotEq => K (decide (x ≠ y))
      | .Lt => K (decide (x < y))
      | .LtE => K (decide (x ≤ y))
      | .Gt => K (decide (y < x))
      | .GtE => K (decide (y ≤ x))
      | _ => False)
    | .none => if op = .Eq then K false else False
    | _ => False)
  | .str y => (match a with
    | .str x => (match op with
      | .Eq => K (decide (x = y))
      | .NotEq => K (decide (x ≠ y))
      | .In => ∃ c, x = [c] ∧ K (decide (c ∈ y))
      | .NotIn => ∃ c, x = [c] ∧ K (decide (c ∉ y))
      | _ => False)
    | .none => if op = .Eq then K false else False
    | _ => False)
  | .ref p => (match a with
    | .str x => if op = .In then ∃ vs ss, H p = some (.tup vs) ∧ strs? vs = some ss ∧ K (decide (x ∈ ss)) else False
    | .none => if op = .In then ∃ vs, H p = some (.list vs) ∧ (∀ v ∈ vs, v = .none ∨ ∃ s, v = .str s) ∧ vs.length ≤ lim ∧ K (decide (V.none ∈ vs)) else False
    | _ => False)
  | _ => False

def truthK (v : V) (K : Bool → Prop) : Prop := match v with
  | .bool b => K b
  | .int i => K (decide (i ≠ 0))
  | _ => False

noncomputable def decDigits (n : Nat) : List Nat := (Nat.toDigits 10 n).map Char.toNat
noncomputable def decText (i : Int) : List Nat := if i < 0 then 45 :: decDigits i.natAbs else decDigits i.natAbs

def biK (f : String) (vs : List V) (H : AHeap) (g : G) (K : V → Prop) : Prop := match vs with
  | [v] => (match v with
    | .str s => if f = "len" then s.length ≤ lim ∧ K (.int s.length)
      else if f = "int" then ∃ c, s = [c] ∧ 48 ≤ c ∧ c ≤ 57 ∧ K (.int (c - 48)) else False
    | .ref a => if f = "len" then ∃ xs, (Ob g H a (.list xs)) ∧ xs.length ≤ lim ∧ K (.int xs.length)
      else if f = "sum" then ∃ xs ns, H a = some (.list xs) ∧ ints? xs = some ns ∧ xs.length ≤ lim ∧ K (.int ns.sum) else False
    | .int x => if f = "abs" then K (.int x.natAbs)
      else if f = "chr" then 0 ≤ x ∧ x ≤ 1114111 ∧ K (.str [x.toNat])
      else if f = "str" then (-(10 ^ 10) < x ∧ x < 10 ^ 10) ∧ K (.str (decText x)) else False
    | _ => False)
  | [v, u] => (match v with
    | .int x => (match u with
      | .int y => if f = "max" then K (.int (max x y)) else if f = "min" then K (.int (min x y)) else False
      | _ => False)
    | _ => False)
  | _ => False

def isiK (v : V) (t : String) (H : AHeap) (K : Bool → Prop) : Prop := match v with
  | .none => if t = "int" ∨ t = "str" then K false else False
  | .int _ => if t = "int" then K true else if t = "str" then K false else False
  | .str _ => if t = "int" ∨ t = "Ref" then K false else if t = "str" then K true else False
  | .ref a => if t = "str" then (∃ vs, H a = some (.tup vs)) ∧ K false else False
  | _ => False

noncomputable def idxOf (c : Nat) : List Nat → Nat
  | [] => 0
  | x :: r => if x = c then 0 else idxOf c r + 1

def methK (m : String) (o : V) (vs : List V) (H : AHeap) (K : V → AHeap → Prop) : Prop := match o with
  | .str s => (match vs with
    | [] => if m = "upper" then ∃ c, s = [c] ∧ c < 128 ∧ K (.str [if 97 ≤ c ∧ c ≤ 122 then c - 32 else c]) H else False
    | [v] => (match v with
      | .str x => if m = "find" ∨ m = "index" then ∃ c, x = [c] ∧ c ∈ s ∧ s.length ≤ lim ∧ K (.int (idxOf c s)) H else False
      | .ref a => if m = "join" then ∃ xs ss, s = [] ∧ H a = some (.list xs) ∧ strs? xs = some ss ∧ xs.length ≤ lim ∧ ss.flatten.length ≤ lim ∧ K (.str ss.flatten) H else False
      | _ => False)
    | [v, u] => (match v with
      | .str x => (match u with
        | .str y => if m = "replace" then ∃ r, Txt.replace ⟨s.toArray⟩ ⟨x.toArray⟩ ⟨y.toArray⟩ = r ∧ s.length ≤ 64 ∧ y.length ≤ 14 ∧ x ≠ y ∧ K (.str r.cps.toList) H else False
        | _ => False)
      | _ => False)
    | _ => False)
  | .ref a => (match vs with
    | [v] => if m = "append" then ∃ xs, H a = some (.list xs) ∧ xs.length ≤ lim ∧ K .none (upd H a (.list (xs ++ [v]))) else False
    | [u, v] => (match u with
      | .int k => if m = "insert" then ∃ xs, H a = some (.list xs) ∧ xs.length ≤ lim ∧ 0 ≤ k ∧ k ≤ xs.length ∧ K .none (upd H a (.list (xs.take k.toNat ++ v :: xs.drop k.toNat))) else False
      | _ => False)
    | _ => False)
  | _ => False

def methOk (m : String) (o : V) (H : AHeap) : Prop := match o with
  | .str _ => m = "find" ∨ m = "index" ∨ m = "upper" ∨ m = "join" ∨ m = "replace"
  | .ref a => (m = "append" ∨ m = "insert") ∧ ∃ xs, H a = some (.list xs)
  | _ => False

noncomputable def clsNames : List String := ["Directive", "ValueRow", "Limits"]
noncomputable def attrStrs : List String := ["index", "flags", "width", "width_star", "precision", "precision_star", "letter", "values", "at", "depth", "steps", "text", "items"]

def attrK (o : V) (n : String) (H : AHeap) (K : V → Prop) : Prop := match o with
  | .ref a => (match H a with
    | some (.inst c d) => c ∈ clsNames ∧ n ∈ attrStrs ∧ (match H d with
      | some (.dict fs) => (match fs.lookup n with
        | some v => K v
        | .none => False)
      | _ => False)
    | _ => False)
  | _ => False

def subK (g : G) (o i : V) (H : AHeap) (K : V → Prop) : Prop := match o, i with
  | .str s, .int k => 0 ≤ k ∧ s.length ≤ lim ∧ ∃ c, s[k.toNat]? = some c ∧ K (.str [c])
  | .ref a, .int k => 0 ≤ k ∧ ∃ vs, (Ob g H a (.list vs) ∨ Ob g H a (.tup vs)) ∧ vs.length ≤ lim ∧ ∃ v, vs[k.toNat]? = some v ∧ K v
  | .ref a, .str x => ∃ kvs v, Ob g H a (.sdict kvs) ∧ kvs.lookup x = some v ∧ K (.int v)
  | _, _ => False

noncomputable def cutL {α : Type} (lo hi : V) (xs : List α) : Option (List α) := match lo, hi with
  | .none, .none => some xs
  | .int a, .none => if 0 ≤ a ∧ a ≤ lim then some (xs.drop a.toNat) else .none
  | .none, .int b => if 0 ≤ b ∧ b ≤ 2 ^ 62 then some (xs.take b.toNat) else .none
  | .int a, .int b => if 0 ≤ a ∧ a ≤ lim ∧ 0 ≤ b ∧ b ≤ lim then some ((xs.take b.toNat).drop a.toNat) else .none
  | _, _ => .none

def sliceK (g : G) (o lo hi : V) (H : AHeap) (K : V → AHeap → Prop) : Prop := match o with
  | .str s => s.length ≤ lim ∧ ∃ r, cutL lo hi s = some r ∧ K (.str r) H
  | .ref a => ∃ vs r, Ob g H a (.list vs) ∧ vs.length ≤ lim ∧ cutL lo hi vs = some r ∧ alloc H (.list r) K
  | _ => False

noncomputable def putF (n : String) (v : V) : List (String × V) → List (String × V)
  | [] => [(n, v)]
  | f :: r => if f.1 = n then (n, v) :: r else f :: putF n v r

def setAttrK (o : V) (n : String) (v : V) (H : AHeap) (K : AHeap → Prop) : Prop := match o with
  | .ref a => (match H a with
    | some (.inst c d) => c ∈ clsNames ∧ n ∈ attrStrs ∧ (match H d with
      | some (.dict fs) => fs.length ≤ 100 ∧ K (upd H d (.dict (putF n v fs)))
      | _ => False)
    | _ => False)
  | _ => False

def setSubK (o i v : V) (H : AHeap) (K : AHeap → Prop) : Prop := match o, i with
  | .ref a, .int k => ∃ vs, H a = some (.list vs) ∧ 0 ≤ k ∧ k < vs.length ∧ vs.length ≤ lim ∧ K (upd H a (.list (vs.set k.toNat v)))
  | _, _ => False

/-- what is iterated over: the items, and the list object that must not change -/
def itemsK (v : V) (H : AHeap) (K : List V → Option Addr → Prop) : Prop := match v with
  | .str s => s.length ≤ lim ∧ K (s.map fun c => .str [c]) .none
  | .ref a => ∃ vs, H a = some (.list vs) ∧ vs.length ≤ lim ∧ K vs (some a)
  | _ => False

def srcOk (src : Option Addr) (items : List V) (H : AHeap) : Prop := match src with
  | .none => True
  | some a => H a = some (.list items)

mutual
noncomputable def wpE (g : G) (n : Nat) (loc : Loc) : C → (V → AHeap → Prop) → (AHeap → Prop) → AHeap → Prop
  | .lit v, Q, _, H => Q v H
  | .loc i, Q, _, H => (match loc[i]? with
    | some (some v) => Q v H
    | _ => False)
  | .bin op a b, Q, X, H => wpE g n loc a (fun va H₁ => wpE g n loc b (fun vb H₂ => binK g op va vb H₂ Q) X H₁) X H
  | .cmp op a b, Q, X, H => wpE g n loc a (fun va H₁ => wpE g n loc b (fun vb H₂ => cmpK g op va vb H₂ fun r => Q (.bool r) H₂) X H₁) X H
  | .neg a, Q, X, H => wpE g n loc a (fun va H₁ => match va with | .int i => Q (.int (-i)) H₁ | _ => False) X H
  | .andv a b, Q, X, H => wpE g n loc a (fun va H₁ => truthK va fun t => if t then wpE g n loc b Q X H₁ else Q va H₁) X H
  | .ite t a b, Q, X, H => wpT g n loc t (fun r H₁ => if r then wpE g n loc a Q X H₁ else wpE g n loc b Q X H₁) X H
  | .call f args, Q, X, H => wpL g n loc args (fun vs H₁ => CallSem g n f vs H₁ Q X) X H
  | .new c args ks kvs, Q, X, H => wpL g n loc args (fun vs H₁ => wpL g n loc kvs (fun ws H₂ => NewSem g n c vs ks ws H₂ Q X) X H₁) X H
  | .bi f args, Q, X, H => wpL g n loc args (fun vs H₁ => biK f vs H₁ g fun v => Q v H₁) X H
  | .isi e t, Q, X, H => wpE g n loc e (fun v H₁ => isiK v t H₁ fun r => Q (.bool r) H₁) X H
  | .meth m o args, Q, X, H => wpE g n loc o (fun vo H₁ => methOk m vo H₁ ∧ wpL g n loc args (fun vs H₂ => methK m vo vs H₂ Q) X H₁) X H
  | .attr o a, Q, X, H => wpE g n loc o (fun vo H₁ => attrK vo a H₁ fun v => Q v H₁) X H
  | .sub o i, Q, X, H => wpE g n loc o (fun vo H₁ => wpE g n loc i (fun vi H₂ => subK g vo vi H₂ fun v => Q v H₂) X H₁) X H
  | .slice o lo hi, Q, X, H => wpE g n loc o (fun vo H₁ => wpE g n loc lo (fun vl H₂ => wpE g n loc hi (fun vh H₃ => sliceK g vo vl vh H₃ Q) X H₂) X H₁) X H
  | .list es, Q, X, H => wpL g n loc es (fun vs H₁ => vs.length ≤ lim ∧ alloc H₁ (.list vs) Q) X H
  | .tup es, Q, X, H => wpL g n loc es (fun vs H₁ => vs.length ≤ lim ∧ alloc H₁ (.tup vs) Q) X H
  | .dict kvs, Q, _, H => alloc H (.sdict kvs) Q
  | .comp caps tgt elt it, Q, X, H => wpI g n loc it (fun items src H₁ => src = .none ∧
      ∃ I : Nat → List V → AHeap → Prop, I 0 [] H₁ ∧
        (∀ k acc H₂ x, items[k]? = some x → I k acc H₂ → wpE g n ((caps.map fun c => (c.bind (loc[·]?)).join).set tgt (some x)) elt (fun v H₃ => I (k + 1) (acc ++ [v]) H₃) (fun _ => False) H₂) ∧
        items.length ≤ lim ∧ (∀ acc H₂, I items.length acc H₂ → acc.length = items.length → alloc H₂ (.list acc) Q)) X H
  | _, _, _, _ => False
noncomputable def wpL (g : G) (n : Nat) (loc : Loc) : C → (List V → AHeap → Prop) → (AHeap → Prop) → AHeap → Prop
  | .nil, Q, _, H => Q [] H
  | .cons a b, Q, X, H => wpE g n loc a (fun v H₁ => wpL g n loc b (fun vs H₂ => Q (v :: vs) H₂) X H₁) X H
  | _, _, _, _ => False
noncomputable def wpT (g : G) (n : Nat) (loc : Loc) : C → (Bool → AHeap → Prop) → (AHeap → Prop) → AHeap → Prop
  | .cmp op a b, Q, X, H => wpE g n loc a (fun va H₁ => wpE g n loc b (fun vb H₂ => cmpK g op va vb H₂ fun r => Q r H₂) X H₁) X H
  | .and ts, Q, X, H => wpA g n loc ts Q X H
  | .or ts, Q, X, H => wpO g n loc ts Q X H
  | .not t, Q, X, H => wpT g n loc t (fun r H₁ => Q (!r) H₁) X H
  | .val e, Q, X, H => wpE g n loc e (fun v H₁ => truthK v fun r => Q r H₁) X H
  | _, _, _, _ => False
noncomputable def wpA (g : G) (n : Nat) (loc : Loc) : C → (Bool → AHeap → Prop) → (AHeap → Prop) → AHeap → Prop
  | .nil, Q, _, H => Q true H
  | .cons a b, Q, X, H => wpT g n loc a (fun r H₁ => if r then wpA g n loc b Q X H₁ else Q false H₁) X H
  | _, _, _, _ => False
noncomputable def wpO (g : G) (n : Nat) (loc : Loc) : C → (Bool → AHeap → Prop) → (AHeap → Prop) → AHeap → Prop
  | .nil, Q, _, H => Q false H
  | .cons a b, Q, X, H => wpT g n loc a (fun r H₁ => if r then Q true H₁ else wpO g n loc b Q X H₁) X H
  | _, _, _, _ => False
noncomputable def wpI (g : G) (n : Nat) (loc : Loc) : C → (List V → Option Addr → AHeap → Prop) → (AHeap → Prop) → AHeap → Prop
  | .range e, Q, X, H => wpE g n loc e (fun v H₁ => match v with
      | .int k => -lim ≤ k ∧ k ≤ lim ∧ Q ((List.range k.toNat).map fun i => .int (i : Nat)) .none H₁
      | _ => False) X H
  | .val e, Q, X, H => wpE g n loc e (fun v H₁ => itemsK v H₁ fun items src => Q items src H₁) X H
  | _, _, _, _ => False
end

noncomputable def assignK (g : G) (n : Nat) : C → V → (Loc → AHeap → Prop) → (AHeap → Prop) → Loc → AHeap → Prop
  | .loc i, v, K, _, loc, H => K (loc.set i (some v)) H
  | .attr o a, v, K, X, loc, H => wpE g n loc o (fun vo H₁ => setAttrK vo a v H₁ fun H₂ => K loc H₂) X H
  | .sub o i, v, K, X, loc, H => wpE g n loc o (fun vo H₁ => wpE g n loc i (fun vi H₂ => setSubK vo vi v H₂ fun H₃ => K loc H₃) X H₁) X H
  | _, _, _, _, _, _ => False

noncomputable def assignL (g : G) (n : Nat) : C → List V → (Loc → AHeap → Prop) → (AHeap → Prop) → Loc → AHeap → Prop
  | .nil, [], K, _, loc, H => K loc H
  | .cons t r, v :: vs, K, X, loc, H => assignK g n t v (fun loc₁ H₁ => assignL g n r vs K X loc₁ H₁) X loc H
  | _, _, _, _, _, _ => False

noncomputable def lenC : C → Nat
  | .cons _ b => lenC b + 1
  | _ => 0

def assignT (g : G) (n : Nat) (t : C) (v : V) (K : Loc → AHeap → Prop) (X : AHeap → Prop) (loc : Loc) (H : AHeap) : Prop := match t with
  | .tup ts => (match v with
    | .ref a => ∃ vs, H a = some (.tup vs) ∧ lenC ts = vs.length ∧ vs.length ≤ lim ∧ assignL g n ts vs K X loc H
    | _ => False)
  | t => assignK g n t v K X loc H

noncomputable def wpS (g : G) (n : Nat) : S → (Fl → Loc → AHeap → Prop) → (AHeap → Prop) → Loc → AHeap → Prop
  | .nil, Q, _, loc, H => Q .next loc H
  | .seq a b, Q, X, loc, H => wpS g n a (fun f loc₁ H₁ => match f with
      | .next => wpS g n b Q X loc₁ H₁
      | .ret v => Q (.ret v) loc₁ H₁) X loc H
  | .assign t e, Q, X, loc, H => wpE g n loc e (fun v H₁ => assignT g n t v (fun loc₁ H₂ => Q .next loc₁ H₂) X loc H₁) X H
  | .assignC i e, Q, X, loc, H => wpE g n loc e (fun v H₁ => Q .next (loc.set i (some v)) H₁) X H
  | .assign2 i j a b, Q, X, loc, H => wpE g n loc a (fun va H₁ => wpE g n loc b (fun vb H₂ => Q .next ((loc.set j (some vb)).set i (some va)) H₂) X H₁) X H
  | .aug (.loc i) op e, Q, X, loc, H => wpE g n loc (.loc i) (fun v H₁ => wpE g n loc e (fun ve H₂ => iopK op v ve H₂ fun r H₃ => Q .next (loc.set i (some r)) H₃) X H₁) X H
  | .aug (.attr o a) op e, Q, X, loc, H => wpE g n loc o (fun vo H₁ => attrK vo a H₁ fun v => wpE g n loc e (fun ve H₂ => iopK op v ve H₂ fun r H₃ => setAttrK vo a r H₃ fun H₄ => Q .next loc H₄) X H₁) X H
  | .expr e, Q, X, loc, H => wpE g n loc e (fun v H₁ => v = .none ∧ Q .next loc H₁) X H
  | .ite t a b, Q, X, loc, H => wpT g n loc t (fun r H₁ => if r then wpS g n a Q X loc H₁ else wpS g n b Q X loc H₁) X H
  | .while t b, Q, X, loc, H => ∃ (I : Loc → AHeap → Prop) (μ : Loc → AHeap → Nat), I loc H ∧ ∀ loc₁ H₁, I loc₁ H₁ →
      wpT g n loc₁ t (fun r H₂ => if r then wpS g n b (fun f loc₃ H₃ => match f with
          | .next => I loc₃ H₃ ∧ μ loc₃ H₃ < μ loc₁ H₁
          | .ret v => Q (.ret v) loc₃ H₃) X loc₁ H₂
        else Q .next loc₁ H₂) X H₁
  | .for i it b, Q, X, loc, H => wpI g n loc it (fun items src H₁ => ∃ I : Nat → Loc → AHeap → Prop, I 0 loc H₁ ∧
      (∀ k loc₂ H₂ x, items[k]? = some x → I k loc₂ H₂ → srcOk src items H₂ ∧ wpS g n b (fun f loc₃ H₃ => match f with
          | .next => I (k + 1) loc₃ H₃
          | .ret v => Q (.ret v) loc₃ H₃) X (loc₂.set i (some x)) H₂) ∧
      (∀ loc₂ H₂, I items.length loc₂ H₂ → srcOk src items H₂ ∧ Q .next loc₂ H₂)) X H
  | .ret e, Q, X, loc, H => wpE g n loc e (fun v H₁ => Q (.ret v) loc H₁) X H
  | .raise e, _, X, loc, H => wpE g n loc e (fun v H₁ => 2 ≤ n ∧ (∃ s, v = .str s) ∧ X H₁) X H
  | .tryDie b, Q, _, loc, H => wpS g n b Q (fun H₁ => ∀ loc₁, Q (.ret .none) loc₁ H₁) loc H
  | _, _, _, _, _ => False
end Mine
end

section
set_option genSizeOf false
set_option genSizeOfSpec false
open PySem PySem.W PyProof.Rows
set_option Elab.async false
set_option linter.unusedVariables false
namespace Mine
variable {g : G} {n : Nat} {loc : Loc} {Q : V → AHeap → Prop} {QL : List V → AHeap → Prop} {QB : Bool → AHeap → Prop} {QI : List V → Option Addr → AHeap → Prop} {X : AHeap → Prop} {H : AHeap} {a b t e l h : C} {v : V} {i j : Nat}

theorem ze1 : wpE g n loc (.lit v) Q X H = Q v H := rfl
theorem ze2 : wpE g n loc (.loc i) Q X H = (match loc[i]? with | some (some v) => Q v H | _ => False) := rfl
theorem ze3 {op : Operator} : wpE g n loc (.bin op a b) Q X H = wpE g n loc a (fun va H₁ => wpE g n loc b (fun vb H₂ => binK g op va vb H₂ Q) X H₁) X H := rfl
theorem ze4 {op : CmpOp} : wpE g n loc (.cmp op a b) Q X H = wpE g n loc a (fun va H₁ => wpE g n loc b (fun vb H₂ => cmpK g op va vb H₂ fun r => Q (.bool r) H₂) X H₁) X H := rfl
theorem ze5 : wpE g n loc (.neg a) Q X H = wpE g n loc a (fun va H₁ => match va with | .int i => Q (.int (-i)) H₁ | _ => False) X H := rfl
theorem ze6 : wpE g n loc (.andv a b) Q X H = wpE g n loc a (fun va H₁ => truthK va fun t => if t then wpE g n loc b Q X H₁ else Q va H₁) X H := rfl
theorem ze7 : wpE g n loc (.ite t a b) Q X H = wpT g n loc t (fun r H₁ => if r then wpE g n loc a Q X H₁ else wpE g n loc b Q X H₁) X H := rfl
theorem ze8 {f : String} : wpE g n loc (.call f a) Q X H = wpL g n loc a (fun vs H₁ => CallSem g n f vs H₁ Q X) X H := rfl
theorem ze9 {c : String} {ks : List String} : wpE g n loc (.new c a ks b) Q X H = wpL g n loc a (fun vs H₁ => wpL g n loc b (fun ws H₂ => NewSem g n c vs ks ws H₂ Q X) X H₁) X H := rfl
theorem ze10 {f : String} : wpE g n loc (.bi f a) Q X H = wpL g n loc a (fun vs H₁ => biK f vs H₁ g fun v => Q v H₁) X H := rfl
theorem ze11 {s : String} : wpE g n loc (.isi e s) Q X H = wpE g n loc e (fun v H₁ => isiK v s H₁ fun r => Q (.bool r) H₁) X H := rfl
theorem ze12 {m : String} : wpE g n loc (.meth m a b) Q X H = wpE g n loc a (fun vo H₁ => methOk m vo H₁ ∧ wpL g n loc b (fun vs H₂ => methK m vo vs H₂ Q) X H₁) X H := rfl
theorem ze13 {s : String} : wpE g n loc (.attr a s) Q X H = wpE g n loc a (fun vo H₁ => attrK vo s H₁ fun v => Q v H₁) X H := rfl
theorem ze14 : wpE g n loc (.sub a b) Q X H = wpE g n loc a (fun vo H₁ => wpE g n loc b (fun vi H₂ => subK g vo vi H₂ fun v => Q v H₂) X H₁) X H := rfl
theorem ze15 : wpE g n loc (.slice a l h) Q X H = wpE g n loc a (fun vo H₁ => wpE g n loc l (fun vl H₂ => wpE g n loc h (fun vh H₃ => sliceK g vo vl vh H₃ Q) X H₂) X H₁) X H := rfl
theorem ze16 : wpE g n loc (.list a) Q X H = wpL g n loc a (fun vs H₁ => vs.length ≤ lim ∧ alloc H₁ (.list vs) Q) X H := rfl
theorem ze17 : wpE g n loc (.tup a) Q X H = wpL g n loc a (fun vs H₁ => vs.length ≤ lim ∧ alloc H₁ (.tup vs) Q) X H := rfl
theorem ze18 {kvs : List (List Nat × Int)} : wpE g n loc (.dict kvs) Q X H = alloc H (.sdict kvs) Q := rfl
theorem ze19 {caps : List (Option Nat)} {tgt : Nat} : wpE g n loc (.comp caps tgt e a) Q X H = wpI g n loc a (fun items src H₁ => src = .none ∧
      ∃ I : Nat → List V → AHeap → Prop, I 0 [] H₁ ∧
        (∀ k acc H₂ x, items[k]? = some x → I k acc H₂ → wpE g n ((caps.map fun c => (c.bind (loc[·]?)).join).set tgt (some x)) e (fun v H₃ => I (k + 1) (acc ++ [v]) H₃) (fun _ => False) H₂) ∧
        items.length ≤ lim ∧ (∀ acc H₂, I items.length acc H₂ → acc.length = items.length → alloc H₂ (.list acc) Q)) X H := rfl
theorem zl1 : wpL g n loc .nil QL X H = QL [] H := rfl
theorem zl2 : wpL g n loc (.cons a b) QL X H = wpE g n loc a (fun v H₁ => wpL g n loc b (fun vs H₂ => QL (v :: vs) H₂) X H₁) X H := rfl
theorem zt1 {op : CmpOp} : wpT g n loc (.cmp op a b) QB X H = wpE g n loc a (fun va H₁ => wpE g n loc b (fun vb H₂ => cmpK g op va vb H₂ fun r => QB r H₂) X H₁) X H := rfl
theorem zt2 : wpT g n loc (.and a) QB X H = wpA g n loc a QB X H := rfl
theorem zt3 : wpT g n loc (.or a) QB X H = wpO g n loc a QB X H := rfl
theorem zt4 : wpT g n loc (.not a) QB X H = wpT g n loc a (fun r H₁ => QB (!r) H₁) X H := rfl
theorem zt5 : wpT g n loc (.val e) QB X H = wpE g n loc e (fun v H₁ => truthK v fun r => QB r H₁) X H := rfl
theorem za1 : wpA g n loc .nil QB X H = QB true H := rfl
theorem za2 : wpA g n loc (.cons a b) QB X H = wpT g n loc a (fun r H₁ => if r then wpA g n loc b QB X H₁ else QB false H₁) X H := rfl
theorem zo1 : wpO g n loc .nil QB X H = QB false H := rfl
theorem zo2 : wpO g n loc (.cons a b) QB X H = wpT g n loc a (fun r H₁ => if r then QB true H₁ else wpO g n loc b QB X H₁) X H := rfl
theorem zi1 : wpI g n loc (.range e) QI X H = wpE g n loc e (fun v H₁ => match v with
      | .int k => -lim ≤ k ∧ k ≤ lim ∧ QI ((List.range k.toNat).map fun i => .int (i : Nat)) .none H₁
      | _ => False) X H := rfl
theorem zi2 : wpI g n loc (.val e) QI X H = wpE g n loc e (fun v H₁ => itemsK v H₁ fun items src => QI items src H₁) X H := rfl
variable {KL : Loc → AHeap → Prop} {QS : Fl → Loc → AHeap → Prop} {p q : Mine.S}
theorem zk1 : assignK g n (.loc i) v KL X loc H = KL (loc.set i (some v)) H := rfl
theorem zk2 {s : String} : assignK g n (.attr a s) v KL X loc H = wpE g n loc a (fun vo H₁ => setAttrK vo s v H₁ fun H₂ => KL loc H₂) X H := rfl
theorem zk3 : assignK g n (.sub a b) v KL X loc H = wpE g n loc a (fun vo H₁ => wpE g n loc b (fun vi H₂ => setSubK vo vi v H₂ fun H₃ => KL loc H₃) X H₁) X H := rfl
theorem zL1 : assignL g n .nil [] KL X loc H = KL loc H := rfl
theorem zL2 {vs : List V} : assignL g n (.cons t b) (v :: vs) KL X loc H = assignK g n t v (fun loc₁ H₁ => assignL g n b vs KL X loc₁ H₁) X loc H := rfl
/-- what is asked behind the first of two statements -/
noncomputable abbrev sq (g : G) (n : Nat) (b : Mine.S) (Q : Fl → Loc → AHeap → Prop) (X : AHeap → Prop) : Fl → Loc → AHeap → Prop := fun f l h => match f with
  | .next => wpS g n b Q X l h
  | .ret v => Q (.ret v) l h
theorem sq1 : sq g n q QS X .next loc H = wpS g n q QS X loc H := rfl
theorem sq2 : sq g n q QS X (.ret v) loc H = QS (.ret v) loc H := rfl
/-- what is asked behind a loop's body -/
noncomputable abbrev lq (I : Loc → AHeap → Prop) (Q : Fl → Loc → AHeap → Prop) : Fl → Loc → AHeap → Prop := fun f l h => match f with
  | .next => I l h
  | .ret v => Q (.ret v) l h
theorem lq1 : lq KL QS .next loc H = KL loc H := rfl
theorem lq2 : lq KL QS (.ret v) loc H = QS (.ret v) loc H := rfl
/-- what is asked behind a function's body -/
noncomputable abbrev fp (Q : V → AHeap → Prop) : Fl → Loc → AHeap → Prop := fun f _ h => match f with
  | .ret v => Q v h
  | .next => Q .none h
theorem fp1 : fp Q .next loc H = Q .none H := rfl
theorem fp2 : fp Q (.ret v) loc H = Q v H := rfl
theorem zs1 : wpS g n .nil QS X loc H = QS .next loc H := rfl
theorem zs2 : wpS g n (.seq p q) QS X loc H = wpS g n p (sq g n q QS X) X loc H := rfl
theorem zs3 : wpS g n (.assign t e) QS X loc H = wpE g n loc e (fun v H₁ => assignT g n t v (fun loc₁ H₂ => QS .next loc₁ H₂) X loc H₁) X H := rfl
theorem zs4 : wpS g n (.assignC i e) QS X loc H = wpE g n loc e (fun v H₁ => QS .next (loc.set i (some v)) H₁) X H := rfl
theorem zs5 : wpS g n (.assign2 i j a b) QS X loc H = wpE g n loc a (fun va H₁ => wpE g n loc b (fun vb H₂ => QS .next ((loc.set j (some vb)).set i (some va)) H₂) X H₁) X H := rfl
theorem zs6 {op : Operator} : wpS g n (.aug (.loc i) op e) QS X loc H = wpE g n loc (.loc i) (fun v H₁ => wpE g n loc e (fun ve H₂ => iopK op v ve H₂ fun r H₃ => QS .next (loc.set i (some r)) H₃) X H₁) X H := rfl
theorem zs7 {op : Operator} {s : String} : wpS g n (.aug (.attr a s) op e) QS X loc H = wpE g n loc a (fun vo H₁ => attrK vo s H₁ fun v => wpE g n loc e (fun ve H₂ => iopK op v ve H₂ fun r H₃ => setAttrK vo s r H₃ fun H₄ => QS .next loc H₄) X H₁) X H := rfl
theorem zs8 : wpS g n (.expr e) QS X loc H = wpE g n loc e (fun v H₁ => v = .none ∧ QS .next loc H₁) X H := rfl
theorem zs9 : wpS g n (.ite t p q) QS X loc H = wpT g n loc t (fun r H₁ => if r then wpS g n p QS X loc H₁ else wpS g n q QS X loc H₁) X H := rfl
theorem zs10 : wpS g n (.while t p) QS X loc H = ∃ (I : Loc → AHeap → Prop) (μ : Loc → AHeap → Nat), I loc H ∧ ∀ loc₁ H₁, I loc₁ H₁ →
      wpT g n loc₁ t (fun r H₂ => if r then wpS g n p (lq (fun loc₃ H₃ => I loc₃ H₃ ∧ μ loc₃ H₃ < μ loc₁ H₁) QS) X loc₁ H₂
        else QS .next loc₁ H₂) X H₁ := rfl
theorem zs11 : wpS g n (.for i e p) QS X loc H = wpI g n loc e (fun items src H₁ => ∃ I : Nat → Loc → AHeap → Prop, I 0 loc H₁ ∧
      (∀ k loc₂ H₂ x, items[k]? = some x → I k loc₂ H₂ → srcOk src items H₂ ∧ wpS g n p (lq (I (k + 1)) QS) X (loc₂.set i (some x)) H₂) ∧
      (∀ loc₂ H₂, I items.length loc₂ H₂ → srcOk src items H₂ ∧ QS .next loc₂ H₂)) X H := rfl
theorem zs12 : wpS g n (.ret e) QS X loc H = wpE g n loc e (fun v H₁ => QS (.ret v) loc H₁) X H := rfl
theorem zs13 : wpS g n (.raise e) QS X loc H = wpE g n loc e (fun v H₁ => 2 ≤ n ∧ (∃ s, v = .str s) ∧ X H₁) X H := rfl
theorem zs14 : wpS g n (.tryDie p) QS X loc H = wpS g n p QS (fun H₁ => ∀ loc₁, QS (.ret .none) loc₁ H₁) loc H := rfl
variable {x y : Int} {s u : List Nat} {p q c : Addr} {KV : V → Prop} {KB : Bool → Prop}
theorem kb1 : binK g .Add (.int x) (.int y) H Q = (Q (.int (x + y)) H) := rfl
theorem kb2 : binK g .Add (.str s) (.str u) H Q = (s.length + u.length ≤ lim ∧ Q (.str (s ++ u)) H) := rfl
theorem kb3 : binK g .Add (.ref p) (.ref q) H Q = (∃ xs ys, Ob g H p (.list xs) ∧ H q = some (.list ys) ∧ xs.length + ys.length ≤ lim ∧ alloc H (.list (xs ++ ys)) Q) := rfl
theorem kb4 : binK g .Sub (.int x) (.int y) H Q = (Q (.int (x - y)) H) := rfl
theorem kb5 : binK g .Mult (.int x) (.int y) H Q = ((-(2 ^ 64) < x ∧ x < 2 ^ 64 ∨ -(2 ^ 64) < y ∧ y < 2 ^ 64) ∧ Q (.int (x * y)) H) := rfl
theorem kb6 : binK g .Mult (.str s) (.int y) H Q = ((s.length = 1 ∧ y ≤ lim ∧ -lim ≤ y) ∧ Q (.str (List.replicate y.toNat (s.headD 0))) H) := rfl
theorem kb7 : binK g .FloorDiv (.int x) (.int y) H Q = ((0 < y ∧ y < 2 ^ 64) ∧ Q (.int (x / y)) H) := rfl
theorem kb8 : binK g .Mod (.int x) (.int y) H Q = (0 < y ∧ Q (.int (x % y)) H) := rfl
theorem kb9 : binK g .LShift (.int x) (.int y) H Q = ((0 ≤ y ∧ y ≤ 1000 ∧ x.natAbs < 2 ^ 64) ∧ Q (.int (x * 2 ^ y.toNat)) H) := rfl
theorem kb10 : binK g .RShift (.int x) (.int y) H Q = (0 ≤ y ∧ Q (.int (x / 2 ^ y.toNat)) H) := rfl
theorem kb11 : binK g .Pow (.int x) (.int y) H Q = ((0 ≤ y ∧ y ≤ 1000 ∧ 0 ≤ x ∧ x < 2 ^ 64) ∧ Q (.int (x ^ y.toNat)) H) := rfl
theorem ki1 : iopK .Add (.int x) (.int y) H Q = (Q (.int (x + y)) H) := rfl
theorem ki2 : iopK .Add (.str s) (.str u) H Q = (s.length + u.length ≤ lim ∧ Q (.str (s ++ u)) H) := rfl
theorem ki3 : iopK .Sub (.int x) (.int y) H Q = (Q (.int (x - y)) H) := rfl
theorem ki4 : iopK .FloorDiv (.int x) (.int y) H Q = ((0 < y ∧ y < 2 ^ 64) ∧ Q (.int (x / y)) H) := rfl
theorem ki5 : iopK .Mod (.int x) (.int y) H Q = (0 < y ∧ Q (.int (x % y)) H) := rfl
theorem kc1 : cmpK g .Eq (.int x) (.int y) H KB = (KB (decide (x = y))) := rfl
theorem kc2 : cmpK g .Eq (.str s) (.str u) H KB = (KB (decide (s = u))) := rfl
theorem kc3 : cmpK g .Eq .none .none H KB = (KB true) := rfl
theorem kc4 : cmpK g .Eq .none (.str u) H KB = (KB false) := rfl
theorem kc5 : cmpK g .Eq (.str s) .none H KB = (KB false) := rfl
theorem kc6 : cmpK g .Eq .none (.int y) H KB = (KB false) := rfl
theorem kc7 : cmpK g .NotEq (.int x) (.int y) H KB = (KB (decide (x ≠ y))) := rfl
theorem kc8 : cmpK g .NotEq (.str s) (.str u) H KB = (KB (decide (s ≠ u))) := rfl
theorem kc9 : cmpK g .Lt (.int x) (.int y) H KB = (KB (decide (x < y))) := rfl
theorem kc10 : cmpK g .LtE (.int x) (.int y) H KB = (KB (decide (x ≤ y))) := rfl
theorem kc11 : cmpK g .Gt (.int x) (.int y) H KB = (KB (decide (y < x))) := rfl
theorem kc12 : cmpK g .GtE (.int x) (.int y) H KB = (KB (decide (y ≤ x))) := rfl
theorem kc13 : cmpK g .Is v .none H KB = (KB (decide (v = .none))) := rfl
theorem kc14 : cmpK g .IsNot v .none H KB = (KB (decide (v ≠ .none))) := rfl
theorem kc15 : cmpK g .In (.str s) (.str u) H KB = (∃ c, s = [c] ∧ KB (decide (c ∈ u))) := rfl
theorem kc16 : cmpK g .NotIn (.str s) (.str u) H KB = (∃ c, s = [c] ∧ KB (decide (c ∉ u))) := rfl
theorem kc17 : cmpK g .In (.str s) (.ref p) H KB = (∃ vs ss, H p = some (.tup vs) ∧ strs? vs = some ss ∧ KB (decide (s ∈ ss))) := rfl
theorem kc18 : cmpK g .In .none (.ref p) H KB = (∃ vs, H p = some (.list vs) ∧ (∀ v ∈ vs, v = .none ∨ ∃ s, v = .str s) ∧ vs.length ≤ lim ∧ KB (decide (V.none ∈ vs))) := rfl
theorem kt1 {z : Bool} : truthK (.bool z) KB = (KB z) := rfl
theorem kt2 : truthK (.int x) KB = (KB (decide (x ≠ 0))) := rfl
theorem kf1 : biK "len" [.str s] H g KV = (s.length ≤ lim ∧ KV (.int s.length)) := rfl
theorem kf2 : biK "len" [.ref p] H g KV = (∃ xs, (Ob g H p (.list xs)) ∧ xs.length ≤ lim ∧ KV (.int xs.length)) := rfl
theorem kf3 : biK "max" [.int x, .int y] H g KV = (KV (.int (max x y))) := rfl
theorem kf4 : biK "min" [.int x, .int y] H g KV = (KV (.int (min x y))) := rfl
theorem kf5 : biK "abs" [.int x] H g KV = (KV (.int x.natAbs)) := rfl
theorem kf6 : biK "chr" [.int x] H g KV = (0 ≤ x ∧ x ≤ 1114111 ∧ KV (.str [x.toNat])) := rfl
theorem kf7 : biK "str" [.int x] H g KV = ((-(10 ^ 10) < x ∧ x < 10 ^ 10) ∧ KV (.str (decText x))) := rfl
theorem kf8 : biK "int" [.str s] H g KV = (∃ c, s = [c] ∧ 48 ≤ c ∧ c ≤ 57 ∧ KV (.int (c - 48))) := rfl
theorem kf9 : biK "sum" [.ref p] H g KV = (∃ xs ns, H p = some (.list xs) ∧ ints? xs = some ns ∧ xs.length ≤ lim ∧ KV (.int ns.sum)) := rfl
theorem ky1 : isiK .none "int" H KB = (KB false) := rfl
theorem ky2 : isiK (.int x) "int" H KB = (KB true) := rfl
theorem ky3 : isiK (.str s) "int" H KB = (KB false) := rfl
theorem ky4 : isiK .none "str" H KB = (KB false) := rfl
theorem ky5 : isiK (.int x) "str" H KB = (KB false) := rfl
theorem ky6 : isiK (.str s) "str" H KB = (KB true) := rfl
theorem ky7 : isiK (.ref p) "str" H KB = ((∃ vs, H p = some (.tup vs)) ∧ KB false) := rfl
theorem ky8 : isiK (.str s) "Ref" H KB = (KB false) := rfl
theorem km1 : methK "find" (.str s) [.str u] H Q = (∃ c, u = [c] ∧ c ∈ s ∧ s.length ≤ lim ∧ Q (.int (idxOf c s)) H) := rfl
theorem km2 : methK "index" (.str s) [.str u] H Q = (∃ c, u = [c] ∧ c ∈ s ∧ s.length ≤ lim ∧ Q (.int (idxOf c s)) H) := rfl
theorem km3 : methK "upper" (.str s) [] H Q = (∃ c, s = [c] ∧ c < 128 ∧ Q (.str [if 97 ≤ c ∧ c ≤ 122 then c - 32 else c]) H) := rfl
theorem km4 : methK "join" (.str s) [.ref p] H Q = (∃ xs ss, s = [] ∧ H p = some (.list xs) ∧ strs? xs = some ss ∧ xs.length ≤ lim ∧ ss.flatten.length ≤ lim ∧ Q (.str ss.flatten) H) := rfl
theorem km5 {r : List Nat} : methK "replace" (.str s) [.str u, .str r] H Q = (∃ z, Txt.replace ⟨s.toArray⟩ ⟨u.toArray⟩ ⟨r.toArray⟩ = z ∧ s.length ≤ 64 ∧ r.length ≤ 14 ∧ u ≠ r ∧ Q (.str z.cps.toList) H) := rfl
theorem km6 : methK "append" (.ref p) [v] H Q = (∃ xs, H p = some (.list xs) ∧ xs.length ≤ lim ∧ Q .none (upd H p (.list (xs ++ [v])))) := rfl
theorem km7 : methK "insert" (.ref p) [.int x, v] H Q = (∃ xs, H p = some (.list xs) ∧ xs.length ≤ lim ∧ 0 ≤ x ∧ x ≤ xs.length ∧ Q .none (upd H p (.list (xs.take x.toNat ++ v :: xs.drop x.toNat)))) := rfl
theorem ku1 : subK g (.str s) (.int x) H KV = (0 ≤ x ∧ s.length ≤ lim ∧ ∃ c, s[x.toNat]? = some c ∧ KV (.str [c])) := rfl
theorem ku2 : subK g (.ref p) (.int x) H KV = (0 ≤ x ∧ ∃ vs, (Ob g H p (.list vs) ∨ Ob g H p (.tup vs)) ∧ vs.length ≤ lim ∧ ∃ v, vs[x.toNat]? = some v ∧ KV v) := rfl
theorem ku3 : subK g (.ref p) (.str s) H KV = (∃ kvs v, Ob g H p (.sdict kvs) ∧ kvs.lookup s = some v ∧ KV (.int v)) := rfl
variable {KW : List V → Option Addr → Prop} {vs : List V}
theorem kw1 : itemsK (.str s) H KW = (s.length ≤ lim ∧ KW (s.map fun c => .str [c]) .none) := rfl
theorem kw2 : itemsK (.ref p) H KW = (∃ vs, H p = some (.list vs) ∧ vs.length ≤ lim ∧ KW vs (some p)) := rfl
theorem ko1 : srcOk .none vs H = True := rfl
theorem ko2 : srcOk (some p) vs H = (H p = some (.list vs)) := rfl

/-! ## small sums -/
theorem le_lim {a k : Nat} (h : a ≤ k) (hk : k ≤ 2 ^ 20) : a ≤ lim := Nat.le_trans h hk
theorem four {d : Int} (h0 : 0 ≤ d) (h1 : d < 4) : d = 0 ∨ d = 1 ∨ d = 2 ∨ d = 3 := by omega
theorem lt_sub1 {a b : Nat} (h : a < b) : b - (a + 1) < b - a := Nat.sub_succ_lt_self _ _ h
theorem toN_pred {a : Nat} (h : 1 ≤ a) : ((a : Int) - 1).toNat = a - 1 := by omega
theorem natAbs_lt {i : Int} {a : Int} {b : Nat} (h0 : -a ≤ i) (h1 : i ≤ a) (h : a.toNat < b) : i.natAbs < b := by omega
theorem ite_t {P : Prop} {d : Decidable P} {A B : Prop} (h : P) (k : A) : if decide P = true then A else B := by rw [if_pos (decide_eq_true h)]; exact k
theorem ite_f {P : Prop} {d : Decidable P} {A B : Prop} (h : ¬ P) (k : B) : if decide P = true then A else B := by rw [if_neg (fun e => h (of_decide_eq_true e))]; exact k
theorem ite_d {P : Prop} {d : Decidable P} {A B : Prop} (h1 : P → A) (h2 : ¬ P → B) : if decide P = true then A else B := by
  cases d with
  | isTrue h => exact h1 h
  | isFalse h => exact h2 h
end Mine
end

section
set_option genSizeOf false
set_option genSizeOfSpec false
open PySem PySem.W PyProof.Rows
set_option Elab.async false
set_option linter.unusedVariables false
namespace Mine

/-! ## the relation under changes of the heap -/
theorem ff_of {h h' base : Heap} : ∀ {l : List Env}, (∀ b ∈ fsOf l, ∀ o, h.get? b = some o → (∀ vs, o.data ≠ .fields vs) → ∃ o', h'.get? b = some o' ∧ ∀ vs, o'.data ≠ .fields vs) → h.FunFrames base l → h'.FunFrames base l
  | [], _, _ => trivial
  | env :: r, k, ⟨hk, ⟨L, o, hf, hn, ho, hd⟩, hr⟩ => by
    have hm : L ∈ fsOf (env :: r) := by unfold fsOf; rw [List.filterMap_cons, hf]; exact .head _
    obtain ⟨o', ho', hd'⟩ := k L hm o ho hd
    refine ⟨hk, ⟨L, o', hf, hn, ho', hd'⟩, ff_of (fun b hb => k b ?_) hr⟩
    unfold fsOf at hb ⊢; rw [List.filterMap_cons, hf]; exact .tail _ hb

theorem ff_mem {h base : Heap} {l : List Env} (x : h.FunFrames base l) {b : Addr} (hb : b ∈ fsOf l) : base.get? b = none ∧ ∃ o, h.get? b = some o ∧ ∀ vs, o.data ≠ .fields vs := x.mem hb

variable {g : G} {Γ : Cx} {loc : Loc} {H : AHeap} {B h h' : Heap} {n : Nat}

theorem CC.keeps {B' : Heap} (x : CC g Γ loc H B h) (kB : ∀ b o, B.get? b = some o → B'.get? b = some o) (kh : ∀ b o, h.get? b = some o → h'.get? b = some o) : CC g Γ loc H B' h' where
  stay := fun b o e => kB _ _ (x.stay b o e)
  keepX := fun b o e a1 a2 a3 a4 => kB _ _ (x.keepX b o e a1 a2 a3 a4)
  keepF := fun b hb hl o e => let ⟨sl, q⟩ := x.keepF b hb hl o e; ⟨sl, kh _ _ q⟩
  ff := ff_of (fun b _ o e hd => ⟨o, kh _ _ e, hd⟩) x.ff
  led := fun a o e => let ⟨ob, q, r⟩ := x.led a o e; ⟨ob, kB _ _ q, r⟩
  adr := x.adr
  lcs := let ⟨m, hn, r⟩ := x.lcs; ⟨m, hn.keeps kh, r⟩
  cel := fun i y e => let ⟨c, ov, q, r, t⟩ := x.cel i y e; ⟨c, ov, q, r.keeps kB, t⟩
  cex := fun c hc => let ⟨ov, r⟩ := x.cex c hc; ⟨ov, r.keeps kB⟩
  len := x.len

theorem get_size_none {h : Heap} : h.get? h.objs.size = none := by
  cases q : h.get? h.objs.size with
  | none => rfl
  | some o => exact absurd (Heap.lt_size q) (Nat.lt_irrefl _)

theorem CC.push (x : CC g Γ loc H h h) (o : Obj) : CC g Γ loc H (h.push o) (h.push o) :=
  x.keeps (fun _ _ e => Heap.get?_push_of_some _ e) fun _ _ e => Heap.get?_push_of_some _ e

theorem CC.noH {a : Addr} (x : CC g Γ loc H h h) (hn : h.get? a = none) : H a = none := by
  cases q : H a with
  | none => rfl
  | some o => obtain ⟨ob, e, _⟩ := x.led _ _ q; rw [hn] at e; cases e

theorem CC.freshAdr {a : Addr} (hΓ : Γ.Ok g n) (x : CC g Γ loc H h h) (hn : h.get? a = none) :
    g.base.get? a = none ∧ a ∉ fsOf Γ.stack ∧ a ≠ Γ.env.locals ∧ a ∉ cellsOf Γ.env ∧ (Γ.h₀.get? a = none ∨ Γ.mu a) := by
  have c1 : a ∉ fsOf Γ.stack := fun hm => by obtain ⟨_, o, e, _⟩ := ff_mem x.ff hm; rw [hn] at e; cases e
  have c2 : a ≠ Γ.env.locals := fun e => by obtain ⟨m, ⟨o, _, _, q, _⟩, _⟩ := x.lcs; rw [← e, hn] at q; cases q
  have c3 : a ∉ cellsOf Γ.env := fun hc => by obtain ⟨ov, o, q, _⟩ := x.cex a hc; rw [hn] at q; cases q
  refine ⟨?_, c1, c2, c3, ?_⟩
  · cases q : g.base.get? a with
    | none => rfl
    | some o => have := x.stay _ _ q; rw [hn] at this; cases this
  · by_cases hm : Γ.mu a
    · exact .inr hm
    · left
      cases q : Γ.h₀.get? a with
      | none => rfl
      | some o => have := x.keepX a o q hm c1 c2 (fun ho => c3 (hΓ.ow a ho)); rw [hn] at this; cases this

theorem CC.add {a : Addr} {ob : Obj} {ao : AObj} (hΓ : Γ.Ok g n) (x : CC g Γ loc H h h) (hn : h.get? a = none) (k : ∀ b o, h.get? b = some o → h'.get? b = some o) (ho : h'.get? a = some ob) (r : ORel g ob ao) :
    CC g Γ loc (upd H a ao) h' h' :=
  { x.keeps k k with
    led := fun b o e => by
      by_cases hb : b = a
      · subst hb; rw [upd_same] at e; cases e; exact ⟨ob, ho, r⟩
      · rw [upd_ne _ _ hb] at e; obtain ⟨ob', q, r'⟩ := x.led b o e; exact ⟨ob', k _ _ q, r'⟩
    adr := fun b o e => by
      by_cases hb : b = a
      · subst hb; exact x.freshAdr hΓ hn
      · rw [upd_ne _ _ hb] at e; exact x.adr b o e }

theorem CC.alloc {ob : Obj} {ao : AObj} (hΓ : Γ.Ok g n) (x : CC g Γ loc H h h) (hf : ob.isFreed = false) (r : ORel g ob ao) : CC g Γ loc (upd H h.objs.size ao) (h.push ob) (h.push ob) :=
  x.add hΓ get_size_none (fun _ _ e => Heap.get?_push_of_some _ e) (Heap.get?_push_size _ hf) r

/-- one object that is no part of the relation, or one of the ledger, changes -/
theorem CC.but {a : Addr} (hΓ : Γ.Ok g n) (x : CC g Γ loc H h h) (hs : Heap.SameBut a h h') (h1 : g.base.get? a = none) (h2 : a ∉ fsOf Γ.stack) (h3 : a ≠ Γ.env.locals) (h4 : a ∉ cellsOf Γ.env)
    (h5 : Γ.h₀.get? a = none ∨ Γ.mu a) {H' : AHeap} (hH : ∀ b o, H' b = some o → b ≠ a → H b = some o) (ha : ∀ o, H' a = some o → ∃ ob, h'.get? a = some ob ∧ ORel g ob o) : CC g Γ loc H' h' h' where
  stay := fun b o e => by
    have hb : b ≠ a := fun z => by rw [z, h1] at e; cases e
    rw [hs.2 b hb]; exact x.stay b o e
  keepX := fun b o e a1 a2 a3 a4 => by
    have hb : b ≠ a := fun z => by
      subst z
      rcases h5 with h5 | h5
      · rw [h5] at e; cases e
      · exact a1 h5
    rw [hs.2 b hb]; exact x.keepX b o e a1 a2 a3 a4
  keepF := fun b hb hl o e => by
    have hb' : b ≠ a := fun z => h2 (z ▸ hb)
    obtain ⟨sl, q⟩ := x.keepF b hb hl o e
    exact ⟨sl, (hs.2 b hb').trans q⟩
  ff := ff_of (fun b hb o e hd => ⟨o, (hs.2 b (fun z => h2 (z ▸ hb))).trans e, hd⟩) x.ff
  led := fun b o e => by
    by_cases hb : b = a
    · subst hb; exact ha o e
    · obtain ⟨ob, q, r⟩ := x.led b o (hH b o e hb); exact ⟨ob, (hs.2 b hb).trans q, r⟩
  adr := fun b o e => by
    by_cases hb : b = a
    · subst hb; exact ⟨h1, h2, h3, h4, h5⟩
    · exact x.adr b o (hH b o e hb)
  lcs := let ⟨m, hn, r⟩ := x.lcs; ⟨m, hn.sameBut hs (Ne.symm h3), r⟩
  cel := fun i y e => let ⟨c, ov, q, r, t⟩ := x.cel i y e; ⟨c, ov, q, r.sameBut hs (fun z => h4 (z ▸ List.mem_map.mpr ⟨(y, c), mem_of_lookup q, rfl⟩)), t⟩
  cex := fun c hc => let ⟨ov, r⟩ := x.cex c hc; ⟨ov, r.sameBut hs (fun z => h4 (z ▸ hc))⟩
  len := x.len

theorem CC.updL {a : Addr} {ob : Obj} {ao ao' : AObj} (hΓ : Γ.Ok g n) (x : CC g Γ loc H h h) (ha : H a = some ao) (hs : Heap.SameBut a h h') (ho : h'.get? a = some ob) (r : ORel g ob ao') :
    CC g Γ loc (upd H a ao') h' h' := by
  obtain ⟨h1, h2, h3, h4, h5⟩ := x.adr a ao ha
  refine x.but hΓ hs h1 h2 h3 h4 h5 (fun b o e hb => by rwa [upd_ne _ _ hb] at e) fun o e => ?_
  rw [upd_same] at e; cases e; exact ⟨ob, ho, r⟩

/-- an object of the machine's own (an iterator, an accumulator) changes -/
theorem CC.other {a : Addr} (hΓ : Γ.Ok g n) (x : CC g Γ loc H h h) (hs : Heap.SameBut a h h') (hH : H a = none)
    (h1 : g.base.get? a = none) (h2 : a ∉ fsOf Γ.stack) (h3 : a ≠ Γ.env.locals) (h4 : a ∉ cellsOf Γ.env) (h5 : Γ.h₀.get? a = none ∨ Γ.mu a) : CC g Γ loc H h' h' :=
  x.but hΓ hs h1 h2 h3 h4 h5 (fun _ _ e _ => e) fun o e => by rw [hH] at e; cases e

theorem nd_at {names : List (Str × NameKind)} (hn : (names.map (·.1)).Nodup) {i j : Nat} {x : Str} {k k' : NameKind} (hi : names[i]? = some (x, k)) (hj : names[j]? = some (x, k')) : i = j := by
  have h1 : (names.map (·.1))[i]? = some x := by rw [List.getElem?_map, hi]; rfl
  have h2 : (names.map (·.1))[j]? = some x := by rw [List.getElem?_map, hj]; rfl
  have l1 := (List.getElem?_eq_some_iff.mp h1).1
  exact (List.getElem?_inj l1 hn).mp (h1.trans h2.symm)

theorem CC.setLoc {i : Nat} {x : Str} {cv : Value} {v : V} {m : Str → Option Value} (hΓ : Γ.Ok g n) (y : CC g Γ loc H h h) (hn : Γ.env.scope.names[i]? = some (x, NameKind.local))
    (hm : ∀ (j : Nat) z u, Γ.env.scope.names[j]? = some (z, NameKind.local) → loc[j]? = some (some u) → ∃ cu, m z = some cu ∧ vrel cu u)
    (hs : Heap.SameBut Γ.env.locals h h') (hns : h'.Ns Γ.env.locals fun z => if z = x then some cv else m z) (r : vrel cv v) : CC g Γ (loc.set i (some v)) H h' h' where
  stay := fun b o e => by
    have hb : b ≠ Γ.env.locals := fun z => by rw [z, hΓ.lb] at e; cases e
    rw [hs.2 b hb]; exact y.stay b o e
  keepX := fun b o e a1 a2 a3 a4 => by rw [hs.2 b a3]; exact y.keepX b o e a1 a2 a3 a4
  keepF := fun b hb hl o e => by
    obtain ⟨sl, q⟩ := y.keepF b hb hl o e
    exact ⟨sl, (hs.2 b hl).trans q⟩
  ff := ff_of (fun b hb o e hd => by
    by_cases hl : b = Γ.env.locals
    · obtain ⟨o', es, ep, q, qd, _⟩ := hns
      exact ⟨o', hl ▸ q, fun vs z => by rw [qd] at z; cases z⟩
    · exact ⟨o, (hs.2 b hl).trans e, hd⟩) y.ff
  led := fun b o e => by
    obtain ⟨ob, q, r⟩ := y.led b o e
    exact ⟨ob, (hs.2 b (y.adr b o e).2.2.1).trans q, r⟩
  adr := y.adr
  lcs := ⟨_, hns, fun j z u hj hu => by
    by_cases hij : i = j
    · subst hij
      rw [hn] at hj; cases hj
      rw [List.getElem?_set_self (by rw [y.len]; exact (List.getElem?_eq_some_iff.mp hn).1)] at hu
      cases hu
      exact ⟨cv, if_pos rfl, r⟩
    · rw [List.getElem?_set_ne hij] at hu
      rw [if_neg (fun z' => hij (by subst z'; exact nd_at hΓ.nd hn hj))]
      exact hm j z u hj hu⟩
  cel := fun j z e => by
    obtain ⟨c, ov, q, t, w⟩ := y.cel j z e
    have hc : c ∈ cellsOf Γ.env := List.mem_map.mpr ⟨(z, c), mem_of_lookup q, rfl⟩
    refine ⟨c, ov, q, t.sameBut hs (fun e' => hΓ.lc (e' ▸ hc)), fun u hu => ?_⟩
    rw [List.getElem?_set_ne (fun hij => by subst hij; rw [hn] at e; cases e)] at hu
    exact w u hu
  cex := fun c hc => let ⟨ov, r⟩ := y.cex c hc; ⟨ov, r.sameBut hs (fun z => hΓ.lc (z ▸ hc))⟩
  len := by rw [List.length_set]; exact y.len

theorem CC.setCell {i : Nat} {x : Str} {c : Addr} {cv : Value} {v : V} (hΓ : Γ.Ok g n) (y : CC g Γ loc H h h) (hn : Γ.env.scope.names[i]? = some (x, NameKind.cell)) (hc : Γ.env.cells.lookup x = some c) (ho : c ∈ Γ.own)
    (hs : Heap.SameBut c h h') (hi : h'.IsCell c (some cv)) (r : vrel cv v) : CC g Γ (loc.set i (some v)) H h' h' := by
  have hm : c ∈ cellsOf Γ.env := List.mem_map.mpr ⟨(x, c), mem_of_lookup hc, rfl⟩
  have hcl : c ≠ Γ.env.locals := fun e => hΓ.lc (e ▸ hm)
  exact {
    stay := fun b o e => by
      have hb : b ≠ c := fun z => by rw [z, (hΓ.cb c hm).1] at e; cases e
      rw [hs.2 b hb]; exact y.stay b o e
    keepX := fun b o e a1 a2 a3 a4 => by rw [hs.2 b (fun z => a4 (z ▸ ho))]; exact y.keepX b o e a1 a2 a3 a4
    keepF := fun b hb hl o e => by
      obtain ⟨sl, q⟩ := y.keepF b hb hl o e
      exact ⟨sl, (hs.2 b (fun z => (hΓ.cb c hm).2 (z ▸ hb))).trans q⟩
    ff := ff_of (fun b hb o e hd => ⟨o, (hs.2 b (fun z => (hΓ.cb c hm).2 (z ▸ hb))).trans e, hd⟩) y.ff
    led := fun b o e => by
      obtain ⟨ob, q, r⟩ := y.led b o e
      exact ⟨ob, (hs.2 b (fun z => (y.adr b o e).2.2.2.1 (z ▸ hm))).trans q, r⟩
    adr := y.adr
    lcs := by
      obtain ⟨m, hns, hr⟩ := y.lcs
      refine ⟨m, hns.sameBut hs (Ne.symm hcl), fun j z u hj hu => ?_⟩
      rw [List.getElem?_set_ne (fun hij => by subst hij; rw [hn] at hj; cases hj)] at hu
      exact hr j z u hj hu
    cel := fun j z e => by
      obtain ⟨c', ov, q, t, w⟩ := y.cel j z e
      by_cases hij : i = j
      · subst hij
        rw [hn] at e; cases e
        rw [hc] at q; cases q
        refine ⟨c, _, hc, hi, fun u hu => ?_⟩
        rw [List.getElem?_set_self (by rw [y.len]; exact (List.getElem?_eq_some_iff.mp hn).1)] at hu
        cases hu; exact ⟨cv, rfl, r⟩
      · have hcc : c' ≠ c := fun e' => hij (by
          subst e'
          have := name_of_addr hΓ.cd (mem_of_lookup hc) (mem_of_lookup q)
          subst this; exact nd_at hΓ.nd hn e)
        refine ⟨c', ov, q, t.sameBut hs hcc, fun u hu => ?_⟩
        rw [List.getElem?_set_ne hij] at hu
        exact w u hu
    cex := fun c' hc' => by
      by_cases e : c' = c
      · subst e; exact ⟨_, hi⟩
      · obtain ⟨ov, r⟩ := y.cex c' hc'; exact ⟨ov, r.sameBut hs e⟩
    len := by rw [List.length_set]; exact y.len }

/-- a context of the same frame, begun anew at this heap -/
noncomputable def Cx.sub (Γ : Cx) (h : Heap) (H : AHeap) : Cx := { Γ with h₀ := h, mu := fun a => ∃ o, H a = some o }

theorem Cx.Ok.sub (hΓ : Γ.Ok g n) (h : Heap) (H : AHeap) : (Γ.sub h H).Ok g n :=
  ⟨hΓ.fr, hΓ.hd, hΓ.dp, hΓ.kind, hΓ.gl, hΓ.bl, hΓ.lb, hΓ.lc, hΓ.cb, hΓ.cd, hΓ.nd, hΓ.ow, hΓ.lf⟩

theorem CC.sub (x : CC g Γ loc H h h) : CC g (Γ.sub h H) loc H h h where
  stay := x.stay
  keepX := fun b o e _ _ _ _ => e
  keepF := fun b hb hl o e => ⟨o.slots, e⟩
  ff := x.ff
  led := x.led
  adr := fun a o e => let ⟨q1, q2, q3, q4, _⟩ := x.adr a o e; ⟨q1, q2, q3, q4, .inr ⟨o, e⟩⟩
  lcs := x.lcs
  cel := x.cel
  cex := x.cex
  len := x.len

theorem CC.join {loc' : Loc} {H' : AHeap} (hΓ : Γ.Ok g n) (x : CC g Γ loc H h h) (y : CC g (Γ.sub h H) loc' H' B h') : CC g Γ loc' H' B h' where
  stay := y.stay
  keepX := fun b o e a1 a2 a3 a4 => y.keepX b o (x.keepX b o e a1 a2 a3 a4) (fun ⟨o', q⟩ => by
    rcases (x.adr b o' q).2.2.2.2 with z | z
    · rw [z] at e; cases e
    · exact a1 z) a2 a3 a4
  keepF := fun b hb hl o e => by
    obtain ⟨sl, q⟩ := x.keepF b hb hl o e
    obtain ⟨sl', q'⟩ := y.keepF b hb hl _ q
    exact ⟨sl', q'⟩
  ff := y.ff
  led := y.led
  adr := fun a o e => by
    obtain ⟨q1, q2, q3, q4, q5⟩ := y.adr a o e
    refine ⟨q1, q2, q3, q4, ?_⟩
    rcases q5 with z | ⟨o', z⟩
    · by_cases hm : Γ.mu a
      · exact .inr hm
      · left
        cases q : Γ.h₀.get? a with
        | none => rfl
        | some ob =>
          have z' : h.get? a = none := z
          have := x.keepX a ob q hm q2 q3 (fun ho => q4 (hΓ.ow a ho))
          rw [z'] at this; cases this
    · exact (x.adr a o' z).2.2.2.2
  lcs := y.lcs
  cel := y.cel
  cex := y.cex
  len := y.len
end Mine
namespace Mine
variable {g : G} {Γ Γ' : Cx} {loc loc' : Loc} {H H' : AHeap} {B h h' : Heap} {n : Nat}

theorem ns_slots {h h' : Heap} {a : Addr} {m : Str → Option Value} (hn : h.Ns a m) (k : ∀ o, h.get? a = some o → ∃ sl, h'.get? a = some { o with slots := sl }) : h'.Ns a m := by
  obtain ⟨o, es, ep, ho, hd, r⟩ := hn
  obtain ⟨sl, hs⟩ := k o ho
  exact ⟨_, es, ep, hs, hd, r⟩

/-- an object of the machine's own, outside of all that is related -/
structure Oth (g : G) (Γ : Cx) (H : AHeap) (a : Addr) : Prop where
  h : H a = none
  b : g.base.get? a = none
  f : a ∉ fsOf Γ.stack
  l : a ≠ Γ.env.locals
  c : a ∉ cellsOf Γ.env
  m : Γ.h₀.get? a = none ∨ Γ.mu a

theorem Oth.fresh {h : Heap} {a : Addr} (hΓ : Γ.Ok g n) (x : CC g Γ loc H h h) (hn : h.get? a = none) : Oth g Γ H a :=
  let ⟨h1, h2, h3, h4, h5⟩ := x.freshAdr hΓ hn; ⟨x.noH hn, h1, h2, h3, h4, h5⟩

theorem CC.ext {h h' : Heap} {a : Addr} (x : CC g Γ loc H h h) (O : Oth g Γ H a) (hs : Heap.ExtBut a h h') : CC g Γ loc H h' h' where
  stay := fun b o e => hs b o (fun z => by rw [z, O.b] at e; cases e) (x.stay b o e)
  keepX := fun b o e a1 a2 a3 a4 => hs b o (fun z => by
    subst z
    rcases O.m with h5 | h5
    · rw [h5] at e; cases e
    · exact a1 h5) (x.keepX b o e a1 a2 a3 a4)
  keepF := fun b hb hl o e => let ⟨sl, q⟩ := x.keepF b hb hl o e; ⟨sl, hs _ _ (fun z => O.f (z ▸ hb)) q⟩
  ff := ff_of (fun b hb o e hd => ⟨o, hs _ _ (fun z => O.f (z ▸ hb)) e, hd⟩) x.ff
  led := fun b o e => let ⟨ob, q, r⟩ := x.led b o e; ⟨ob, hs _ _ (fun z => by rw [z, O.h] at e; cases e) q, r⟩
  adr := x.adr
  lcs := let ⟨m, hn, r⟩ := x.lcs; ⟨m, hn.extBut hs (Ne.symm O.l), r⟩
  cel := fun i y e => let ⟨c, ov, q, ⟨oc, hoc, r⟩, t⟩ := x.cel i y e; ⟨c, ov, q, ⟨oc, hs _ _ (fun z => O.c (z ▸ List.mem_map.mpr ⟨(y, c), mem_of_lookup q, rfl⟩)) hoc, r⟩, t⟩
  cex := fun c hc => let ⟨ov, oc, hoc, r⟩ := x.cex c hc; ⟨ov, oc, hs _ _ (fun z => O.c (z ▸ hc)) hoc, r⟩
  len := x.len

/-- back from another frame, or from a comprehension's block, begun at `h` -/
theorem CC.leave (hΓ : Γ.Ok g n) (x : CC g Γ loc H h h) (y : CC g Γ' loc' H' B h') (hB : B.StaysIn h') (e0 : Γ'.h₀ = h) (eM : ∀ a, Γ'.mu a → (∃ o, H a = some o) ∨ Oth g Γ H a) (eS : ∀ b, b ∈ fsOf Γ.stack → b ∈ fsOf Γ'.stack)
    (eS' : ∀ b o, h.get? b = some o → b ∈ fsOf Γ'.stack → b ∈ fsOf Γ.stack) (eL : h.get? Γ'.env.locals = none) (eO : ∀ b ∈ Γ'.own, h.get? b = none) (hff : h'.FunFrames g.base Γ.stack) : CC g Γ loc H' B h' := by
  have nl : ∀ b o, h.get? b = some o → b ≠ Γ'.env.locals := fun b o e z => by rw [z, eL] at e; cases e
  have no : ∀ b o, h.get? b = some o → b ∉ Γ'.own := fun b o e z => by rw [eO b z] at e; cases e
  have old : ∀ b o, h.get? b = some o → H b = none → ¬ Oth g Γ H b → b ∉ fsOf Γ.stack → B.get? b = some o := fun b o e hm hO hf =>
    y.keepX b o (by rw [e0]; exact e) (fun z => by rcases eM b z with ⟨o', q⟩ | q; (rw [hm] at q; cases q); exact hO q) (fun z => hf (eS' b o e z)) (nl b o e) (no b o e)
  have oldF : ∀ b o, h.get? b = some o → b ∈ fsOf Γ.stack → ∃ sl, h'.get? b = some { o with slots := sl } := fun b o e hf => y.keepF b (eS b hf) (nl b o e) o (by rw [e0]; exact e)
  exact {
    stay := y.stay
    keepX := fun b o e a1 a2 a3 a4 => by
      have q := x.keepX b o e a1 a2 a3 a4
      refine old b o q ?_ (fun O => O.m.elim (fun z => by rw [z] at e; cases e) a1) a2
      cases z : H b with
      | none => rfl
      | some o' =>
        rcases (x.adr b o' z).2.2.2.2 with w | w
        · rw [w] at e; cases e
        · exact absurd w a1
    keepF := fun b hb hl o e => by
      obtain ⟨sl, q⟩ := x.keepF b hb hl o e
      obtain ⟨sl', q'⟩ := oldF b _ q hb
      exact ⟨sl', q'⟩
    ff := hff
    led := y.led
    adr := fun a o e => by
      obtain ⟨q1, q2, q3, q4, q5⟩ := y.adr a o e
      rcases q5 with z | z
      · rw [e0] at z; exact x.freshAdr hΓ z
      · rcases eM a z with ⟨o', z⟩ | O
        · exact x.adr a o' z
        · exact ⟨O.b, O.f, O.l, O.c, O.m⟩
    lcs := by
      obtain ⟨m, hn, r⟩ := x.lcs
      refine ⟨m, ?_, r⟩
      obtain ⟨oL, es, ep, hL, hr⟩ := id hn
      by_cases hf : Γ.env.locals ∈ fsOf Γ.stack
      · exact ns_slots hn fun o e => oldF _ o e hf
      · have hm : H Γ.env.locals = none := by
          cases z : H Γ.env.locals with
          | none => rfl
          | some o' => exact absurd rfl (x.adr _ o' z).2.2.1
        have q := old _ _ hL hm (fun O => O.l rfl) hf
        exact ⟨oL, es, ep, hB _ _ q, hr⟩
    cel := fun i z e => by
      obtain ⟨c, ov, q, ⟨oc, hoc, hd⟩, w⟩ := x.cel i z e
      have hc : c ∈ cellsOf Γ.env := List.mem_map.mpr ⟨(z, c), mem_of_lookup q, rfl⟩
      have hm : H c = none := by
        cases z : H c with
        | none => rfl
        | some o' => exact absurd hc (x.adr _ o' z).2.2.2.1
      exact ⟨c, ov, q, ⟨oc, old c oc hoc hm (fun O => O.c hc) (hΓ.cb c hc).2, hd⟩, w⟩
    cex := fun c hc => by
      obtain ⟨ov, oc, hoc, hd⟩ := x.cex c hc
      have hm : H c = none := by
        cases z : H c with
        | none => rfl
        | some o' => exact absurd hc (x.adr _ o' z).2.2.2.1
      exact ⟨ov, oc, old c oc hoc hm (fun O => O.c hc) (hΓ.cb c hc).2, hd⟩
    len := x.len }
end Mine
end

section
set_option genSizeOf false
set_option genSizeOfSpec false
open PySem PySem.W PyProof.Rows
set_option Elab.async false
set_option linter.unusedVariables false
namespace Mine
variable {g : G} {Γ Γ' : Cx} {loc loc' : Loc} {H H' : AHeap} {B h h' : Heap} {n : Nat}

theorem CC.hide (hΓ : Γ.Ok g n) (x : CC g Γ loc H h h) : CC g Γ loc H (hideAll h (fsOf Γ.stack)) h where
  stay := fun b o e => hideAll_get _ (x.stay b o e) fun hm => by have := (ff_mem x.ff hm).1; rw [e] at this; cases this
  keepX := fun b o e a1 a2 a3 a4 => hideAll_get _ (x.keepX b o e a1 a2 a3 a4) a2
  keepF := x.keepF
  ff := x.ff
  led := fun a o e => let ⟨ob, q, r⟩ := x.led a o e; ⟨ob, hideAll_get _ q (x.adr a o e).2.1, r⟩
  adr := x.adr
  lcs := x.lcs
  cel := fun i z e => by
    obtain ⟨c, ov, q, ⟨oc, hoc, hd⟩, w⟩ := x.cel i z e
    have hc : c ∈ cellsOf Γ.env := List.mem_map.mpr ⟨(z, c), mem_of_lookup q, rfl⟩
    exact ⟨c, ov, q, ⟨oc, hideAll_get _ hoc (hΓ.cb c hc).2, hd⟩, w⟩
  cex := fun c hc => let ⟨ov, oc, hoc, hd⟩ := x.cex c hc; ⟨ov, oc, hideAll_get _ hoc (hΓ.cb c hc).2, hd⟩
  len := x.len

theorem ff_base {base B h : Heap} (k : base.StaysIn B) {l : List Env} (x : h.FunFrames B l) : h.FunFrames base l := funFrames_base k x
theorem ff_hide {base h : Heap} {l : List Env} (x : h.FunFrames base l) : h.FunFrames (hideAll h (fsOf l)) l :=
  funFrames_hide x fun env he b hb => List.mem_filterMap.mpr ⟨env, he, hb⟩

theorem CC.slots (hl : Γ.env.locals ∈ fsOf Γ.stack) (x : CC g Γ loc H B h) (u : h.UpToSlots h') (ff : h'.FunFrames B Γ.stack) : CC g Γ loc H B h' where
  stay := x.stay
  keepX := x.keepX
  keepF := fun b hb hn o e => by
    obtain ⟨sl, q⟩ := x.keepF b hb hn o e
    obtain ⟨_, o', q', hd⟩ := ff_mem x.ff hb
    rw [q] at q'; cases q'
    obtain ⟨sl', w⟩ := u b _ q hd
    exact ⟨sl', w⟩
  ff := ff_base x.stay ff
  led := x.led
  adr := x.adr
  lcs := by
    obtain ⟨m, hn, r⟩ := x.lcs
    refine ⟨m, ns_slots hn fun o e => ?_, r⟩
    obtain ⟨_, o', q', hd⟩ := ff_mem x.ff hl
    rw [e] at q'; cases q'
    exact u _ _ e hd
  cel := x.cel
  cex := x.cex
  len := x.len

theorem ff_tail {h B : Heap} {env : Env} {outer : List Env} (x : h.FunFrames B (env :: outer)) : h.FunFrames B outer := x.2.2

section
variable {M : Model} {A : Around} {E : Value → Shared → Prop} {s : Shared} {env : Env} {outer : List Env} {L e : Addr} {die : Value} {Q : Unit → Shared → Prop}

theorem fsOf_cons (hf : env.frame = some L) : fsOf (env :: outer) = L :: fsOf outer := by unfold fsOf; rw [List.filterMap_cons, hf]

theorem exc_note (hfr : A.frames = some (env :: outer)) (hf : env.frame = some L) (x : ExcSt B (env :: outer) e die s.heap)
    (hQ : ∀ h' a0, Heap.HeldW B (env :: outer) e die a0 L h' → s.heap.UpToSlots h' → Q () { s with heap := h' }) : wpAny M A (noteFrame (.ref e) env) Q E s := by
  obtain ⟨x1, x2, x3, x4⟩ := x
  rcases x4 with ⟨oe, vs, a0, y1, y2, y3, y4, y5⟩ | ⟨a0, y⟩ | ⟨a0, L', y1, y2⟩
  · unfold noteFrame
    simp only [hf]
    refine wpAny_bind (wpAny_field y1 y3 y4 ?_)
    rw [if_neg (by decide)]
    subst y2
    exact wpAny_entryW hfr x3 hf y1 x1 x2 y3 (Array.getElem?_eq_some_iff.mp y4).1 y5 fun h' ⟨k1, k2, k3, k4⟩ => hQ h' a0 ⟨k1, x2, k2, k3⟩ k4
  · exact wpAny_looks_onW hfr hf ⟨x1, x2, x3, y⟩ fun h' k u => hQ h' a0 k u
  · rw [fsOf_cons hf] at y1
    cases y1
    exact wpAny_noteFrame_againW hf y2 (hQ s.heap a0 ⟨x1, x2, x3, y2⟩ (.refl _))

theorem exc_leave (hfr : A.frames = some (env :: outer)) (hf : env.frame = some L) (x : ExcSt B (env :: outer) e die s.heap)
    (hQ : ∀ h' a0, Heap.FlyingW B outer e die a0 h' → h'.FunFrames B (env :: outer) → s.heap.UpToSlots h' → Q () { s with heap := h' }) : wpAny M A (leaving env (.ref e)) Q E s := by
  unfold leaving
  refine wpAny_bind (exc_note hfr hf x fun h₁ a0 k u => wpAny_landsW k fun h₂ k₂ u₂ => ?_)
  obtain ⟨k1, k2, k3, k4⟩ := k₂
  exact hQ h₂ a0 ⟨k1, k2, ff_tail k3, k4⟩ k3 (u.trans u₂)

/-- the loop's own activation hands it on: it is held by the same frame -/
theorem held_again {l : List Env} {a0 : Value} (x : Heap.HeldW B l e die a0 L s.heap) (hQ : ∀ h', Heap.HeldW B l e die a0 L h' → s.heap.UpToSlots h' → Q () { s with heap := h' }) :
    wpAny M A (setFlight (.ref e) (some L)) Q E s := by
  obtain ⟨hkb, hen, hl, oe, vs, T, oT, ts, he, hcls, hd, h1, hnT, hTe, hT, hdT, h3⟩ := x
  have hsz3 : 3 < ts.size := (Array.getElem?_eq_some_iff.mp h3).1
  have ne : ∀ b, b ≠ T → (s.heap.update T (Obj.mapFields (·.setIfInBounds 3 ((some L).elim Value.none fun f => rawInt f)))).get? b = s.heap.get? b :=
    fun b hb => Heap.get?_update_other _ _ (Ne.symm hb)
  have plain : ∀ b o, s.heap.get? b = some o → (∀ vs, o.data ≠ .fields vs) → b ≠ T := fun b o hb hnf q => by
    subst q; rw [hT] at hb; cases hb; exact hnf ts hdT
  unfold setFlight
  refine wpAny_bind (wpAny_field he hd h1 ?_)
  rw [if_pos (show (Value.ref T != Value.none) = true from by simp)]
  refine wpAny_setField hT hdT hsz3 (hQ _ ⟨fun b o q => ?_, hen, ?_, ?_⟩ fun b o q hn => ⟨o.slots, (ne b (plain b o q hn)).trans q⟩)
  · exact (ne b (fun z => by subst z; rw [hnT] at q; cases q)).trans (hkb b o q)
  · exact hl.of_keeps fun b o q hn => ⟨o, (ne b (plain b o q hn)).trans q, rfl⟩
  · exact ⟨oe, vs, T, _, _, (ne e (Ne.symm hTe)).trans he, hcls, hd, h1, hnT, hTe, Heap.get?_update_self _ hT (Obj.isFreed_of_fields (Obj.data_mapFields hdT _)), Obj.data_mapFields hdT _, by simp [hsz3]⟩
end

/-- the frame that runs is the newest one -/
def Cx.Frame (Γ : Cx) : Prop := ∃ outer, Γ.stack = Γ.env :: outer ∧ Γ.env.frame = some Γ.env.locals

theorem Cx.Frame.mem (F : Γ.Frame) : Γ.env.locals ∈ fsOf Γ.stack := by
  obtain ⟨o, e, f⟩ := F
  rw [e, fsOf_cons f]; exact .head _

section
variable {M : Model} {E : Value → Shared → Prop} {s : Shared} {e : Value} {Q : Unit → Shared → Prop}

/-- the exception is held by this frame -/
structure EH (g : G) (Γ : Cx) (H : AHeap) (e : Value) (s : Shared) : Prop where
  ex : ∃ a B loc a0, e = .ref a ∧ CC g Γ loc H B s.heap ∧ Heap.HeldW B Γ.stack a (.ref (g.addr "Die")) a0 Γ.env.locals s.heap
  os : s.os = Γ.os
  gens : s.gens = Γ.gens

theorem EH.ec (F : Γ.Frame) (x : EH g Γ H e s) : EC g Γ H e s := by
  obtain ⟨⟨a, B, loc, a0, q1, q2, k1, k2, k3, k4⟩, h1, h2⟩ := x
  obtain ⟨o, eo, f⟩ := F
  exact ⟨⟨a, B, loc, q1, q2, k1, k2, k3, .inr (.inr ⟨a0, _, by rw [eo, fsOf_cons f]; rfl, k4⟩)⟩, h1, h2⟩

theorem ec_note (hΓ : Γ.Ok g n) (F : Γ.Frame) (x : EC g Γ H e s) (hQ : ∀ s', EH g Γ H e s' → Q () s') : wpAny M Γ.A (noteFrame e Γ.env) Q E s := by
  obtain ⟨⟨a, B, loc, rfl, q2, k⟩, h1, h2⟩ := x
  have hm := F.mem
  obtain ⟨o, eo, f⟩ := F
  rw [eo] at k
  refine exc_note (by rw [hΓ.fr, eo]) f k fun h' a0 y u => hQ _ ⟨⟨a, B, loc, a0, rfl, q2.slots hm u (by rw [eo]; exact y.2.2.1), by rw [eo]; exact y⟩, h1, h2⟩

theorem eh_came (F : Γ.Frame) (x : EH g Γ H e s) (hE : ∀ s', EH g Γ H e s' → E e s') : cameBackBy M Γ.A Γ.env E e s := by
  obtain ⟨⟨a, B, loc, a0, rfl, q2, k⟩, h1, h2⟩ := x
  have hm := F.mem
  obtain ⟨o, eo, f⟩ := F
  have k' := k
  obtain ⟨_, _, _, oe, vs, T, oT, ts, he, hcls, hd, hT1, _⟩ := k'
  unfold cameBackBy
  refine wpAny_bind (wpAny_field he hd hT1 ?_)
  rw [if_neg (by simp)]
  show wpAny _ _ (setFlight (.ref a) Γ.env.frame) _ _ _
  rw [f]
  exact held_again k fun h' y u => hE _ ⟨⟨a, B, loc, a0, rfl, q2.slots hm u y.2.2.1, y⟩, h1, h2⟩

/-- out of a loop's turn, through the loop's own activation -/
theorem ec_loop (hΓ : Γ.Ok g n) (F : Γ.Frame) (x : EC g Γ H e s) (hE : ∀ s', EC g Γ H e s' → E e s') : notedBy M Γ.A Γ.env (fun e s' => cameBackBy M Γ.A Γ.env E e s') e s :=
  ec_note hΓ F x fun s' y => eh_came F y fun s'' z => hE s'' (z.ec F)
end
end Mine
end

section
set_option genSizeOf false
set_option genSizeOfSpec false
open PySem PySem.W PyProof.Rows
set_option Elab.async false
set_option linter.unusedVariables false
namespace Mine

/-- what a text's names mean -/
structure Sc where
  names : List (Str × NameKind)
  gv : List (Str × V)
  fns : List (Str × String)
  cls : List (Str × String)
  comp : Bool := false

noncomputable def biNames : List (Str × String) := [("len", "len"), ("max", "max"), ("min", "min"), ("abs", "abs"), ("chr", "chr"), ("str", "str"), ("int", "int"), ("sum", "sum")]
noncomputable def methNames : List (Str × String) := [("find", "find"), ("index", "index"), ("upper", "upper"), ("join", "join"), ("append", "append"), ("insert", "insert")]
noncomputable def tyNames : List (Str × String) := [("int", "int"), ("str", "str"), ("Ref", "Ref")]
noncomputable def attrNames : List (Str × String) := (attrStrs ++ ["target", "number", "blessed"]).map fun s => (Str.ofString s, s)

noncomputable def Sc.slot (sc : Sc) (x : Str) : Option Nat := sc.names.findIdx? (·.1 == x)
noncomputable def Sc.kind (sc : Sc) (x : Str) : Option NameKind := sc.names.lookup x

noncomputable def isGlob (sc : Sc) (x : Str) : Bool := sc.kind x == some .globalImplicit && x != ("__debug__" : Str)

noncomputable def relab (outer names : List (Str × NameKind)) : List (Str × NameKind) := names.map fun (n, k) => if k == .free && outer.lookup n == some .cell then (n, .cell) else (n, k)

/-! ## small readers, each with its way back -/
section
variable {α β : Type} {c : β} {P : Prop}
theorem noS (h : (none : Option β) = some c) : P := nomatch h
theorem noB (h : false = true) : P := nomatch h
theorem mapS {M : β → Prop} {f : α → β} {x : Option α} (h : x.map f = some c) (k : ∀ a, x = some a → M (f a)) : M c := by
  cases x with
  | none => exact noS h
  | some a => cases h; exact k a rfl
theorem bindS {f : α → Option β} {x : Option α} (h : x.bind f = some c) (k : ∀ a, x = some a → f a = some c → P) : P := by
  cases x with
  | none => exact noS h
  | some a => exact k a rfl h
theorem iteS {p : Prop} {d : Decidable p} {x : Option β} (h : (if p then x else none) = some c) (k : p → x = some c → P) : P := by
  cases d with
  | isTrue e => exact k e h
  | isFalse e => exact noS h
theorem iteN {p : Bool} {x : Option β} (h : (if p then none else x) = some c) (k : p = false → x = some c → P) : P := by
  cases p with
  | true => exact noS h
  | false => exact k rfl h
theorem iteO {p : Bool} {x y : Option β} (h : (if p then x else y) = some c) (k : p = true → x = some c → P) (k2 : y = some c → P) : P := by
  cases p with
  | true => exact k rfl h
  | false => exact k2 h
noncomputable def on0 (l : List α) (y : Option β) : Option β := match l with
  | [] => y
  | _ => none
theorem on0E {M : List α → Prop} {l : List α} {y : Option β} (h : on0 l y = some c) (k : y = some c → M []) : M l := by
  cases l with
  | nil => exact k h
  | cons => exact noS h
noncomputable def on1 (l : List α) (f : α → Option β) : Option β := match l with
  | [] => none
  | a :: r => on0 r (f a)
theorem on1E {M : List α → Prop} {l : List α} {f : α → Option β} (h : on1 l f = some c) (k : ∀ a, f a = some c → M [a]) : M l := by
  cases l with
  | nil => exact noS h
  | cons a r => exact on0E (M := fun r => M (a :: r)) h (k a)
noncomputable def on2 (l : List α) (f : α → α → Option β) : Option β := match l with
  | [] => none
  | a :: r => on1 r (f a)
theorem on2E {M : List α → Prop} {l : List α} {f : α → α → Option β} (h : on2 l f = some c) (k : ∀ a b, f a b = some c → M [a, b]) : M l := by
  cases l with
  | nil => exact noS h
  | cons a r => exact on1E (M := fun r => M (a :: r)) h (k a)
noncomputable def orK (o : Option α) (f : α → Option β) (y : Option β) : Option β := match o with
  | some a => f a
  | none => y
theorem orKE {o : Option α} {f : α → Option β} {y : Option β} (h : orK o f y = some c) (k : ∀ a, o = some a → f a = some c → P) (k2 : y = some c → P) : P := by
  cases o with
  | none => exact k2 h
  | some a => exact k a rfl h
theorem andB {a b : Bool} (h : (a && b) = true) (k : a = true → b = true → P) : P := by
  cases a with
  | true => exact k rfl h
  | false => exact noB h
theorem notB {a : Bool} (h : (!a) = true) : a = false := by
  cases a with
  | true => exact noB h
  | false => rfl

noncomputable def onName (e : Expr) (f : Str → Pos → Option β) : Option β := @Expr.casesOn (fun _ => Option β) e (fun _ _ _ => none) (fun _ _ _ => none) (fun _ _ _ _ => none) (fun _ _ _ => none) (fun _ _ _ _ => none) (fun _ _ _ _ => none) (fun _ _ _ => none) (fun _ _ _ => none) (fun _ _ _ _ => none) (fun _ _ _ _ => none) (fun _ _ _ _ _ => none) (fun _ _ _ _ => none) (fun _ _ => none) (fun _ _ => none) (fun _ _ => none) (fun _ _ _ _ => none) (fun _ _ _ _ => none) (fun _ _ _ _ => none) (fun _ _ => none) (fun _ _ _ => none) (fun _ _ _ => none) (fun _ _ _ => none) (fun _ _ => none) (fun x pos => f x pos) (fun _ _ => none) (fun _ _ _ => none) (fun _ _ _ _ => none)
theorem onNameE {M : Expr → Prop} {f : Str → Pos → Option β} (k : ∀ x p, f x p = some c → M (.Name x p)) {e : Expr} : onName e f = some c → M e := by
  cases e <;> first | exact k _ _ | exact noS
noncomputable def onFn (e : Expr) (f : Str → Option β) (f2 : Expr → Str → Pos → Option β) : Option β := @Expr.casesOn (fun _ => Option β) e (fun _ _ _ => none) (fun _ _ _ => none) (fun _ _ _ _ => none) (fun _ _ _ => none) (fun _ _ _ _ => none) (fun _ _ _ _ => none) (fun _ _ _ => none) (fun _ _ _ => none) (fun _ _ _ _ => none) (fun _ _ _ _ => none) (fun _ _ _ _ _ => none) (fun _ _ _ _ => none) (fun _ _ => none) (fun _ _ => none) (fun _ _ => none) (fun _ _ _ _ => none) (fun _ _ _ _ => none) (fun _ _ _ _ => none) (fun _ _ => none) (fun _ _ _ => none) (fun o a pos => f2 o a pos) (fun _ _ _ => none) (fun _ _ => none) (fun x pos => f x) (fun _ _ => none) (fun _ _ _ => none) (fun _ _ _ _ => none)
theorem onFnE {M : Expr → Prop} {f : Str → Option β} {f2 : Expr → Str → Pos → Option β} (k : ∀ x p, f x = some c → M (.Name x p)) (k2 : ∀ o a p, f2 o a p = some c → M (.Attribute o a p)) {e : Expr} : onFn e f f2 = some c → M e := by
  cases e <;> first | exact k _ _ | exact k2 _ _ _ | exact noS
noncomputable def onSl (e : Expr) (f : Option Expr → Option Expr → Option Expr → Option β) (y : Option β) : Option β := @Expr.casesOn (fun _ => Option β) e (fun _ _ _ => y) (fun _ _ _ => y) (fun _ _ _ _ => y) (fun _ _ _ => y) (fun _ _ _ _ => y) (fun _ _ _ _ => y) (fun _ _ _ => y) (fun _ _ _ => y) (fun _ _ _ _ => y) (fun _ _ _ _ => y) (fun _ _ _ _ _ => y) (fun _ _ _ _ => y) (fun _ _ => y) (fun _ _ => y) (fun _ _ => y) (fun _ _ _ _ => y) (fun _ _ _ _ => y) (fun _ _ _ _ => y) (fun _ _ => y) (fun _ _ _ => y) (fun _ _ _ => y) (fun _ _ _ => y) (fun _ _ => y) (fun _ _ => y) (fun _ _ => y) (fun _ _ _ => y) (fun lo hi st pos => f lo hi st)
theorem onSlE {M : Expr → Prop} {f : Option Expr → Option Expr → Option Expr → Option β} {y : Option β} (k : ∀ lo hi st p, f lo hi st = some c → M (.Slice lo hi st p)) {e : Expr} (k2 : y = some c → M e) : onSl e f y = some c → M e := by
  cases e <;> first | exact k2 | exact k _ _ _ _
noncomputable def onText (c : Const) (f : Str → Option β) : Option β := match c with
  | .str s => f s
  | _ => none
theorem onTextE {M : Const → Prop} {f : Str → Option β} (k : ∀ x, f x = some c → M (.str x)) {e : Const} : onText e f = some c → M e := by
  cases e <;> first | exact k _ | exact noS
noncomputable def onStr (e : Expr) (f : Str → Option β) : Option β := @Expr.casesOn (fun _ => Option β) e (fun _ _ _ => none) (fun _ _ _ => none) (fun _ _ _ _ => none) (fun _ _ _ => none) (fun _ _ _ _ => none) (fun _ _ _ _ => none) (fun _ _ _ => none) (fun _ _ _ => none) (fun _ _ _ _ => none) (fun _ _ _ _ => none) (fun _ _ _ _ _ => none) (fun _ _ _ _ => none) (fun _ _ => none) (fun _ _ => none) (fun _ _ => none) (fun _ _ _ _ => none) (fun _ _ _ _ => none) (fun _ _ _ _ => none) (fun _ _ => none) (fun c k pos => onText c f) (fun _ _ _ => none) (fun _ _ _ => none) (fun _ _ => none) (fun _ _ => none) (fun _ _ => none) (fun _ _ _ => none) (fun _ _ _ _ => none)
theorem onStrE {M : Expr → Prop} {f : Str → Option β} (k : ∀ x n p, f x = some c → M (.Constant (.str x) n p)) {e : Expr} : onStr e f = some c → M e := by
  cases e <;> first | exact onTextE (M := fun c => M (.Constant c _ _)) fun x => k x _ _ | exact noS
noncomputable def onInt (c : Const) (f : Int → Option β) : Option β := match c with
  | .int s => f s
  | _ => none
theorem onIntE {M : Const → Prop} {f : Int → Option β} (k : ∀ x, f x = some c → M (.int x)) {e : Const} : onInt e f = some c → M e := by
  cases e <;> first | exact k _ | exact noS
noncomputable def onNum (e : Expr) (f : Int → Option β) : Option β := @Expr.casesOn (fun _ => Option β) e (fun _ _ _ => none) (fun _ _ _ => none) (fun _ _ _ _ => none) (fun _ _ _ => none) (fun _ _ _ _ => none) (fun _ _ _ _ => none) (fun _ _ _ => none) (fun _ _ _ => none) (fun _ _ _ _ => none) (fun _ _ _ _ => none) (fun _ _ _ _ _ => none) (fun _ _ _ _ => none) (fun _ _ => none) (fun _ _ => none) (fun _ _ => none) (fun _ _ _ _ => none) (fun _ _ _ _ => none) (fun _ _ _ _ => none) (fun _ _ => none) (fun c k pos => onInt c f) (fun _ _ _ => none) (fun _ _ _ => none) (fun _ _ => none) (fun _ _ => none) (fun _ _ => none) (fun _ _ _ => none) (fun _ _ _ _ => none)
theorem onNumE {M : Expr → Prop} {f : Int → Option β} (k : ∀ x n p, f x = some c → M (.Constant (.int x) n p)) {e : Expr} : onNum e f = some c → M e := by
  cases e <;> first | exact onIntE (M := fun c => M (.Constant c _ _)) fun x => k x _ _ | exact noS
noncomputable def onRange (e : Expr) (f : Str → Expr → Option β) : Option β := @Expr.casesOn (fun _ => Option β) e (fun _ _ _ => none) (fun _ _ _ => none) (fun _ _ _ _ => none) (fun _ _ _ => none) (fun _ _ _ _ => none) (fun _ _ _ _ => none) (fun _ _ _ => none) (fun _ _ _ => none) (fun _ _ _ _ => none) (fun _ _ _ _ => none) (fun _ _ _ _ _ => none) (fun _ _ _ _ => none) (fun _ _ => none) (fun _ _ => none) (fun _ _ => none) (fun _ _ _ _ => none) (fun fn as ks pos => onName fn fun x _ => on1 as fun n => on0 ks (f x n)) (fun _ _ _ _ => none) (fun _ _ => none) (fun _ _ _ => none) (fun _ _ _ => none) (fun _ _ _ => none) (fun _ _ => none) (fun _ _ => none) (fun _ _ => none) (fun _ _ _ => none) (fun _ _ _ _ => none)
theorem onRangeE {M : Expr → Prop} {f : Str → Expr → Option β} (k : ∀ x n p q, f x n = some c → M (.Call (.Name x p) [n] [] q)) {e : Expr} : onRange e f = some c → M e := by
  cases e <;> first | exact onNameE (M := fun e => M (.Call e _ _ _)) fun x p h => on1E (M := fun l => M (.Call _ l _ _)) h fun n h => on0E (M := fun l => M (.Call _ _ l _)) h (k x n p _) | exact noS
end
/-- no starred item -/
noncomputable def noStar (e : Expr) : Bool := @Expr.casesOn (fun _ => Bool) e (fun _ _ _ => true) (fun _ _ _ => true) (fun _ _ _ _ => true) (fun _ _ _ => true) (fun _ _ _ _ => true) (fun _ _ _ _ => true) (fun _ _ _ => true) (fun _ _ _ => true) (fun _ _ _ _ => true) (fun _ _ _ _ => true) (fun _ _ _ _ _ => true) (fun _ _ _ _ => true) (fun _ _ => true) (fun _ _ => true) (fun _ _ => true) (fun _ _ _ _ => true) (fun _ _ _ _ => true) (fun _ _ _ _ => true) (fun _ _ => true) (fun _ _ _ => true) (fun _ _ _ => true) (fun _ _ _ => true) (fun v pos => false) (fun _ _ => true) (fun _ _ => true) (fun _ _ _ => true) (fun _ _ _ _ => true)
theorem noStarE (r : List Expr) (env : Env) {e : Expr} : noStar e = true → starEach (e :: r) env = (false, eval e env) :: starEach r env := by
  cases e <;> first | exact fun _ => rfl | exact noB
/-- a value that is no comprehension -/
noncomputable def plainV (e : Expr) : Bool := @Expr.casesOn (fun _ => Bool) e (fun _ _ _ => true) (fun _ _ _ => true) (fun _ _ _ _ => true) (fun _ _ _ => true) (fun _ _ _ _ => true) (fun _ _ _ _ => true) (fun _ _ _ => true) (fun _ _ _ => true) (fun e gs s pos => false) (fun e gs s pos => false) (fun k v gs s pos => false) (fun _ _ _ _ => true) (fun _ _ => true) (fun _ _ => true) (fun _ _ => true) (fun _ _ _ _ => true) (fun _ _ _ _ => true) (fun _ _ _ _ => true) (fun _ _ => true) (fun _ _ _ => true) (fun _ _ _ => true) (fun _ _ _ => true) (fun _ _ => true) (fun _ _ => true) (fun _ _ => true) (fun _ _ _ => true) (fun _ _ _ _ => true)
/-- a condition that is tested by its value -/
noncomputable def plainT (e : Expr) : Bool := @Expr.casesOn (fun _ => Bool) e (fun op values pos => false) (fun _ _ _ => true) (fun _ _ _ _ => true) (fun op e pos => op != .Not) (fun _ _ _ _ => true) (fun t a b pos => false) (fun _ _ _ => true) (fun _ _ _ => true) (fun _ _ _ _ => true) (fun _ _ _ _ => true) (fun _ _ _ _ _ => true) (fun _ _ _ _ => true) (fun _ _ => true) (fun _ _ => true) (fun _ _ => true) (fun l ops bs pos => false) (fun _ _ _ _ => true) (fun _ _ _ _ => true) (fun _ _ => true) (fun _ _ _ => true) (fun _ _ _ => true) (fun _ _ _ => true) (fun _ _ => true) (fun _ _ => true) (fun _ _ => true) (fun _ _ _ => true) (fun _ _ _ _ => true)
noncomputable def noSet (e : Expr) : Bool := @Expr.casesOn (fun _ => Bool) e (fun _ _ _ => true) (fun _ _ _ => true) (fun _ _ _ _ => true) (fun _ _ _ => true) (fun _ _ _ _ => true) (fun _ _ _ _ => true) (fun _ _ _ => true) (fun es k pos => false) (fun _ _ _ _ => true) (fun _ _ _ _ => true) (fun _ _ _ _ _ => true) (fun _ _ _ _ => true) (fun _ _ => true) (fun _ _ => true) (fun _ _ => true) (fun _ _ _ _ => true) (fun fn as ks pos => true) (fun _ _ _ _ => true) (fun _ _ => true) (fun _ _ _ => true) (fun _ _ _ => true) (fun _ _ _ => true) (fun _ _ => true) (fun _ _ => true) (fun _ _ => true) (fun _ _ _ => true) (fun _ _ _ _ => true)
noncomputable def noTuple (e : Expr) : Bool := @Expr.casesOn (fun _ => Bool) e (fun _ _ _ => true) (fun _ _ _ => true) (fun _ _ _ _ => true) (fun _ _ _ => true) (fun _ _ _ _ => true) (fun _ _ _ _ => true) (fun _ _ _ => true) (fun _ _ _ => true) (fun _ _ _ _ => true) (fun _ _ _ _ => true) (fun _ _ _ _ _ => true) (fun _ _ _ _ => true) (fun _ _ => true) (fun _ _ => true) (fun _ _ => true) (fun _ _ _ _ => true) (fun _ _ _ _ => true) (fun _ _ _ _ => true) (fun _ _ => true) (fun _ _ _ => true) (fun _ _ _ => true) (fun _ _ _ => true) (fun _ _ => true) (fun _ _ => true) (fun _ _ => true) (fun es k pos => false) (fun _ _ _ _ => true)
noncomputable def isSuper : Expr → Bool
  | .Call .. => true
  | _ => false
noncomputable def kindK {β : Type} (k : Option NameKind) (a b d : Option β) : Option β := match k with
  | none => none
  | some k => (match k with
    | .local => a
    | .cell => b
    | .globalImplicit => d
    | .free => none
    | .globalExplicit => none)
theorem kindKE {β : Type} {c : β} {P : Prop} {k : Option NameKind} {a b d : Option β} (h : kindK k a b d = some c) (h1 : k = some .local → a = some c → P) (h2 : k = some .cell → b = some c → P) (h3 : k = some .globalImplicit → d = some c → P) : P := by
  cases k with
  | none => exact noS h
  | some k =>
    cases k with
    | «local» => exact h1 rfl h
    | cell => exact h2 rfl h
    | globalImplicit => exact h3 rfl h
    | free => exact noS h
    | globalExplicit => exact noS h
noncomputable def constC (c : Const) : Option V := match c with
  | .none => some .none
  | .bool b => some (.bool b)
  | .int i => some (.int i)
  | .str s => some (.str s.cps.toList)
  | _ => none

noncomputable def constKvs : List (Option Expr) → List Expr → Option (List (List Nat × Int))
  | [], vs => on0 vs (some [])
  | k :: ks, vs => orK k (fun k => onStr k fun k => (match vs with
    | [] => none
    | v :: vs => onNum v fun i => (constKvs ks vs).map ((k.cps.toList, i) :: ·))) none

noncomputable def compB (sc : Sc) (scope : Scope) (t : Str) : Bool :=
  scope.kind == .function && scope.names.all (fun (n, k) => k == .local || k == .free || k == .globalImplicit) && (relab sc.names scope.names).all (fun (n, k) => k != .free) && decide ((relab sc.names scope.names).map (·.1)).Nodup && (relab sc.names scope.names).lookup t == some .local

mutual
noncomputable def toE : Nat → Sc → Expr → Option C
  | 0, _, _ => none
  | f + 1, sc, e => match e with
    | .Constant c _ _ => (constC c).map .lit
    | .Name x _ => if x == ("__debug__" : Str) then none else kindK (sc.kind x) ((sc.slot x).map .loc) ((sc.slot x).map .loc) ((sc.gv.lookup x).map .lit)
    | .BinOp a op b _ => (toE f sc a).bind fun a => (toE f sc b).map fun b => .bin op a b
    | .UnaryOp op a _ => if op = .USub then (toE f sc a).map .neg else none
    | .Compare a ops bs _ => on1 ops fun op => on1 bs fun b => if behindInMarks op b then none else (toE f sc a).bind fun a => (toE f sc b).map fun b => .cmp op a b
    | .BoolOp op es _ => if op = .And then on2 es fun a b => (toE f sc a).bind fun a => (toE f sc b).map fun b => .andv a b else none
    | .IfExp t a b _ => (toT f sc t).bind fun t => (toE f sc a).bind fun a => (toE f sc b).map fun b => .ite t a b
    | .Call fn args kws p => onFn fn (fun x => if !isGlob sc x then none else (match kws with
        | [] => orK (sc.fns.lookup x) (fun fn => (toL f sc args).map fun as => .call fn as)
            (orK (sc.cls.lookup x) (fun c => (toL f sc args).map fun as => .new c as [] .nil)
              (orK (biNames.lookup x) (fun b => if sc.gv.any (·.1 == x) then none else (toL f sc args).map fun as => .bi b as)
                (if x == ("isinstance" : Str) then on2 args fun e t => onName t fun t _ => if !isGlob sc t then none else if noStar e then (tyNames.lookup t).bind fun t => (toE f sc e).map fun e => .isi e t else none else none)))
        | k :: kws => (sc.cls.lookup x).bind fun c => on0 args ((toK f sc (k :: kws)).map fun r => .new c .nil r.1 r.2)))
      (fun o m ap => on0 kws (if ap.endLine == p.line && !isSuper o then
        (if m == ("replace" : Str) then on2 args fun a b => onStr a fun x => onStr b fun y => (toE f sc o).map fun o => .meth "replace" o (.cons (.lit (.str x.cps.toList)) (.cons (.lit (.str y.cps.toList)) .nil))
          else if args.length ≤ 5 then (methNames.lookup m).bind fun m => (toE f sc o).bind fun o => (toL f sc args).map fun as => .meth m o as else none) else none))
    | .Attribute o a _ => if isSuper o then none else (attrNames.lookup a).bind fun a => (toE f sc o).map fun o => .attr o a
    | .Subscript o i _ => (toE f sc o).bind fun o => onSl i (fun lo hi st => orK st (fun _ => none) ((toO f sc lo).bind fun lo => (toO f sc hi).map fun hi => .slice o lo hi)) ((toE f sc i).map fun i => .sub o i)
    | .List es _ => (toL f sc es).map .list
    | .Tuple es _ _ => (toL f sc es).map .tup
    | .Dict ks vs _ => if ks.length ≤ 15 then if 1 ≤ ks.length then (constKvs ks vs).bind fun l => if (l.map (·.1)).Nodup then some (.dict l) else none else none else none
    | .ListComp elt gens scope _ => on1 gens fun gen => onName gen.target fun t _ => on0 gen.ifs (if gen.is_async = 0 then (if sc.comp then none else if compB sc scope t then
        (toI f sc gen.iter).bind fun it => (toE f { sc with names := relab sc.names scope.names, comp := true } elt).bind fun elt => ((relab sc.names scope.names).findIdx? (·.1 == t)).map fun i =>
          .comp ((relab sc.names scope.names).map fun (n, k) => if k == .cell then sc.slot n else none) i elt it else none) else none)
    | _ => none
noncomputable def toL : Nat → Sc → List Expr → Option C
  | 0, _, _ => none
  | f + 1, sc, l => match l with
    | [] => some .nil
    | e :: r => if noStar e then (toE f sc e).bind fun a => (toL f sc r).map fun b => .cons a b else none
noncomputable def toK : Nat → Sc → List Keyword → Option (List String × C)
  | 0, _, _ => none
  | f + 1, sc, l => match l with
    | [] => some ([], .nil)
    | k :: r => k.arg.bind fun n => (attrNames.lookup n).bind fun n => (toE f sc k.value).bind fun a => (toK f sc r).map fun b => (n :: b.1, .cons a b.2)
noncomputable def toO : Nat → Sc → Option Expr → Option C
  | 0, _, _ => none
  | f + 1, sc, l => match l with
    | none => some (.lit .none)
    | some e => toE f sc e
noncomputable def toT : Nat → Sc → Expr → Option C
  | 0, _, _ => none
  | f + 1, sc, e => if plainT e then (toE f sc e).map .val else (match e with
    | .UnaryOp op t p => if op = .Not then (toT f sc t).map .not else none
    | .BoolOp op ts _ => (match op with
      | .And => (toTs f sc ts).map .and
      | .Or => (toTs f sc ts).map .or)
    | .Compare a ops bs _ => on1 ops fun op => on1 bs fun b => if behindInMarks op b then none else (toE f sc a).bind fun a => (toE f sc b).map fun b => .cmp op a b
    | _ => none)
noncomputable def toTs : Nat → Sc → List Expr → Option C
  | 0, _, _ => none
  | f + 1, sc, l => match l with
    | [] => some .nil
    | e :: r => (toT f sc e).bind fun a => (toTs f sc r).map fun b => .cons a b
noncomputable def toI : Nat → Sc → Expr → Option C
  | 0, _, _ => none
  | f + 1, sc, e => orK (onRange e fun x n => if x == ("range" : Str) && isGlob sc x && noStar n then toE f sc n else none) (fun n => some (.range n)) (if noSet e then (toE f sc e).map .val else none)
end

noncomputable def toTg : Nat → Sc → Expr → Option C
  | 0, _, _ => none
  | f + 1, sc, e => match e with
    | .Name x _ => kindK (sc.kind x) ((sc.slot x).map .loc) ((sc.slot x).map .loc) none
    | .Attribute o a _ => (attrNames.lookup a).bind fun a => (toE f sc o).map fun o => .attr o a
    | .Subscript o i _ => (toE f sc o).bind fun o => (toE f sc i).map fun i => .sub o i
    | _ => none
noncomputable def toTgs (f : Nat) (sc : Sc) : List Expr → Option C
  | [] => some .nil
  | e :: r => (toTg f sc e).bind fun a => (toTgs f sc r).map fun b => .cons a b

/-- the one handler: except Die: return None -/
noncomputable def onNone {β : Type} (e : Expr) (y : Option β) : Option β := @Expr.casesOn (fun _ => Option β) e (fun _ _ _ => none) (fun _ _ _ => none) (fun _ _ _ _ => none) (fun _ _ _ => none) (fun _ _ _ _ => none) (fun _ _ _ _ => none) (fun _ _ _ => none) (fun _ _ _ => none) (fun _ _ _ _ => none) (fun _ _ _ _ => none) (fun _ _ _ _ _ => none) (fun _ _ _ _ => none) (fun _ _ => none) (fun _ _ => none) (fun _ _ => none) (fun _ _ _ _ => none) (fun _ _ _ _ => none) (fun _ _ _ _ => none) (fun _ _ => none) (fun c k pos => @Const.casesOn (fun _ => Option β) c y (fun _ => none) (fun _ => none) (fun _ => none) (fun _ _ => none) (fun _ => none) (fun _ => none) none) (fun _ _ _ => none) (fun _ _ _ => none) (fun _ _ => none) (fun _ _ => none) (fun _ _ => none) (fun _ _ _ => none) (fun _ _ _ _ => none)
theorem onNoneE {β : Type} {c : β} {M : Expr → Prop} {y : Option β} (k : ∀ n p, y = some c → M (.Constant .none n p)) {e : Expr} : onNone e y = some c → M e := by
  cases e <;> first | exact noS | (rename_i c n p; cases c <;> first | exact k n p | exact noS)
noncomputable def onRet {β : Type} (s : Stmt) (f : Option Expr → Option β) : Option β := match s with
  | .Return e _ => f e
  | _ => none
theorem onRetE {β : Type} {c : β} {M : Stmt → Prop} {f : Option Expr → Option β} (k : ∀ e p, f e = some c → M (.Return e p)) {s : Stmt} : onRet s f = some c → M s := by
  cases s <;> first | exact k _ _ | exact noS
noncomputable def onDie {β : Type} (h : ExceptHandler) (f : Str → Option β) : Option β := match h with
  | .ExceptHandler t n b _ => orK n (fun _ => none) (orK t (fun t => onName t fun x _ => on1 b fun s => onRet s fun e => orK e (fun e => onNone e (f x)) none) none)
/-- two names exchanged with care, in one line -/
noncomputable def onTuple {β : Type} (e : Expr) (f : List Expr → Option β) (y : Option β) : Option β := @Expr.casesOn (fun _ => Option β) e (fun _ _ _ => y) (fun _ _ _ => y) (fun _ _ _ _ => y) (fun _ _ _ => y) (fun _ _ _ _ => y) (fun _ _ _ _ => y) (fun _ _ _ => y) (fun _ _ _ => y) (fun _ _ _ _ => y) (fun _ _ _ _ => y) (fun _ _ _ _ _ => y) (fun _ _ _ _ => y) (fun _ _ => y) (fun _ _ => y) (fun _ _ => y) (fun _ _ _ _ => y) (fun _ _ _ _ => y) (fun _ _ _ _ => y) (fun _ _ => y) (fun _ _ _ => y) (fun _ _ _ => y) (fun _ _ _ => y) (fun _ _ => y) (fun _ _ => y) (fun _ _ => y) (fun es k pos => f es) (fun _ _ _ _ => y)
theorem onTupleE {β : Type} {c : β} {M : Expr → Prop} {f : List Expr → Option β} {y : Option β} (k : ∀ es n p, f es = some c → M (.Tuple es n p)) {e : Expr} (k2 : noTuple e = true → y = some c → M e) : onTuple e f y = some c → M e := by
  cases e <;> first | exact k2 rfl | exact k _ _ _
noncomputable def isName (e : Expr) : Bool := @Expr.casesOn (fun _ => Bool) e (fun _ _ _ => false) (fun _ _ _ => false) (fun _ _ _ _ => false) (fun _ _ _ => false) (fun _ _ _ _ => false) (fun _ _ _ _ => false) (fun _ _ _ => false) (fun _ _ _ => false) (fun _ _ _ _ => false) (fun _ _ _ _ => false) (fun _ _ _ _ _ => false) (fun _ _ _ _ => false) (fun _ _ => false) (fun _ _ => false) (fun _ _ => false) (fun _ _ _ _ => false) (fun _ _ _ _ => false) (fun _ _ _ _ => false) (fun _ _ => false) (fun _ _ _ => false) (fun _ _ _ => false) (fun _ _ _ => false) (fun _ _ => false) (fun x pos => true) (fun _ _ => false) (fun _ _ _ => false) (fun _ _ _ _ => false)
noncomputable def unfolded (a b : Expr) : Bool := !(foldedForSure 8 a && foldedForSure 8 b) && !(constantsAlone 8 a && constantsAlone 8 b)

mutual
noncomputable def toS : Nat → Sc → Stmt → Option S
  | 0, _, _ => none
  | f + 1, sc, s => match s with
    | .Assign tgts v _ => on1 tgts fun t => onTuple t (fun ts => onTuple v (fun vs =>
          if vs.length != ts.length || !ts.all isName || vs.all (foldedForSure 8) then (toE f sc v).bind fun v => (toTgs f sc ts).map fun ts => .assign (.tup ts) v
          else on2 ts fun tx ty => on2 vs fun a b => onName tx fun x px => onName ty fun y py =>
            if py.line == px.line then if sc.kind x == some .local && sc.kind y == some .local && x != y && unfolded a b && noStar a && noStar b then
              (toE f sc a).bind fun a => (toE f sc b).bind fun b => (sc.slot x).bind fun i => (sc.slot y).map fun j => .assign2 i j a b else none else none)
          (if plainV v then (toE f sc v).bind fun v => (toTgs f sc ts).map fun ts => .assign (.tup ts) v else none))
        (if plainV v then (toE f sc v).bind fun v => (toTg f sc t).map fun t => .assign t v else (match v with
          | .ListComp elt gens scope p => on1 gens fun gen => onName gen.target fun tc _ => on0 gen.ifs (if gen.is_async = 0 then onName t fun x px => if sc.comp then none else if compB sc scope tc then
              if sc.kind x == some .local && px.line == p.line && !(scope.names.any fun (m, k) => m == x && (k == .local || k == .cell)) then
                (toI f sc gen.iter).bind fun it => (toE f { sc with names := relab sc.names scope.names, comp := true } elt).bind fun elt => ((relab sc.names scope.names).findIdx? (·.1 == tc)).bind fun i => (sc.slot x).map fun j =>
                  .assignC j (.comp ((relab sc.names scope.names).map fun (n, k) => if k == .cell then sc.slot n else none) i elt it) else none else none else none)
          | _ => none))
    | .AugAssign tg op v _ => (toE f sc v).bind fun v => onFn tg (fun x => if sc.kind x == some .local then (sc.slot x).map fun i => .aug (.loc i) op v else none)
        (fun o a _ => (attrNames.lookup a).bind fun a => (toE f sc o).map fun o => .aug (.attr o a) op v)
    | .Expr v _ => if isSuper v then (toE f sc v).map .expr else none
    | .If t a b _ => (toT f sc t).bind fun t => (toSs f sc a).bind fun a => (toSs f sc b).map fun b => .ite t a b
    | .While t b el _ => on0 el ((toT f sc t).bind fun t => (toSs f sc b).map fun b => .while t b)
    | .For tg it b el _ => onName tg fun x _ => on0 el ((toI f sc it).bind fun it => (toSs f sc b).bind fun b => if sc.kind x == some .local then (sc.slot x).map fun i => .for i it b else none)
    | .Return e _ => e.bind fun e => (toE f sc e).map .ret
    | .Raise e c _ => orK c (fun _ => none) (orK e (fun e => onRange e fun x e => if x == ("Die" : Str) && isGlob sc x && noStar e then (toE f sc e).map .raise else none) none)
    | .Try b hs el fi _ => on0 el (on0 fi (on1 hs fun h => onDie h fun x => if x == ("Die" : Str) && isGlob sc x then (toSs f sc b).map .tryDie else none))
    | _ => none
noncomputable def toSs : Nat → Sc → List Stmt → Option S
  | 0, _, _ => none
  | f + 1, sc, l => match l with
    | [] => some .nil
    | s :: r => (toS f sc s).bind fun a => (toSs f sc r).map fun b => .seq a b
end
end Mine
end

section
set_option genSizeOf false
set_option genSizeOfSpec false
open PySem PySem.W PyProof.Rows
set_option Elab.async false
set_option linter.unusedVariables false
namespace Mine
variable {g : G} {Γ : Cx} {loc : Loc} {H : AHeap} {n : Nat} {s : Shared}

theorem vrel_int {cv : Value} {i : Int} (h : vrel cv (.int i)) : ∃ t, cv = .int i t := by cases cv <;> first | (cases h; exact ⟨_, rfl⟩) | cases h
theorem vrel_str {cv : Value} {x : List Nat} (h : vrel cv (.str x)) : ∃ t, cv = .str ⟨x.toArray⟩ t := by
  cases cv <;> first | (rename_i y t; cases h; exact ⟨t, by simp⟩) | cases h
theorem vrel_none {cv : Value} (h : vrel cv .none) : cv = .none := by cases cv <;> first | rfl | cases h
theorem vrel_bool {cv : Value} {b : Bool} (h : vrel cv (.bool b)) : cv = .bool b := by cases cv <;> first | (cases h; rfl) | cases h
theorem vrel_ref {cv : Value} {a : Addr} (h : vrel cv (.ref a)) : cv = .ref a := by cases cv <;> first | (cases h; rfl) | cases h
theorem vrel_of_str {x : Str} {t : Tok} {l : List Nat} (h : x.cps.toList = l) : vrel (.str x t) (.str l) := h

theorem vrels_append : ∀ {as : List Value} {xs : List V} {bs : List Value} {ys : List V}, vrels as xs → vrels bs ys → vrels (as ++ bs) (xs ++ ys)
  | [], [], _, _, _, h => h
  | _ :: _, _ :: _, _, _, ⟨h1, h2⟩, h => ⟨h1, vrels_append h2 h⟩
theorem vrels_len : ∀ {as : List Value} {xs : List V}, vrels as xs → as.length = xs.length
  | [], [], _ => rfl
  | _ :: _, _ :: _, ⟨_, h⟩ => by rw [List.length_cons, List.length_cons, vrels_len h]
theorem vrels_get : ∀ {as : List Value} {xs : List V}, vrels as xs → ∀ {k : Nat} {x : V}, xs[k]? = some x → ∃ a, as[k]? = some a ∧ vrel a x
  | [], [], _, k, x, e => by simp at e
  | a :: _, _ :: _, ⟨h, _⟩, 0, x, e => by cases e; exact ⟨a, rfl, h⟩
  | _ :: _, _ :: _, ⟨_, h⟩, k + 1, x, e => vrels_get h (k := k) e
theorem vrels_drop : ∀ {as : List Value} {xs : List V}, vrels as xs → ∀ k, vrels (as.drop k) (xs.drop k)
  | _, _, h, 0 => h
  | [], [], _, _ + 1 => trivial
  | _ :: _, _ :: _, ⟨_, h⟩, k + 1 => vrels_drop h k
theorem vrels_take : ∀ {as : List Value} {xs : List V}, vrels as xs → ∀ k, vrels (as.take k) (xs.take k)
  | _, _, _, 0 => trivial
  | [], [], _, _ + 1 => trivial
  | _ :: _, _ :: _, ⟨h, r⟩, k + 1 => ⟨h, vrels_take r k⟩
theorem vrels_set : ∀ {as : List Value} {xs : List V}, vrels as xs → ∀ k {a : Value} {x : V}, vrel a x → vrels (as.set k a) (xs.set k x)
  | [], [], _, _, _, _, _ => trivial
  | _ :: _, _ :: _, ⟨_, h⟩, 0, _, _, r => ⟨r, h⟩
  | _ :: _, _ :: _, ⟨h, q⟩, k + 1, _, _, r => ⟨h, vrels_set q k r⟩

theorem SC.of_heap (x : SC g Γ loc H s) {tk : Nat} : SC g Γ loc H { s with toks := tk } := ⟨x.cc, x.os, x.gens⟩
theorem SC.toks (x : SC g Γ loc H s) (tk : Nat) : SC g Γ loc H { s with toks := tk } := ⟨x.cc, x.os, x.gens⟩
theorem SC.heap (x : SC g Γ loc H s) {h' : Heap} {loc' : Loc} {H' : AHeap} (c : CC g Γ loc' H' h' h') {tk : Nat} : SC g Γ loc' H' { s with heap := h', toks := tk } := ⟨c, x.os, x.gens⟩
theorem SC.kept (x : SC g Γ loc H s) {h' : Heap} (k : ∀ b o, s.heap.get? b = some o → h'.get? b = some o) {tk : Nat} : SC g Γ loc H { s with heap := h', toks := tk } := ⟨x.cc.keeps k k, x.os, x.gens⟩

theorem led_list {a : Addr} {vs : List V} (x : SC g Γ loc H s) (e : H a = some (.list vs)) : ∃ cvs, s.heap.IsList a cvs ∧ vrels cvs.toList vs := by
  obtain ⟨ob, q, cvs, n, rfl, r⟩ := x.cc.led _ _ e
  exact ⟨cvs, ⟨_, q, rfl, n, rfl⟩, r⟩
theorem led_listX {a : Addr} {vs : List V} (x : SC g Γ loc H s) (e : H a = some (.list vs)) : ∃ cvs n, s.heap.get? a = some { cls := .type "list", dict := none, data := .seq cvs n, slots := #[] } ∧ vrels cvs.toList vs := by
  obtain ⟨ob, q, cvs, n, rfl, r⟩ := x.cc.led _ _ e
  exact ⟨cvs, n, q, r⟩
theorem led_tup {a : Addr} {vs : List V} (x : SC g Γ loc H s) (e : H a = some (.tup vs)) : ∃ cvs, s.heap.IsTuple a cvs ∧ vrels cvs.toList vs := by
  obtain ⟨ob, q, hc, cvs, n, hd, r⟩ := x.cc.led _ _ e
  exact ⟨cvs, ⟨ob, q, hc, n, hd⟩, r⟩

/-- what the text's own read-only objects are -/
def RoOk (g : G) : Prop := ∀ a o, g.ro a = some o → ∃ ob, g.base.get? a = some ob ∧ ORo g ob o

theorem ro_of {ob : Obj} {o : AObj} (r : ORel g ob o) : ORo g ob o := by
  cases o with
  | list vs => obtain ⟨cvs, n, rfl, r⟩ := r; exact ⟨rfl, cvs, n, rfl, r⟩
  | _ => exact r
theorem obj_rel (R : RoOk g) {a : Addr} {o : AObj} (x : SC g Γ loc H s) (e : Ob g H a o) : ∃ ob, s.heap.get? a = some ob ∧ ORo g ob o := by
  rcases e with q | e
  · obtain ⟨ob, q, r⟩ := x.cc.led _ _ q; exact ⟨ob, q, ro_of r⟩
  · obtain ⟨ob, q, r⟩ := R _ _ e; exact ⟨ob, x.cc.stay _ _ q, r⟩
theorem obj_list (R : RoOk g) {a : Addr} {vs : List V} (x : SC g Γ loc H s) (e : Ob g H a (.list vs)) : ∃ cvs, s.heap.IsList a cvs ∧ vrels cvs.toList vs := by
  obtain ⟨ob, q, hc, cvs, n, hd, r⟩ := obj_rel R x e
  exact ⟨cvs, ⟨ob, q, hc, n, hd⟩, r⟩
theorem obj_tup (R : RoOk g) {a : Addr} {vs : List V} (x : SC g Γ loc H s) (e : Ob g H a (.tup vs)) : ∃ cvs, s.heap.IsTuple a cvs ∧ vrels cvs.toList vs := by
  obtain ⟨ob, q, hc, cvs, n, hd, r⟩ := obj_rel R x e
  exact ⟨cvs, ⟨ob, q, hc, n, hd⟩, r⟩

def Post (g : G) (Γ : Cx) (loc : Loc) (QA : V → AHeap → Prop) (Q : Value → Shared → Prop) : Prop := ∀ v cv H' s', QA v H' → vrel cv v → SC g Γ loc H' s' → Q cv s'
def XPost (g : G) (Γ : Cx) (XA : AHeap → Prop) (E : Value → Shared → Prop) : Prop := ∀ e H' s', XA H' → EC g Γ H' e s' → E e s'

/-- a new list -/
theorem post_list (hΓ : Γ.Ok g n) {vs : List V} {cvs : Array Value} {QA : V → AHeap → Prop} {Q : Value → Shared → Prop} {tk : Nat} (x : SC g Γ loc H s) (r : vrels cvs.toList vs) (ha : alloc H (.list vs) QA) (P : Post g Γ loc QA Q) :
    Q (.ref s.heap.objs.size) { s with heap := s.heap.push { cls := .type "list", data := .seq cvs }, toks := tk } :=
  P _ _ _ _ (ha _ (x.cc.noH get_size_none)) rfl (x.heap (x.cc.alloc hΓ rfl (show ORel g _ (.list vs) from ⟨cvs, 0, rfl, r⟩)))
theorem post_tup (hΓ : Γ.Ok g n) {vs : List V} {cvs : Array Value} {QA : V → AHeap → Prop} {Q : Value → Shared → Prop} {tk : Nat} (x : SC g Γ loc H s) (r : vrels cvs.toList vs) (ha : alloc H (.tup vs) QA) (P : Post g Γ loc QA Q) :
    Q (.ref s.heap.objs.size) { s with heap := s.heap.push { cls := .type "tuple", data := .seq cvs }, toks := tk } :=
  P _ _ _ _ (ha _ (x.cc.noH get_size_none)) rfl (x.heap (x.cc.alloc hΓ rfl (show ORel g _ (.tup vs) from ⟨rfl, cvs, 0, rfl, r⟩)))

theorem lim_le : lim ≤ sizeLine := by unfold lim; rw [sizeLine_eq]; exact (by decide)

section
variable {A : Around} {E : Value → Shared → Prop}

theorem add_lists_raw {l b : Addr} {vs ws : Array Value} {Q : Value → Shared → Prop} (hl : s.heap.IsList l vs) (hb : s.heap.IsList b ws) (hsz : vs.size + ws.size ≤ sizeLine)
    (h : Q (.ref s.heap.objs.size) { s with heap := s.heap.push { cls := .type "list", data := .seq (vs ++ ws) } }) :
    wpAny (model g.prog g.w) A (binaryOp .Add (.ref l) (.ref b)) Q E s := by
  obtain ⟨⟨c1, d1, dt1, s1⟩, ho, hc, n1, hd⟩ := id hl
  obtain ⟨⟨c2, d2, dt2, s2⟩, ho2, hc2, n2, hd2⟩ := id hb
  dsimp only at hc hd hc2 hd2
  subst hc hd hc2 hd2
  exact concat_meets ⟨_, ho, rfl⟩ ⟨_, ho2, rfl⟩ noFill_list_add seq_list_add PySem.F.slot_list_add PySem.F.entry_list_add (PySem.F.args_list_add_2 _ _) (list_addW l b vs ws n1 n2 d1 d2 s1 s2 hsz) ⟨ho, ho2, h⟩

theorem mul_one (c : Nat) (k : Int) : Txt.mul ⟨#[c]⟩ k = ⟨(List.replicate k.toNat c).toArray⟩ := by
  unfold Txt.mul
  split
  · have : k.toNat = 0 := by omega
    rw [this]; rfl
  · split
    · rename_i h
      have : k = 1 := by simpa [Str.length] using h
      subst this; rfl
    · have e : ∀ m (acc : Array Nat), (List.replicate m #[c]).foldl (· ++ ·) acc = acc ++ (List.replicate m c).toArray := by
        intro m
        induction m with
        | zero => intro acc; simp
        | succ m ih => intro acc; rw [List.replicate_succ, List.foldl_cons, ih, List.replicate_succ]; apply Array.toList_inj.mp; simp
      rw [e]; simp

theorem small_log {y : Int} (h0 : 0 < y) (h1 : y < 2 ^ 64) : y.natAbs.log2 < 9000 := by
  have : y.natAbs < 2 ^ 64 := by omega
  have := (Nat.log2_lt (by omega)).mpr this
  exact (Nat.le_trans (by assumption) (by decide))
theorem pow_room {x y : Int} (h0 : 0 ≤ x) (h1 : x < 2 ^ 64) (h2 : 0 ≤ y) (h3 : y ≤ 1000) : (Builtin.Int.intBits x : Int) * y ≤ 2 ^ 27 := by
  have hb := PySem.intBits_le_64 (k := x) (by exact (Int.lt_of_lt_of_le (b := 0) (by decide) (by assumption))) h1
  have : (Builtin.Int.intBits x : Int) * y ≤ 64 * 1000 := Int.mul_le_mul (by exact (Int.ofNat_le.mpr (by assumption))) h3 h2 (by decide)
  exact (Int.le_trans (by assumption) (by decide))
theorem mulOk_one {c : Nat} {y : Int} (h2 : y ≤ lim) (h3 : -lim ≤ y) : MulOk ⟨#[c]⟩ y := by
  unfold lim at h2 h3
  refine ⟨?_, fun h4 h5 h6 => ?_, fun h4 h5 => ?_⟩
  · rw [Bool.or_eq_false_iff]; constructor <;> (rw [decide_eq_false_iff_not]; omega)
  · have e : ((⟨#[c]⟩ : Str).length : Int) = 1 := rfl
    rw [e] at h6
    have : (2 ^ 63 - 1) / y < 1 := h6
    have h7 : 1 ≤ (2 ^ 63 - 1 : Int) / y := (Int.le_ediv_iff_mul_le (by exact (Int.not_lt.mp (by assumption)))).mpr (by omega)
    omega
  · unfold Builtin.Str.tooLong
    have e : (⟨#[c]⟩ : Str).length = 1 := rfl
    rw [e, decide_eq_false_iff_not, sizeLine_eq]; omega

theorem ite_F {p : Prop} {d : Decidable p} {a : Prop} (h : if p then a else False) : p ∧ a := by
  cases d with
  | isTrue e => exact ⟨e, h⟩
  | isFalse e => exact h.elim
theorem ite_E {p : Prop} {d : Decidable p} {a b : Prop} (h : if p then a else b) : (p ∧ a) ∨ (¬ p ∧ b) := by
  cases d with
  | isTrue e => exact .inl ⟨e, h⟩
  | isFalse e => exact .inr ⟨e, h⟩
theorem List.toList_append_arr {x y : List Nat} : (x.toArray ++ y.toArray : Array Nat).toList = x ++ y := by rw [Array.toList_append]
theorem sizeA {cvs : Array Value} {xs : List V} (r : vrels cvs.toList xs) : cvs.size = xs.length := vrels_len r

theorem sound_bin (R : RoOk g) (hΓ : Γ.Ok g n) {op : Operator} {a b : V} {ca cb : Value} {QA : V → AHeap → Prop} {Q : Value → Shared → Prop}
    (h : binK g op a b H QA) (ra : vrel ca a) (rb : vrel cb b) (x : SC g Γ loc H s) (P : Post g Γ loc QA Q) : wpAny (model g.prog g.w) A (binaryOp op ca cb) Q E s := by
  cases a with
  | int x' =>
    obtain ⟨t, rfl⟩ := vrel_int ra
    cases b with
    | int y' =>
      obtain ⟨u, rfl⟩ := vrel_int rb
      cases op with
      | Add => exact add_int (P _ _ _ _ h rfl (x.toks _))
      | Sub => exact sub_int (P _ _ _ _ h rfl (x.toks _))
      | Mult =>
        refine mul_int (P _ _ _ _ h.2 rfl (x.toks _)) ?_
        rcases h.1 with ⟨h1, h2⟩ | ⟨h1, h2⟩
        · exact PySem.IntMulOk.of_left (PySem.intBits_le_64 h1 h2)
        · exact PySem.IntMulOk.of_right (PySem.intBits_le_64 h1 h2)
      | FloorDiv =>
        refine floordiv_int (Int.ne_of_gt h.1.1) ?_ (.inl (PyProof.noPylong_of_log2 (small_log h.1.1 h.1.2)))
        rw [Int.fdiv_eq_ediv_of_nonneg _ (Int.le_of_lt h.1.1)]
        exact P _ _ _ _ h.2 rfl (x.toks _)
      | Mod =>
        refine mod_int (Int.ne_of_gt h.1) ?_
        rw [Int.fmod_eq_emod_of_nonneg _ (Int.le_of_lt h.1)]
        exact P _ _ _ _ h.2 rfl (x.toks _)
      | LShift => exact lshift_int_small h.1.1 (Int.le_trans h.1.2.1 (by decide)) h.1.2.2 (P _ _ _ _ h.2 rfl (x.toks _))
      | RShift =>
        refine rshift_int h.1 ?_
        rw [Int.fdiv_eq_ediv_of_nonneg _ (Int.le_of_lt (Int.pow_pos (by decide)))]
        exact P _ _ _ _ h.2 rfl (x.toks _)
      | Pow => exact pow_int h.1.1 (pow_room h.1.2.2.1 h.1.2.2.2 h.1.1 h.1.2.1) (P _ _ _ _ h.2 rfl (x.toks _))
      | _ => exact h.elim
    | _ => exact h.elim
  | str x' =>
    obtain ⟨t, rfl⟩ := vrel_str ra
    cases b with
    | str y' =>
      obtain ⟨u, rfl⟩ := vrel_str rb
      obtain ⟨rfl, h⟩ := ite_F h
      exact add_str (fun t' tk => P _ _ _ _ h.2 List.toList_append_arr (x.toks _)) (Nat.le_trans h.1 lim_le)
    | int y' =>
      obtain ⟨u, rfl⟩ := vrel_int rb
      obtain ⟨rfl, h⟩ := ite_F h
      obtain ⟨⟨h1, h2, h3⟩, hq⟩ := h
      obtain ⟨c, rfl⟩ := List.length_eq_one_iff.mp h1
      refine PySem.SB.mul (mulOk_one h2 h3) fun t' k => P _ _ _ _ hq ?_ (x.toks _)
      rw [mul_one]; exact List.toList_toArray
    | _ => exact h.elim
  | ref x' =>
    obtain rfl := vrel_ref ra
    cases b with
    | ref y' =>
      obtain rfl := vrel_ref rb
      obtain ⟨rfl, xs, ys, e1, e2, hl, ha⟩ := ite_F h
      obtain ⟨cx, l1, r1⟩ := obj_list R x e1
      obtain ⟨cy, l2, r2⟩ := led_list x e2
      refine add_lists_raw l1 l2 ?_ (post_list hΓ x ?_ ha P)
      · rw [sizeA r1, sizeA r2]; exact Nat.le_trans hl lim_le
      · rw [Array.toList_append]; exact vrels_append r1 r2
    | _ => exact h.elim
  | _ => exact h.elim

theorem sound_iop {op : Operator} {a b : V} {ca cb : Value} {QA : V → AHeap → Prop} {Q : Value → Shared → Prop}
    (h : iopK op a b H QA) (ra : vrel ca a) (rb : vrel cb b) (x : SC g Γ loc H s) (P : Post g Γ loc QA Q) : wpAny (model g.prog g.w) A (inplaceOp op ca cb) Q E s := by
  cases a with
  | int x' =>
    obtain ⟨t, rfl⟩ := vrel_int ra
    cases b with
    | int y' =>
      obtain ⟨u, rfl⟩ := vrel_int rb
      cases op with
      | Add => exact iadd_int (P _ _ _ _ h rfl (x.toks _))
      | Sub => exact isub_int (P _ _ _ _ h rfl (x.toks _))
      | FloorDiv =>
        refine ifloordiv_int (Int.ne_of_gt h.1.1) ?_ (.inl (PyProof.noPylong_of_log2 (small_log h.1.1 h.1.2)))
        rw [Int.fdiv_eq_ediv_of_nonneg _ (Int.le_of_lt h.1.1)]
        exact P _ _ _ _ h.2 rfl (x.toks _)
      | Mod =>
        refine imod_int (Int.ne_of_gt h.1) ?_
        rw [Int.fmod_eq_emod_of_nonneg _ (Int.le_of_lt h.1)]
        exact P _ _ _ _ h.2 rfl (x.toks _)
      | _ => exact h.elim
    | _ => exact h.elim
  | str x' =>
    obtain ⟨t, rfl⟩ := vrel_str ra
    cases b with
    | str y' =>
      obtain ⟨u, rfl⟩ := vrel_str rb
      obtain ⟨rfl, h⟩ := ite_F h
      exact iadd_str (fun t' tk => P _ _ _ _ h.2 List.toList_append_arr (x.toks _)) (Nat.le_trans h.1 lim_le)
    | _ => exact h.elim
  | _ => exact h.elim

theorem str_beq (x y : List Nat) : ((⟨x.toArray⟩ : Str) == ⟨y.toArray⟩) = decide (x = y) := by
  rw [Bool.eq_iff_iff]; simp
theorem str_bne (x y : List Nat) : ((⟨x.toArray⟩ : Str) != ⟨y.toArray⟩) = decide (x ≠ y) := by
  rw [bne, str_beq]; simp

theorem strsAre_of : ∀ {cvs : List Value} {vs : List V} {ss : List (List Nat)}, vrels cvs vs → strs? vs = some ss → StrsAre cvs (ss.map fun x => ⟨x.toArray⟩)
  | [], [], _, _, e => by cases e; exact .nil
  | c :: cs, .str x :: vs, ss, ⟨h1, h2⟩, e => by
    unfold strs? at e
    obtain ⟨r, e1, rfl⟩ := Option.map_eq_some_iff.mp e
    obtain ⟨t, rfl⟩ := vrel_str h1
    exact .cons _ _ (strsAre_of h2 e1)
  | _ :: _, .none :: _, _, _, e => by cases e
  | _ :: _, .bool _ :: _, _, _, e => by cases e
  | _ :: _, .int _ :: _, _, _, e => by cases e
  | _ :: _, .ref _ :: _, _, _, e => by cases e

theorem intsAre_of : ∀ {cvs : List Value} {vs : List V} {ss : List Int}, vrels cvs vs → ints? vs = some ss → IntsAre cvs ss
  | [], [], _, _, e => by cases e; exact .nil
  | c :: cs, .int x :: vs, ss, ⟨h1, h2⟩, e => by
    unfold ints? at e
    obtain ⟨r, e1, rfl⟩ := Option.map_eq_some_iff.mp e
    obtain ⟨t, rfl⟩ := vrel_int h1
    exact .cons _ _ (intsAre_of h2 e1)
  | _ :: _, .none :: _, _, _, e => by cases e
  | _ :: _, .bool _ :: _, _, _, e => by cases e
  | _ :: _, .str _ :: _, _, _, e => by cases e
  | _ :: _, .ref _ :: _, _, _, e => by cases e

theorem vnone_beq {c : Value} {v : V} (r : vrel c v) : (c == Value.none) = decide (v = V.none) := by
  cases v with
  | none => rw [vrel_none r]; rfl
  | bool b => rw [vrel_bool r]; rfl
  | int i => obtain ⟨t, rfl⟩ := vrel_int r; rfl
  | str x => obtain ⟨t, rfl⟩ := vrel_str r; rfl
  | ref a => rw [vrel_ref r]; rfl

theorem any_none : ∀ {cvs : List Value} {vs : List V}, vrels cvs vs → (cvs.any fun y => y == Value.none) = decide (V.none ∈ vs)
  | [], [], _ => rfl
  | c :: cs, v :: vs, ⟨h1, h2⟩ => by
    rw [List.any_cons, any_none h2, vnone_beq h1, decide_eq_decide.mpr List.mem_cons, Bool.decide_or, decide_eq_decide.mpr (eq_comm (a := v))]

theorem eqGives_none : MeetsSeq.EqGives .none .none ((Value.none : Value) == .none) := by
  intro prog w A E s Q h
  unfold eqBool
  refine wpAny_holding ?_
  rw [if_pos (by rfl)]
  exact wpAny_bind (wpAny_rule (wpAny_pure h))
theorem eqGives_str_none (x : Str) (t : Tok) : MeetsSeq.EqGives (.str x t) .none ((Value.str x t : Value) == .none) := by
  intro prog w A E s Q h
  unfold eqBool
  refine wpAny_holding ?_
  rw [if_neg (by simp)]
  exact wpAny_bind (EqNone.eq_str_none (wpAny_truthy_bool h))

theorem int_bne (p q : Int) : (p != q) = decide (p ≠ q) := by rw [decide_not]; rfl
theorem any_str (xx : List Nat) : ∀ ss : List (List Nat), ((ss.map fun x => (⟨x.toArray⟩ : Str)).any fun y => y == ⟨xx.toArray⟩) = decide (xx ∈ ss)
  | [] => rfl
  | y :: r => by
    rw [List.map_cons, List.any_cons, any_str xx r, str_beq, decide_eq_decide.mpr List.mem_cons, Bool.decide_or, decide_eq_decide.mpr (eq_comm (a := y))]

theorem sound_cmp (R : RoOk g) {op : CmpOp} {a b : V} {ca cb : Value} {K : Bool → Prop} {Q : Value → Shared → Prop}
    (h : cmpK g op a b H K) (ra : vrel ca a) (rb : vrel cb b) (x : SC g Γ loc H s) (P : ∀ r tk, K r → Q (.bool r) { s with toks := tk }) : wpAny (model g.prog g.w) A (compareOp op ca cb) Q E s := by
  have P0 : ∀ r, K r → Q (.bool r) s := fun r h => P r s.toks h
  cases b with
  | none =>
    rw [vrel_none rb]
    cases op with
    | Is => refine is_none (P0 _ ?_); rw [vnone_beq ra]; exact h
    | IsNot => refine isNot_none (P0 _ ?_); rw [vnone_beq ra, ← decide_not]; exact h
    | Eq =>
      cases a with
      | none => rw [vrel_none ra]; exact EqNone.eq_none_none (P0 _ h)
      | str y => obtain ⟨u, rfl⟩ := vrel_str ra; exact EqNone.eq_str_none (P0 _ h)
      | _ => exact h.elim
    | _ => exact h.elim
  | int y =>
    obtain ⟨u, rfl⟩ := vrel_int rb
    cases a with
    | int z =>
      obtain ⟨t, rfl⟩ := vrel_int ra
      cases op with
      | Eq => exact eq_int (P0 _ h)
      | NotEq => refine ne_int (P0 _ ?_); rw [int_bne]; exact h
      | Lt => exact lt_int (P0 _ h)
      | LtE => exact le_int (P0 _ h)
      | Gt => exact gt_int (P0 _ h)
      | GtE => exact ge_int (P0 _ h)
      | _ => exact h.elim
    | none =>
      obtain ⟨rfl, h⟩ := ite_F h
      rw [vrel_none ra]; exact EqNone.eq_none_int (P0 _ h)
    | _ => exact h.elim
  | str y =>
    obtain ⟨u, rfl⟩ := vrel_str rb
    cases a with
    | str z =>
      obtain ⟨t, rfl⟩ := vrel_str ra
      cases op with
      | Eq => refine eq_str (P0 _ ?_); rw [str_beq]; exact h
      | NotEq => refine ne_str (P0 _ ?_); rw [str_bne]; exact h
      | In =>
        obtain ⟨c, rfl, hk⟩ := h
        refine in_str (P0 _ ?_)
        rw [StrLaws.found_one]
        exact hk
      | NotIn =>
        obtain ⟨c, rfl, hk⟩ := h
        refine notIn_str (P0 _ ?_)
        rw [StrLaws.found_one, ← decide_not]
        exact hk
      | _ => exact h.elim
    | none =>
      obtain ⟨rfl, h⟩ := ite_F h
      rw [vrel_none ra]; exact EqNone.eq_none_str (P0 _ h)
    | _ => exact h.elim
  | ref pp =>
    obtain rfl := vrel_ref rb
    cases a with
    | str xx =>
      obtain ⟨rfl, vs, ss, e1, e2, hk⟩ := ite_F h
      obtain ⟨t, rfl⟩ := vrel_str ra
      obtain ⟨cvs, l, r⟩ := led_tup x e1
      refine in_tuple_strs l (strsAre_of r e2) (P0 _ ?_)
      rw [any_str]; exact hk
    | none =>
      obtain ⟨rfl, vs, e1, e2, hl, hk⟩ := ite_F h
      rw [vrel_none ra]
      obtain ⟨cvs, l, r⟩ := led_list x e1
      refine SeqInW.in_listW (fun y => y == Value.none) (fun y hy => ?_) l (P0 _ ?_)
      · obtain ⟨i, hi⟩ := List.getElem?_of_mem (Array.mem_toList_iff.mpr hy)
        have hi2 : i < vs.length := by rw [← vrels_len r]; exact (List.getElem?_eq_some_iff.mp hi).1
        obtain ⟨c, hc, rc⟩ := vrels_get r (List.getElem?_eq_getElem hi2)
        rw [hi] at hc; cases hc
        rcases e2 _ (List.getElem_mem hi2) with q | ⟨ss, q⟩
        · rw [q] at rc; rw [vrel_none rc]; exact eqGives_none
        · rw [q] at rc; obtain ⟨t, rfl⟩ := vrel_str rc; exact eqGives_str_none _ _
      · rw [← Array.any_toList, any_none r]; exact hk
    | _ => exact h.elim
  | _ => exact h.elim

theorem sound_truth {v : V} {cv : Value} {K : Bool → Prop} {Q : Bool → Shared → Prop} (h : truthK v K) (r : vrel cv v) (P : ∀ r tk, K r → Q r { s with toks := tk }) : wpAny (model g.prog g.w) A (truthy cv) Q E s := by
  cases v with
  | bool b => rw [vrel_bool r]; exact wpAny_truthy_bool (P _ s.toks h)
  | int i =>
    obtain ⟨t, rfl⟩ := vrel_int r
    refine truthy_int (P _ s.toks ?_)
    rw [int_bne]; exact h
  | _ => exact h.elim
end
end Mine
end

section
set_option genSizeOf false
set_option genSizeOfSpec false
open PySem PySem.W PyProof.Rows PySem.Calls
set_option Elab.async false
set_option linter.unusedVariables false
namespace Mine
variable {g : G} {Γ : Cx} {loc : Loc} {H : AHeap} {n : Nat} {s : Shared} {A : Around} {E : Value → Shared → Prop}

noncomputable def biV (f : String) : Value := if f = "str" ∨ f = "int" then .type f else .builtin f
noncomputable def tyV (g : G) (t : String) : Value := if t = "str" ∨ t = "int" then .type t else .ref (g.addr t)

theorem dec_text (i : Int) : ((Str.ofString (toString i)).cps.toList) = decText i := by
  rw [Str.ofString_eq_toList]
  show (List.map Char.toNat (toString i).toList).toArray.toList = _
  rw [List.toList_toArray]
  unfold decText decDigits
  cases i with
  | ofNat m =>
    rw [if_neg (by exact Int.not_lt.mpr (Int.natCast_nonneg m))]
    show (Nat.repr m).toList.map Char.toNat = _
    rw [Nat.toList_repr]; rfl
  | negSucc m =>
    rw [if_pos (Int.negSucc_lt_zero m)]
    show (("-" ++ Nat.repr (m + 1)).toList).map Char.toNat = _
    rw [String.toList_append, Nat.toList_repr]; rfl

theorem vrels1 {cvs : List Value} {a : V} (h : vrels cvs [a]) : ∃ c, cvs = [c] ∧ vrel c a := by
  match cvs, h with
  | [c], ⟨h, _⟩ => exact ⟨c, rfl, h⟩
theorem vrels2 {cvs : List Value} {a b : V} (h : vrels cvs [a, b]) : ∃ c d, cvs = [c, d] ∧ vrel c a ∧ vrel d b := by
  match cvs, h with
  | [c, d], ⟨h, h', _⟩ => exact ⟨c, d, rfl, h, h'⟩
theorem vrels0 {cvs : List Value} (h : vrels cvs []) : cvs = [] := by
  match cvs, h with
  | [], _ => rfl

theorem lim63 {k : Nat} (h : k ≤ lim) : (k : Int) < 2 ^ 63 := by unfold lim at h; omega

theorem sound_bi (R : RoOk g) (hh : A.handled = none) {f : String} {vs : List V} {cvs : List Value} {K : V → Prop} {Q : Value → Shared → Prop}
    (h : biK f vs H g K) (r : vrels cvs vs) (x : SC g Γ loc H s) (P : ∀ v cv s', K v → vrel cv v → SC g Γ loc H s' → Q cv s') : wpAny (model g.prog g.w) A (call (biV f) cvs) Q E s := by
  match vs with
  | [v] =>
    obtain ⟨c, rfl, r1⟩ := vrels1 r
    cases v with
    | str y =>
      obtain ⟨t, rfl⟩ := vrel_str r1
      rcases ite_E h with ⟨rfl, h⟩ | ⟨_, h⟩
      · exact PyProof.Rows.len_str (by have := lim63 h.1; exact Int.not_le.mpr this) (P _ _ _ h.2 rfl (x.toks _))
      · obtain ⟨rfl, d, rfl, h1, h2, hk⟩ := ite_F h
        refine KIN.call_text (n := (d : Int) - 48) ?_ (by show (1 : Nat) ≤ 640; exact (by decide)) (P _ _ _ hk rfl (x.toks _))
        rw [intText_digits (by intro c hc; rw [List.mem_singleton.mp hc]; exact ⟨h1, h2⟩) (by intro e; cases e) (by show (1 : Nat) ≤ 4300; exact (by decide))]
        simp [NumText.digitsVal]; omega
    | ref a =>
      obtain rfl := vrel_ref r1
      rcases ite_E h with ⟨rfl, h⟩ | ⟨_, h⟩
      · obtain ⟨xs, e, hl, hk⟩ := h
        obtain ⟨cvs, l, rr⟩ := obj_list R x e
        have e1 := sizeA rr
        exact call_len_list l (by rw [e1]; exact lim63 hl) (P _ _ _ hk (by show (_ : Int) = _; rw [e1]) (x.toks _))
      · obtain ⟨rfl, xs, ns, e1, e2, hl, hk⟩ := ite_F h
        obtain ⟨cvs, l, rr⟩ := led_list x e1
        obtain ⟨ys, hy⟩ := (intsAre_of rr e2).allInts.items
        replace hy : cvs = _ := hy
        refine sum_intListG hh (hy ▸ l : s.heap.IsList _ (intItems ys)) fun h' tk t' k => ?_
        rw [preSum_eq, List.take_of_length_le (by rw [List.length_map, Array.length_toList]; exact Nat.le_refl _), ← nums_intItems, ← hy, (intsAre_of rr e2).numsOf]
        exact P _ _ _ hk rfl (x.kept k)
    | int i =>
      obtain ⟨t, rfl⟩ := vrel_int r1
      rcases ite_E h with ⟨rfl, h⟩ | ⟨_, h⟩
      · refine call_abs_int fun u tk => P _ _ _ h ?_ (x.toks _)
        show _ = _
        split <;> omega
      · rcases ite_E h with ⟨rfl, h⟩ | ⟨_, h⟩
        · exact chr_of_range h.1 h.2.1 (P _ _ _ h.2.2 rfl (x.toks _))
        · obtain ⟨rfl, h⟩ := ite_F h
          refine PySem.P.str_of_int ?_ (P _ _ _ h.2 (dec_text _) (x.toks _))
          by_cases hz : i.natAbs = 0
          · rw [hz]; decide
          · have := (Nat.log2_lt hz).mpr (show i.natAbs < 2 ^ 64 by omega)
            exact (Nat.le_trans (by assumption) (by decide))
    | _ => exact h.elim
  | [v, u] =>
    obtain ⟨c, d, rfl, r1, r2⟩ := vrels2 r
    cases v with
    | int a =>
        cases u with
        | int b =>
        obtain ⟨t, rfl⟩ := vrel_int r1; obtain ⟨u, rfl⟩ := vrel_int r2
        rcases ite_E h with ⟨rfl, h⟩ | ⟨_, h⟩
        · refine max_two_ints hh fun h' tk k => P _ _ _ h ?_ (x.kept k)
          split <;> (show _ = _; omega)
        · obtain ⟨rfl, h⟩ := ite_F h
          refine min_two_ints hh fun h' tk k => P _ _ _ h ?_ (x.kept k)
          split <;> (show _ = _; omega)
        | _ => exact h.elim
    | _ => exact h.elim
  | [] => exact h.elim
  | _ :: _ :: _ :: _ => exact h.elim

theorem sound_isi (hK : ∀ h : Heap, g.base.StaysIn h → g.K.In h) (hR : isNotIn g.K "str" (g.addr "Ref") = true) {t : String} {v : V} {cv : Value} {K : Bool → Prop} {Q : Value → Shared → Prop}
    (h : isiK v t H K) (r : vrel cv v) (x : SC g Γ loc H s) (P : ∀ b tk, K b → Q (.bool b) { s with toks := tk }) : wpAny (model g.prog g.w) A (call (.builtin "isinstance") [cv, tyV g t]) Q E s := by
  cases v with
  | none =>
    rw [vrel_none r]
    obtain ⟨e, h⟩ := ite_F h
    rcases e with rfl | rfl
    · exact IsiPair.NoneType_int (P _ _ h)
    · exact IsiPair.NoneType_str (P _ _ h)
  | int i =>
    obtain ⟨t, rfl⟩ := vrel_int r
    rcases ite_E h with ⟨rfl, h⟩ | ⟨_, h⟩
    · exact IsiPair.int_int (P _ s.toks h)
    · obtain ⟨rfl, h⟩ := ite_F h
      exact IsiPair.int_str (P _ _ h)
  | str y =>
    obtain ⟨t, rfl⟩ := vrel_str r
    rcases ite_E h with ⟨e, h⟩ | ⟨_, h⟩
    · rcases e with rfl | rfl
      · exact IsiPair.str_int (P _ _ h)
      · exact isn_call (P := fun _ => True) (hK _ x.cc.stay) (fun M => Looks.of_pure rfl) hR (by intro e; cases e) trivial str_cls (P _ _ h)
    · obtain ⟨rfl, h⟩ := ite_F h
      exact IsiPair.str_str (P _ s.toks h)
  | ref a =>
    obtain rfl := vrel_ref r
    obtain ⟨rfl, ⟨vs, e⟩, hk⟩ := ite_F h
    obtain ⟨ob, q, hc, _⟩ := x.cc.led _ _ e
    exact IsiPair.tuple_str q hc (P _ _ hk)
  | _ => exact h.elim
end Mine
end

section
set_option genSizeOf false
set_option genSizeOfSpec false
open PySem PySem.W PyProof.Rows PySem.Calls
set_option Elab.async false
set_option maxRecDepth 100000
set_option linter.unusedVariables false
namespace Mine
variable {g : G} {Γ : Cx} {loc : Loc} {H : AHeap} {n : Nat} {s : Shared} {A : Around} {E : Value → Shared → Prop}

theorem find_one {x : List Nat} {c : Nat} (h : c ∈ x) : Txt.find ⟨x.toArray⟩ ⟨#[c]⟩ = idxOf c x := by
  have key : ∀ (l : List Nat) (i : Nat), l[i]? = some c → (∀ k, k < i → l[k]? ≠ some c) → idxOf c l = i := by
    intro l
    induction l with
    | nil => intro i e; simp at e
    | cons a l ih =>
      intro i e hn
      unfold idxOf
      cases i with
      | zero => simp at e; rw [if_pos e]
      | succ i =>
        rw [if_neg (by have := hn 0 (Nat.succ_pos _); simpa using this)]
        have := ih i (by simpa using e) (fun k hk => by have := hn (k + 1) (by exact (Nat.succ_le_succ (by assumption))); simpa using this)
        rw [this]
  rcases find_whole ⟨x.toArray⟩ ⟨#[c]⟩ with ⟨_, h2⟩ | ⟨i, h1, h2, h3⟩
  · obtain ⟨i, hi⟩ := List.getElem?_of_mem h
    exact absurd ((StrLaws.subAt_one _ _ _).mpr (by simpa using hi)) (h2 i)
  · rw [h1, key x i (by simpa using (StrLaws.subAt_one _ _ _).mp h2) (fun k hk e => h3 k hk ((StrLaws.subAt_one _ _ _).mpr (by simpa using e)))]

theorem occ_one {x : List Nat} {c : Nat} (h : c ∈ x) : ∃ rest, Builtin.Str.occurrences ⟨x.toArray⟩ ⟨#[c]⟩ 0 (Str.length ⟨x.toArray⟩) 1 = idxOf c x :: rest := by
  have e := find_one h
  unfold Txt.find at e
  split at e
  · rename_i i r q; exact ⟨r, by rw [q]; congr 1; omega⟩
  · omega

theorem upper_one {c : Nat} (h : c < 128) : Txt.upper ⟨[c].toArray⟩ = ⟨[if 97 ≤ c ∧ c ≤ 122 then c - 32 else c].toArray⟩ := by
  rw [upper_ascii (by intro d hd; simp at hd; omega)]
  simp [up1]

theorem list_upd {l : Addr} {items : Array Value} {k : Nat} (f : Array Value → Array Value) (ho : s.heap.get? l = some { cls := .type "list", dict := none, data := .seq items k, slots := #[] }) :
    ∃ k', (s.heap.update l (Obj.mapSeq f)).get? l = some { cls := .type "list", dict := none, data := .seq (f items) k', slots := #[] } := by
  exact ⟨_, Heap.get?_update_self _ ho rfl⟩

theorem SC.listUpd {l : Addr} {xs ys : List V} {k : Nat} {items : Array Value} (hΓ : Γ.Ok g n) (x : SC g Γ loc H s) (e : H l = some (.list xs)) (f : Array Value → Array Value)
    (ho : s.heap.get? l = some { cls := .type "list", dict := none, data := .seq items k, slots := #[] }) (r : vrels (f items).toList ys) {tk : Nat} : SC g Γ loc (upd H l (.list ys)) { s with heap := s.heap.update l (Obj.mapSeq f), toks := tk } := by
  obtain ⟨k', q⟩ := list_upd f ho
  exact x.heap (x.cc.updL hΓ e (Heap.SameBut.update ..) q (show ORel g _ (.list ys) from ⟨_, _, rfl, r⟩))

theorem append_raw {l : Addr} {items : Array Value} {v : Value} {k : Nat} {Q : Value → Shared → Prop} (ho : s.heap.get? l = some { cls := .type "list", dict := none, data := .seq items k, slots := #[] })
    (hQ : Q .none { s with heap := s.heap.update l (Obj.mapSeq (·.push v)) }) (hsz : items.size ≤ sizeLine) : wpAny (model g.prog g.w) A (call (.builtin "list.append") [.ref l, v]) Q E s := by
  have hl : s.heap.IsList l items := ⟨_, ho, rfl, k, rfl⟩
  refine wpAny_call_entry slot_list_append hl.typeIs entry_list_append ?_ (args_list_append _ _)
  show wpAny _ _ (updateSeq l (·.push v) >>= fun _ => ret .none) _ _ s
  refine wpAny_bind ?_
  exact wpAny_updateSeq ho rfl (wpAny_pure ⟨.none, rfl, hQ⟩)

noncomputable def methId (o : V) (m : String) : String := match o with
  | .str _ => if m = "find" then "str.find" else if m = "index" then "str.index" else if m = "upper" then "str.upper" else if m = "join" then "str.join" else "str.replace"
  | _ => if m = "append" then "list.append" else "list.insert"

theorem mid1 (s : List Nat) : methId (.str s) "find" = "str.find" := rfl
theorem mid2 (s : List Nat) : methId (.str s) "index" = "str.index" := rfl
theorem mid3 (s : List Nat) : methId (.str s) "upper" = "str.upper" := rfl
theorem mid4 (s : List Nat) : methId (.str s) "join" = "str.join" := rfl
theorem mid5 (s : List Nat) : methId (.str s) "replace" = "str.replace" := rfl
theorem mid6 (a : Addr) : methId (.ref a) "append" = "list.append" := rfl
theorem mid7 (a : Addr) : methId (.ref a) "insert" = "list.insert" := rfl

theorem sound_methName {Q : Value × List Value → Shared → Prop} {E : Value → Shared → Prop} {M : Model} {m : String} {o : V} {co : Value} {pl : Sem Bool} (h0 : methOk m o H) (r : vrel co o) (x : SC g Γ loc H s)
    (hQ : Q (.builtin (methId o m), [co]) s) : wpAny M A (getMethod co (Str.ofString m) pl) Q E s := by
  cases o with
  | str y =>
    obtain ⟨t, rfl⟩ := vrel_str r
    rcases h0 with rfl | rfl | rfl | rfl | rfl
    · rw [mid1] at hQ; exact GM.find hQ
    · rw [mid2] at hQ; exact GM.index hQ
    · rw [mid3] at hQ; exact GM.upper hQ
    · rw [mid4] at hQ; exact GM.join hQ
    · rw [mid5] at hQ; exact GM.replace hQ
  | ref a =>
    obtain rfl := vrel_ref r
    obtain ⟨hm, xs, q⟩ := h0
    obtain ⟨cvs, k, ho, _⟩ := led_listX x q
    have l : s.heap.IsList a cvs := ⟨_, ho, rfl, k, rfl⟩
    have hd : ∀ b, Value.ref a = .ref b → ∃ ob, s.heap.get? b = some ob ∧ ob.dict = none := by
      rintro b ⟨⟩; exact ⟨_, ho, rfl⟩
    rcases hm with rfl | rfl
    · rw [mid6] at hQ
      with_reducible exact getMethod_builtin l.typeIs F.plainAttrs_list F.slot_list_append F.type_list_append hd hQ
    · rw [mid7] at hQ
      with_reducible exact getMethod_builtin l.typeIs F.plainAttrs_list F.slot_list_insert F.type_list_insert hd hQ
  | _ => exact h0.elim

theorem sizeL {cvs : Array Value} {xs : List V} (r : vrels cvs.toList xs) : cvs.size = xs.length := by
  have := vrels_len r; rwa [Array.length_toList] at this

theorem join_nil : ∀ (ys : List Str), (Txt.join ⟨[].toArray⟩ ys).cps.toList = (ys.map (·.cps.toList)).flatten := by
  intro ys
  show (Builtin.Str.glued _ _).cps.toList = _
  unfold Builtin.Str.glued
  have key : ∀ (l : List Str) (acc : Array Nat), (l.foldl (fun acc p => acc ++ (#[] : Array Nat) ++ p.cps) acc).toList = acc.toList ++ (l.map (·.cps.toList)).flatten := by
    intro l
    induction l with
    | nil => intro acc; simp
    | cons p l ih => intro acc; rw [List.foldl_cons, ih]; simp
  cases ys with
  | nil => rfl
  | cons y l => simpa using key l y.cps

theorem sound_meth (hΓ : Γ.Ok g n) {m : String} {o : V} {co : Value} {vs : List V} {cvs : List Value} {K : V → AHeap → Prop} {Q : Value → Shared → Prop}
    (h : methK m o vs H K) (r : vrel co o) (rs : vrels cvs vs) (hr : m = "replace" → ∃ y u z v, cvs = [.str y u, .str z v] ∧ u ≠ 0 ∧ v ≠ 0 ∧ u ≠ v) (x : SC g Γ loc H s) (P : Post g Γ loc K Q) :
    wpAny (model g.prog g.w) A (call (.builtin (methId o m)) (co :: cvs)) Q E s := by
  cases o with
  | str y =>
    obtain ⟨t, rfl⟩ := vrel_str r
    match vs with
    | [] =>
      obtain rfl := vrels0 rs
      obtain ⟨rfl, d, rfl, hm, hk⟩ := ite_F h
      rw [mid3]
      refine SCL.upper (by show (1 : Nat) ≤ _; exact (by decide)) fun _ => P _ _ _ _ hk ?_ (x.toks _)
      rw [upper_one hm]; rfl
    | [v] =>
      obtain ⟨c, rfl, r1⟩ := vrels1 rs
      cases v with
      | str z =>
        obtain ⟨u, rfl⟩ := vrel_str r1
        obtain ⟨e, d, rfl, hm, hl, hk⟩ := ite_F h
        rcases e with rfl | rfl
        · rw [mid1]
          refine call_gives F.slot_str_find (typeIs_str _ _ _) F.entry_str_find (F.args_str_find_2 _ _) (gives_str_find _ _ _ _) ?_
          exact P _ _ _ _ hk (find_one hm) (x.toks _)
        · obtain ⟨rest, ho⟩ := occ_one hm
          rw [mid2]
          refine call_gives F.slot_str_index (typeIs_str _ _ _) F.entry_str_index (F.args_str_index_2 _ _) (gives_str_index _ _ _ _ _ _ ho) ?_
          exact P _ _ _ _ hk rfl (x.toks _)
      | ref a =>
        obtain rfl := vrel_ref r1
        obtain ⟨rfl, xs, ss, rfl, e1, e2, h1, h2, hk⟩ := ite_F h
        obtain ⟨cvs, l, rr⟩ := led_list x e1
        rw [mid4]
        refine join_list l (strsAre_of rr e2) ?_ fun t' k => P _ _ _ _ hk ?_ (x.toks _)
        · have e3 : ((ss.map fun x => (⟨x.toArray⟩ : Str)).map (·.length)).sum = ss.flatten.length := by
            rw [List.length_flatten, List.map_map]; rfl
          rw [e3]
          show _ + _ * 0 ≤ _
          unfold lim at h2; exact (Nat.le_trans (by assumption) (by decide))
        · show _ = _
          rw [join_nil, List.map_map]
          congr 1
          exact List.map_id _
      | _ => exact h.elim
    | [v, u] =>
      cases v with
      | str p =>
          cases u with
          | str q =>
          obtain ⟨rfl, q, hq, h1, h2, h3, hk⟩ := ite_F h
          obtain ⟨y, u, z, v, e, hu, hv, huv⟩ := hr rfl
          subst e
          obtain ⟨r1, r2, _⟩ := rs
          obtain ⟨_, e1⟩ := vrel_str r1; obtain ⟨_, e2⟩ := vrel_str r2
          cases e1; cases e2
          subst hq
          rw [mid5]
          refine SC.replaceW hu hv huv ?_ ?_ ?_ fun t' k => P _ _ _ _ hk rfl (x.toks _)
          · rw [str_beq]; exact decide_eq_false h3
          · exact Nat.le_trans h1 (by decide)
          · exact h2
          | _ => exact h.elim
      | _ => exact h.elim
    | _ :: _ :: _ :: _ => exact h.elim
  | ref a =>
    obtain rfl := vrel_ref r
    match vs with
    | [v] =>
      obtain ⟨c, rfl, r1⟩ := vrels1 rs
      obtain ⟨rfl, xs, e, hl, hk⟩ := ite_F h
      obtain ⟨cvs, k, ho, rr⟩ := led_listX x e
      rw [mid6]
      refine append_raw ho (P _ _ _ _ hk trivial (x.listUpd hΓ e _ ho ?_)) (by rw [sizeL rr]; exact Nat.le_trans hl lim_le)
      rw [Array.toList_push]; exact vrels_append rr ⟨r1, trivial⟩
    | [uu, vv] =>
      obtain ⟨c, d, rfl, r1, r2⟩ := vrels2 rs
      cases uu with
      | int kk =>
      obtain ⟨t, rfl⟩ := vrel_int r1
      obtain ⟨rfl, xs, e, hl, h0, h1, hk⟩ := ite_F h
      obtain ⟨cvs, k, ho, rr⟩ := led_listX x e
      have hz := sizeL rr
      have l : s.heap.IsList _ cvs := ⟨_, ho, rfl, k, rfl⟩
      rw [mid7]
      refine call_meets F.slot_list_insert l.typeIs F.entry_list_insert (F.args_list_insert_3 _ _ _) (AutoSeq1.list_insert_list_int_val_1 _ cvs k _ _ _ ?_ (by rw [hz]; exact Nat.le_trans hl lim_le)) ⟨ho, ?_⟩
      · have := lim63 hl
        simp [Builtin.List.listFitsIndex]
        omega
      · refine P _ _ _ _ hk trivial (x.listUpd hΓ e _ ho ?_)
        dsimp only
        rw [if_neg (by omega), show min kk.toNat cvs.size = kk.toNat from by omega]
        simp only [Array.toList_append, Array.toList_push, Array.toList_extract, List.append_assoc, List.extract_eq_take_drop]
        have e1 : List.take (cvs.size - kk.toNat) (List.drop kk.toNat cvs.toList) = List.drop kk.toNat cvs.toList := List.take_of_length_le (by rw [List.length_drop, Array.length_toList]; exact Nat.le_refl _)
        simp only [List.drop_zero, Nat.sub_zero] at e1 ⊢
        refine vrels_append (vrels_take rr _) ⟨r2, ?_⟩
        first | (rw [e1]; exact vrels_drop rr _) | skip
      | _ => exact h.elim
    | [] => exact h.elim
    | _ :: _ :: _ :: _ => exact h.elim
  | _ => exact h.elim
end Mine
end

section
set_option genSizeOf false
set_option genSizeOfSpec false
open PySem PySem.W PyProof.Rows PySem.Calls Builtin Builtin.ObjectAttr
set_option Elab.async false
set_option maxRecDepth 100000
set_option linter.unusedVariables false
namespace Mine
variable {g : G} {Γ : Cx} {loc : Loc} {H : AHeap} {n : Nat} {s : Shared} {A : Around} {E : Value → Shared → Prop}

/-- what the proofs use of a class of the text -/
structure ClsOk (g : G) (c : String) : Prop where
  ga : findIn g.K (.ref (g.addr c)) "__getattribute__" = some (some (.builtin "object.__getattribute__"))
  sa : findIn g.K (.ref (g.addr c)) "__setattr__" = some (some (.builtin "object.__setattr__"))
  po : plainOver g.K (g.addr c) = true
  hd : hasDictIn g.K (g.addr c) = true
  no : ∀ n ∈ attrStrs, findIn g.K (.ref (g.addr c)) (Str.ofString n) = some none
  mks : makesIn g.K (g.addr c) = true

theorem ofString_inj {a b : String} (h : Str.ofString a = Str.ofString b) : a = b := by
  rw [Str.ofString_eq_toList, Str.ofString_eq_toList] at h
  injection h with h
  have h := congrArg Array.toList h
  rw [List.toList_toArray, List.toList_toArray] at h
  have : a.toList = b.toList := List.map_inj_right (fun x y e => Char.toNat_inj.mp e) |>.mp h
  exact String.toList_inj.mp this

theorem isStr_of (a b : String) (t : Tok) : (Value.str (Str.ofString a) t).isStr (Str.ofString b) = decide (a = b) := by
  rw [Bool.eq_iff_iff, decide_eq_true_iff]
  constructor
  · intro h
    exact ofString_inj (by simpa [Value.isStr] using h)
  · rintro rfl
    simp [Value.isStr]

theorem vrel_handed {cv : Value} {v : V} (r : vrel cv v) : handedIn cv = true := by
  cases cv <;> first | rfl | (cases v <;> cases r)

theorem getL_rel {n : String} : ∀ {es : List DictEntry} {fs : List (String × V)}, fieldsRel es fs → ∀ {v : V}, fs.lookup n = some v → ∃ cv, getL (Str.ofString n) es = some (some cv) ∧ vrel cv v
  | [], [], _, v, e => by cases e
  | e :: es, f :: fs, ⟨⟨t, h1⟩, h2, h3⟩, v, q => by
    unfold getL
    rw [List.find?_cons, h1, isStr_of]
    obtain ⟨f1, f2⟩ := f
    rw [List.lookup_cons] at q
    by_cases hn : f1 = n
    · rw [decide_eq_true hn]
      rw [show (n == f1) = true from by simp [hn]] at q
      cases q
      exact ⟨e.val, rfl, h2⟩
    · rw [decide_eq_false hn]
      rw [show (n == f1) = false from by simpa using fun z => hn z.symm] at q
      obtain ⟨cv, hc, hr⟩ := getL_rel h3 q
      refine ⟨cv, ?_, hr⟩
      unfold getL at hc
      cases hf : es.find? (·.key.isStr (Str.ofString n)) with
      | some e' => rw [hf] at hc; exact hc
      | none => rw [hf] at hc; dsimp only at hc; split at hc <;> cases hc

theorem putL_rel {n : String} {hs : Int} {t : Tok} {cv : Value} {v : V} (r : vrel cv v) : ∀ {es : List DictEntry} {fs : List (String × V)}, fieldsRel es fs → fieldsRel (putL (Str.ofString n) hs (.str (Str.ofString n) t) cv es) (putF n v fs)
  | [], [], _ => ⟨⟨t, rfl⟩, r, trivial⟩
  | e :: es, f :: fs, ⟨⟨t', h1⟩, h2, h3⟩ => by
    unfold putL putF
    rw [h1, isStr_of]
    by_cases hn : f.1 = n
    · rw [decide_eq_true hn, if_pos rfl, if_pos hn]
      exact ⟨⟨t', by show Value.str _ _ = _; rw [hn]⟩, r, h3⟩
    · rw [decide_eq_false hn, if_neg (by decide), if_neg hn]
      exact ⟨⟨t', h1⟩, h2, putL_rel r h3⟩

theorem fields_len : ∀ {es : List DictEntry} {fs : List (String × V)}, fieldsRel es fs → es.length = fs.length
  | [], [], _ => rfl
  | _ :: _, _ :: _, ⟨_, _, h⟩ => by rw [List.length_cons, List.length_cons, fields_len h]
theorem putF_len (n : String) (v : V) : ∀ fs : List (String × V), (putF n v fs).length ≤ fs.length + 1
  | [] => Nat.le_refl _
  | f :: fs => by
    unfold putF
    split
    · exact Nat.le_succ _
    · exact Nat.succ_le_succ (putF_len n v fs)
theorem fields_noRef : ∀ {es : List DictEntry} {fs : List (String × V)}, fieldsRel es fs → es.any (·.refKey) = false
  | [], [], _ => rfl
  | e :: es, _ :: _, ⟨⟨t, h1⟩, _, h⟩ => by
    rw [List.any_cons, fields_noRef h, Bool.or_false]
    unfold DictEntry.refKey; rw [h1]

/-- what stands behind a ledger's entry -/
theorem led_inst (x : SC g Γ loc H s) {a d : Addr} {c : String} {fs : List (String × V)} (e1 : H a = some (.inst c d)) (e2 : H d = some (.dict fs)) :
    ∃ ox es k, InstAt s.heap a ox (g.addr c) (some (dictOf es k)) ∧ ox.dict = some d ∧ ox.data = .plain ∧ s.heap.get? d = some (dictOf es k) ∧ fieldsRel es fs := by
  obtain ⟨ox, q1, hc, hd, hp⟩ := x.cc.led _ _ e1
  obtain ⟨od, q2, es, k, rfl, r⟩ := x.cc.led _ _ e2
  refine ⟨ox, es, k, ⟨q1, hc, ?_, ?_⟩, hd, hp, q2, r⟩
  · unfold notCls; rw [hp]
  · rw [hd]; exact q2

theorem sound_attr (hK : ∀ h : Heap, g.base.StaysIn h → g.K.In h) (hC : ∀ c ∈ clsNames, ClsOk g c) {o : V} {co : Value} {nm : String} {K : V → Prop} {Q : Value → Shared → Prop} {expr : Bool}
    (h : attrK o nm H K) (r : vrel co o) (x : SC g Γ loc H s) (P : ∀ v cv s', K v → vrel cv v → SC g Γ loc H s' → Q cv s') : wpAny (model g.prog g.w) A (getAttr co (Str.ofString nm) expr) Q E s := by
  unfold attrK at h
  split at h
  · obtain rfl := vrel_ref r
    split at h
    · rename_i e1
      obtain ⟨hc, hn, h⟩ := h
      split at h
      · rename_i e2
        split at h
        · rename_i v e3
          obtain ⟨ox, es, k, I, _, _, _, rel⟩ := led_inst x e1 e2
          obtain ⟨cv, q1, q2⟩ := getL_rel rel e3
          have C := hC _ hc
          exact get_value (hK _ x.cc.stay) I C.ga (findObj_own C.hd (C.no _ hn) rfl q1) (vrel_handed q2) (P _ _ _ h q2 (x.toks _))
        · exact h.elim
      · exact h.elim
    · exact h.elim
  · exact h.elim

theorem osa_raw {K : Frag} {x C dx : Addr} {ox : Obj} {es : List DictEntry} {k : Nat} {name : Str} {tk : Tok} {v : Value} {R : Result → Shared → Prop} {prog : Program} {w : World} (X : K.In s.heap)
    (I : InstAt s.heap x ox C (some (dictOf es k))) (hd : ox.dict = some dx) (hp : plainOver K C = true) (ht : takerIn K C name = some none) (hh : hasDictIn K C = true)
    (hr : es.any (·.refKey) = false) (hz : (putL name (PyData.keyHash w.params name) (.str name s.toks) v es).length ≤ 1000)
    (h : R (.ok (.ret .none)) { s with heap := s.heap.update dx (Obj.putName name (PyData.keyHash w.params name) (.str name s.toks) v), toks := s.toks + 1 }) :
    codeAny (model prog w) A (.call (.builtin "object.__setattr__") ⟨[.ref x, .str name tk, v], []⟩) R s := by
  refine osa_open X I hp ht fun b => ?_
  obtain ⟨cd, hc, hd'⟩ := any_some hh
  obtain ⟨hx, hcl, hn, hdd⟩ := I
  obtain ⟨oc, odi, oda, osl⟩ := ox
  dsimp only at hcl hd hdd
  subst hcl hd
  dsimp only at hdd
  have D' : (s.heap.update dx (Obj.putName name (PyData.keyHash w.params name) (.str name s.toks) v)).get? dx = some (dictOf (putL name (PyData.keyHash w.params name) (.str name s.toks) v es) (putN name es k)) := by
    rw [← putName_dict]
    refine Heap.get?_update_self _ hdd ?_
    rw [putName_dict]; rfl
  refine wpAny_bind (wpAny_pure (wpAny_bind (wpAny_bind (wpAny_loadPart hx (wpAny_bind ((looks_clsIn X hc).here ?_))))))
  rw [hd']
  refine wpAny_pure (a := some dx) (wpAny_bind (wpAny_pure (wpAny_bind ?_)))
  unfold nsSet
  refine wpAny_bind (wpAny_bind (wpAny_askSetting (wpAny_pure (wpAny_bind (wpAny_mkText (wpAny_bind (wpAny_loadPart hdd ?_)))))))
  have c : (!es.toArray.any (·.key.isStr name) && es.toArray.any (·.refKey)) = false := by
    rw [← Array.any_toList, ← Array.any_toList, List.toList_toArray, hr, Bool.and_false]
  dsimp only
  rw [aRefKeyMayBeTheName_at, c]
  refine wpAny_updatePart hdd ?_
  refine wpAny_bind (wpAny_lookBehind D' (pastItsLine_dict (by rw [List.size_toArray, sizeLine_eq]; exact (Nat.le_trans (by assumption) (by decide)))) ?_)
  exact wpAny_pure h

theorem sound_setAttr (hK : ∀ h : Heap, g.base.StaysIn h → g.K.In h) (hC : ∀ c ∈ clsNames, ClsOk g c) (hΓ : Γ.Ok g n) {o v : V} {co cv : Value} {nm : String} {K : AHeap → Prop} {Q : Unit → Shared → Prop}
    (h : setAttrK o nm v H K) (r : vrel co o) (rv : vrel cv v) (x : SC g Γ loc H s) (P : ∀ H' s', K H' → SC g Γ loc H' s' → Q () s') : wpAny (model g.prog g.w) A (setAttr co (Str.ofString nm) cv) Q E s := by
  unfold setAttrK at h
  split at h
  · obtain rfl := vrel_ref r
    split at h
    · rename_i c d e1
      obtain ⟨hc, hn, h⟩ := h
      split at h
      · rename_i fs e2
        obtain ⟨hl, h⟩ := h
        obtain ⟨ox, es, k, I, hd, hp, hdd, rel⟩ := led_inst x e1 e2
        have C := hC _ hc
        have rel' := putL_rel (n := nm) (hs := PyData.keyHash g.w.params (Str.ofString nm)) (t := s.toks + 1) rv rel
        have D' : (s.heap.update d (Obj.putName (Str.ofString nm) (PyData.keyHash g.w.params (Str.ofString nm)) (.str (Str.ofString nm) (s.toks + 1)) cv)).get? d = some (dictOf (putL (Str.ofString nm) (PyData.keyHash g.w.params (Str.ofString nm)) (.str (Str.ofString nm) (s.toks + 1)) cv es) (putN (Str.ofString nm) es k)) := by
          rw [← putName_dict]
          refine Heap.get?_update_self _ hdd ?_
          rw [putName_dict]; rfl
        refine set_plain (hK _ x.cc.stay) I C.sa (osa_raw (s := { s with toks := s.toks + 1 }) (hK _ x.cc.stay) I hd C.po ?_ C.hd (fields_noRef rel) ?_ ?_)
        · unfold takerIn; rw [C.no _ hn]; rfl
        · rw [fields_len rel']; have := putF_len nm v ‹_›; omega
        · exact P _ _ h (x.heap (x.cc.updL hΓ e2 (Heap.SameBut.update ..) D' (show ORel g _ (.dict _) from ⟨_, _, rfl, rel'⟩)))
      · exact h.elim
    · exact h.elim
  · exact h.elim
end Mine
end

section
set_option genSizeOf false
set_option genSizeOfSpec false
open PySem PySem.W PyProof.Rows PySem.Calls Builtin Builtin.Str
set_option Elab.async false
set_option maxRecDepth 100000
set_option linter.unusedVariables false
namespace Mine
variable {g : G} {Γ : Cx} {loc : Loc} {H : AHeap} {n : Nat} {s : Shared} {A : Around} {E : Value → Shared → Prop}

theorem sub_ops (slice : Expr) (o i : Value) : ∃ l, subscripted slice false o i = operate l (getItem o i) := by
  cases slice <;> first | exact ⟨_, rfl⟩ | (rename_i lo hi st p; cases st <;> exact ⟨_, rfl⟩)

theorem sub_tail {prog : Program} {w : World} {value slice : Expr} {o i : Value} {T id : String} {Q : Value → Shared → Prop} (hT : s.TypeIs o T)
    (hl : typeLookup (.type T) "__getitem__" = pure (some (.builtin id))) (h : wpAny (model prog w) A (getItem o i) Q E s) : wpAny (model prog w) A (subscriptTail value slice o i) Q E s := by
  obtain ⟨l, hs⟩ : ∃ l, subscripted slice false o i = operate l (getItem o i) := sub_ops slice o i
  unfold subscriptTail
  refine wpAny_bind ?_
  rw [getitemInPython_of_ne hT.not_modules]
  refine wpAny_bind (wpAny_specialOf hT hl ?_)
  have fin : wpAny (model prog w) A (subscripted slice false o i) (fun r s₃ => wpAny (model prog w) A (letTemporaryGo value o r >>= fun _ => pure r) Q E s₃) E s := by
    rw [hs]
    exact wpAny_operating (wpAny_mono h (fun r s₃ h₃ => wpAny_bind (wpAny_letTemporaryGo (wpAny_pure h₃))) fun _ _ x => x)
  first
    | exact wpAny_pure (wpAny_bind fin)
    | exact wpAny_bind (wpAny_pure (wpAny_bind fin))
    | exact wpAny_bind fin

theorem cut_min {α : Type} (l : List α) (a b : Nat) : (l.drop (min a l.length)).take (min b l.length - min a l.length) = (l.take b).drop a := by
  rw [List.drop_take]
  by_cases h : a ≤ l.length
  · rw [Nat.min_eq_left h]
    by_cases h2 : b ≤ l.length
    · rw [Nat.min_eq_left h2]
    · rw [Nat.min_eq_right (by omega), List.take_of_length_le (by rw [List.length_drop]; exact (Nat.le_refl _)), List.take_of_length_le (by rw [List.length_drop]; omega)]
  · have e : min a l.length = l.length := by omega
    rw [e, List.drop_of_length_le (Nat.le_refl _), List.drop_of_length_le (Nat.le_of_not_le h), List.take_nil, List.take_nil]

theorem clampM {i : Int} {n : Nat} (h : 0 ≤ i) : max 0 (min i (n : Int)) = ((min i.toNat n : Nat) : Int) := by
  obtain ⟨k, rfl⟩ := Int.eq_ofNat_of_zero_le h
  rw [Int.toNat_natCast]
  rcases Nat.le_total k n with e | e
  · rw [Nat.min_eq_left e, Int.min_eq_left (Int.ofNat_le.mpr e)]; exact Int.max_eq_right h
  · rw [Nat.min_eq_right e, Int.min_eq_right (Int.ofNat_le.mpr e)]; exact Int.max_eq_right (Int.natCast_nonneg n)
theorem clip_nat {n : Nat} {i : Int} (h : 0 ≤ i) : clipAt n i = min i.toNat n := by
  have := clipAt_cast n i
  rw [if_neg (Int.not_lt.mpr h), clampM h] at this
  exact Int.ofNat.inj this

theorem pick_cut {items : Array Value} {a b : Option Int} (ha : ∀ i, a = some i → 0 ≤ i) (hb : ∀ i, b = some i → 0 ≤ i) :
    (slicePick items a b none).toList = (items.toList.take (b.elim items.size Int.toNat)).drop (a.elim 0 Int.toNat) := by
  rw [slicePick_plain, List.toList_toArray, ← cut_min]
  have e : items.toList.length = items.size := Array.length_toList
  rw [e]
  have h1 : b.elim items.size (clipAt items.size) = min (b.elim items.size Int.toNat) items.size := by
    cases b with
    | none => simp
    | some i => show clipAt _ _ = min i.toNat _; rw [clip_nat (hb i rfl)]
  have h2 : a.elim 0 (clipAt items.size) = min (a.elim 0 Int.toNat) items.size := by
    cases a with
    | none => simp
    | some i => show clipAt _ _ = min i.toNat _; rw [clip_nat (ha i rfl)]
  rw [h1, h2]

theorem clampN {i : Int} {n : Nat} (h : 0 ≤ i) : max 0 (min (if i < 0 then i + n else i) (n : Int)) = ((min i.toNat n : Nat) : Int) := by
  rw [if_neg (Int.not_lt.mpr h), clampM h]
noncomputable def clipO (n : Nat) (d : Int) : Option Int → Int
  | none => d
  | some i => max 0 (min (if i < 0 then i + n else i) (n : Int))
theorem idx_eq (a b : Option Int) (n : Nat) : strSliceIndices a b 1 n = sliceRange (clipO n 0 a) (clipO n n b) 1 := by
  cases a <;> cases b <;> rfl
theorem clipO_eq {a : Option Int} {n d : Nat} (hd : d ≤ n) (h : ∀ i, a = some i → 0 ≤ i) : clipO n d a = ((min (a.elim d Int.toNat) n : Nat) : Int) := by
  cases a with
  | none => show (d : Int) = ((min d n : Nat) : Int); rw [Nat.min_eq_left hd]
  | some i => exact clampN (h i rfl)
theorem clipO_nat {m n : Nat} {d : Int} : clipO n d (some (m : Int)) = ((min m n : Nat) : Int) := by
  show max 0 (min (if (m : Int) < 0 then (m : Int) + n else m) (n : Int)) = _
  rw [clampN (Int.natCast_nonneg m), Int.toNat_natCast]
theorem idx_clip {a b : Option Int} {n : Nat} (ha : ∀ i, a = some i → 0 ≤ i) (hb : ∀ i, b = some i → 0 ≤ i) :
    strSliceIndices a b 1 n = strSliceIndices (some ((min (a.elim 0 Int.toNat) n : Nat) : Int)) (some ((min (b.elim n Int.toNat) n : Nat) : Int)) 1 n := by
  rw [idx_eq, idx_eq]
  have e1 := clipO_eq (d := 0) (Nat.zero_le n) ha
  have e2 := clipO_eq (d := n) (Nat.le_refl n) hb
  have e3 := clipO_nat (m := min (a.elim 0 Int.toNat) n) (n := n) (d := 0)
  have e4 := clipO_nat (m := min (b.elim n Int.toNat) n) (n := n) (d := n)
  rw [Nat.min_assoc, Nat.min_self] at e3 e4
  exact congr (congr (congrArg _ (e1.trans e3.symm)) (e2.trans e4.symm)) rfl

theorem text_cut {x : List Nat} {a b : Option Int} (ha : ∀ i, a = some i → 0 ≤ i) (hb : ∀ i, b = some i → 0 ≤ i) :
    (Txt.slice ⟨x.toArray⟩ a b).cps.toList = (x.take (b.elim x.length Int.toNat)).drop (a.elim 0 Int.toNat) := by
  have hl : Str.length ⟨x.toArray⟩ = x.length := by show Array.size _ = _; simp
  have key : Txt.slice ⟨x.toArray⟩ a b = Txt.slice ⟨x.toArray⟩ (some ((min (a.elim 0 Int.toNat) x.length : Nat) : Int)) (some ((min (b.elim x.length Int.toNat) x.length : Nat) : Int)) := by
    unfold Txt.slice
    rw [hl, idx_clip ha hb]
  rw [key, ← cut_min]
  generalize a.elim 0 Int.toNat = p
  generalize b.elim x.length Int.toNat = q
  by_cases h : min p x.length ≤ min q x.length
  · have := StrLaws.sliceText_nat ⟨x.toArray⟩ h (by rw [hl]; exact (Nat.min_le_right _ _))
    rw [show Txt.slice ⟨x.toArray⟩ _ _ = StrLaws.sliceText ⟨x.toArray⟩ _ _ from rfl, this]
  · have e : strSliceIndices (some ((min p x.length : Nat) : Int)) (some ((min q x.length : Nat) : Int)) 1 x.length = [] := by
      rw [idx_eq, clipO_nat (d := 0), clipO_nat, Nat.min_assoc, Nat.min_self, Nat.min_assoc, Nat.min_self]
      have hn : ((min q x.length : Nat) : Int) - ((min p x.length : Nat) : Int) ≤ 0 := by omega
      unfold sliceRange
      simp
      omega
    unfold Txt.slice
    rw [hl, e]
    have h0 : min q x.length - min p x.length = 0 := by omega
    rw [h0, if_neg (by simp; omega)]
    rfl

theorem isPart_of (o : Option (Int × Tok)) : IsPart (partValue o) (o.map (·.1)) := by
  cases o with
  | none => exact .none
  | some p => exact .int _ _

/-- what a cut says of its ends -/
theorem cut_some {α : Type} {lo hi : V} {xs r : List α} (h : cutL lo hi xs = some r) : ∃ a b : Option Int, (∀ i, a = some i → 0 ≤ i) ∧ (∀ i, b = some i → 0 ≤ i) ∧
    (lo = .none ∧ a = none ∨ ∃ i, lo = .int i ∧ a = some i) ∧ (hi = .none ∧ b = none ∨ ∃ i, hi = .int i ∧ b = some i) ∧ r = (xs.take (b.elim xs.length Int.toNat)).drop (a.elim 0 Int.toNat) := by
  cases lo with
  | none =>
    cases hi with
    | none => exact Option.some.inj h ▸ ⟨none, none, nofun, nofun, .inl ⟨rfl, rfl⟩, .inl ⟨rfl, rfl⟩, by show _ = List.drop _ (List.take xs.length xs); rw [List.take_length]; rfl⟩
    | int b => exact iteS h fun c h => Option.some.inj h ▸ ⟨none, some b, nofun, fun i e => Option.some.inj e ▸ c.1, .inl ⟨rfl, rfl⟩, .inr ⟨_, rfl, rfl⟩, rfl⟩
    | _ => exact noS h
  | int a =>
    cases hi with
    | none => exact iteS h fun c h => Option.some.inj h ▸ ⟨some a, none, fun i e => Option.some.inj e ▸ c.1, nofun, .inr ⟨_, rfl, rfl⟩, .inl ⟨rfl, rfl⟩, by show _ = List.drop _ (List.take xs.length xs); rw [List.take_length]; rfl⟩
    | int b => exact iteS h fun c h => Option.some.inj h ▸ ⟨some a, some b, fun i e => Option.some.inj e ▸ c.1, fun i e => Option.some.inj e ▸ c.2.2.1, .inr ⟨_, rfl, rfl⟩, .inr ⟨_, rfl, rfl⟩, rfl⟩
    | _ => exact noS h
  | _ => exact noS h

theorem part_some {v : V} {cv : Value} {a : Option Int} (r : vrel cv v) (h : v = .none ∧ a = none ∨ ∃ i, v = .int i ∧ a = some i) : ∃ o : Option (Int × Tok), cv = partValue o ∧ o.map (·.1) = a := by
  rcases h with ⟨rfl, rfl⟩ | ⟨i, rfl, rfl⟩
  · rw [vrel_none r]; exact ⟨none, rfl, rfl⟩
  · obtain ⟨t, rfl⟩ := vrel_int r; exact ⟨some (i, t), rfl, rfl⟩

theorem vrels_cut {as : List Value} {xs : List V} (r : vrels as xs) (p q : Nat) : vrels ((as.take q).drop p) ((xs.take q).drop p) := vrels_drop (vrels_take r q) p

theorem sound_slice (R : RoOk g) (hΓ : Γ.Ok g n) {o lo hi : V} {co cl ch : Value} {K : V → AHeap → Prop} {Q : Value → Shared → Prop} {value slice : Expr}
    (h : sliceK g o lo hi H K) (r : vrel co o) (rl : vrel cl lo) (rh : vrel ch hi) (x : SC g Γ loc H s) (P : Post g Γ loc K Q) :
    wpAny (model g.prog g.w) A (subscriptTail value slice co (.ref s.heap.objs.size)) Q E { s with heap := s.heap.push { cls := .type "slice", data := .fields #[cl, ch, .none] } } := by
  have x' : SC g Γ loc H { s with heap := s.heap.push { cls := .type "slice", data := .fields #[cl, ch, .none] } } := ⟨x.cc.push _, x.os, x.gens⟩
  cases o with
  | str y =>
    obtain ⟨t, rfl⟩ := vrel_str r
    obtain ⟨hl, q, hq, hk⟩ := h
    obtain ⟨a, b, ha, hb, e1, e2, rfl⟩ := cut_some hq
    obtain ⟨pa, rfl, rfl⟩ := part_some rl e1
    obtain ⟨pb, rfl, rfl⟩ := part_some rh e2
    refine sub_tail (typeIs_str _ _ _) F.slot_str_getitem.lookup (wpAny_getItem_str_slice (l := pa) (u := pb) (st := none) ⟨_, Heap.get?_push_size _ rfl, rfl, rfl⟩ rfl ?_)
    have hf : (Txt.slice ⟨y.toArray⟩ (pa.map (·.1)) (pb.map (·.1))).length ≤ sizeLine := Nat.le_trans (Txt.slice_le _ _ _) (Nat.le_trans hl lim_le : y.length ≤ _)
    refine post_val_or_str ⟨hf, fun t' k => P _ _ _ _ hk ?_ (x'.toks _)⟩
    exact text_cut ha hb
  | ref a =>
    obtain rfl := vrel_ref r
    obtain ⟨vs, q, e, hl, hq, hk⟩ := h
    obtain ⟨cvs, l, rr⟩ := obj_list R x' e
    obtain ⟨a, b, ha, hb, e1, e2, rfl⟩ := cut_some hq
    obtain ⟨pa, rfl, rfl⟩ := part_some rl e1
    obtain ⟨pb, rfl, rfl⟩ := part_some rh e2
    refine sub_tail l.typeIs slot_list_getitem.lookup (wpAny_getItem_list_slice l (Heap.IsSliceOf.new _ _ _ _) (isPart_of pa) (isPart_of pb) .none (by simp) ?_ (by rw [sizeL rr]; exact Nat.le_trans hl lim_le))
    refine post_list (tk := s.toks) hΓ x' ?_ hk P
    rw [pick_cut ha hb, sizeL rr]
    exact vrels_cut rr _ _
  | _ => exact h.elim

theorem sd_lookup : ∀ {ckvs : List (Str × Value)} {kvs : List (List Nat × Int)}, sdRel ckvs kvs → ∀ {x : List Nat} {v : Int}, kvs.lookup x = some v → ∃ t, valueAt ckvs ⟨x.toArray⟩ = some (.int v t)
  | [], [], _, _, _, e => by cases e
  | c :: cs, f :: fs, ⟨h1, ⟨t, h2⟩, h3⟩, x, v, e => by
    obtain ⟨c1, c2⟩ := c
    obtain ⟨f1, f2⟩ := f
    rw [List.lookup_cons] at e
    dsimp only at h1 h2
    subst h1 h2
    unfold valueAt
    rw [List.find?_cons]
    by_cases hx : f1 = x
    · subst hx
      rw [show (f1 == f1) = true from by simp] at e
      cases e
      exact ⟨t, by simp⟩
    · rw [show (x == f1) = false from by simpa using fun z => hx z.symm] at e
      obtain ⟨t', h⟩ := sd_lookup h3 e
      refine ⟨t', ?_⟩
      unfold valueAt at h
      rw [show decide ((⟨f1.toArray⟩ : Str) = ⟨x.toArray⟩) = false from by simpa using hx]
      exact h

theorem sound_sub (R : RoOk g) {o i : V} {co ci : Value} {K : V → Prop} {Q : Value → Shared → Prop} {value slice : Expr}
    (h : subK g o i H K) (r : vrel co o) (ri : vrel ci i) (x : SC g Γ loc H s) (P : ∀ v cv s', K v → vrel cv v → SC g Γ loc H s' → Q cv s') : wpAny (model g.prog g.w) A (subscriptTail value slice co ci) Q E s := by
  cases o with
  | str y =>
   cases i with
   | int k =>
    obtain ⟨t, rfl⟩ := vrel_str r; obtain ⟨u, rfl⟩ := vrel_int ri
    obtain ⟨h0, hl, c, hc, hk⟩ := h
    have hlt := (List.getElem?_eq_some_iff.mp hc).1
    have := lim63 hl
    refine sub_tail (typeIs_str _ _ _) F.slot_str_getitem.lookup (PyProof.Rows.getItem_str (c := c) ?_ ?_ (P _ _ _ hk rfl (x.toks _)))
    · simp; omega
    · exact StrLaws.at_nonneg h0 (by simpa using hc)
   | _ => exact h.elim
  | ref a =>
   obtain rfl := vrel_ref r
   cases i with
   | int k =>
    obtain ⟨u, rfl⟩ := vrel_int ri
    obtain ⟨h0, vs, e, hl, v, hv, hk⟩ := h
    have hlt := (List.getElem?_eq_some_iff.mp hv).1
    have := lim63 hl
    rcases e with e | e
    · obtain ⟨cvs, l, rr⟩ := obj_list R x e
      obtain ⟨cv, hcv, rv⟩ := vrels_get rr hv
      exact sub_tail l.typeIs slot_list_getitem.lookup (wpAny_getItem_list l h0 (by omega) (by simpa using hcv) (P _ _ _ hk rv x))
    · obtain ⟨cvs, l, rr⟩ := obj_tup R x e
      obtain ⟨cv, hcv, rv⟩ := vrels_get rr hv
      have hz := sizeL rr
      exact sub_tail (IsTup.typeIs l) slot_tuple_getitem.lookup (PyProof.Rows.getItem_tuple l (by omega) (by omega) (StrLaws.seqIndex_nonneg h0 (by omega)) (by simpa using hcv) (P _ _ _ hk rv x))
   | str y =>
    obtain ⟨u, rfl⟩ := vrel_str ri
    obtain ⟨kvs, v, e, hv, hk⟩ := h
    obtain ⟨ob, q, hx⟩ := obj_rel R x e
    obtain ⟨hE, es, k, ckvs, hd, hko, hp, hnd, hsd⟩ := hx
    have D : s.heap.DictOf (PySem.strKind g.prog g.w) _ ckvs := ⟨ob, es, k, q, hE, hd, hko, hp, hnd⟩
    obtain ⟨t, hv'⟩ := sd_lookup hsd hv
    exact sub_tail D.typeIs slot_dict_getitem.lookup (wpAny_getItem_of (strKind_is _ _ _ _) D.mapOf hv' (P _ _ _ hk rfl (x.toks _)))
   | _ => exact h.elim
  | _ => exact h.elim

theorem sound_setSub (hΓ : Γ.Ok g n) {o i v : V} {co ci cv : Value} {K : AHeap → Prop} {Q : Unit → Shared → Prop}
    (h : setSubK o i v H K) (r : vrel co o) (ri : vrel ci i) (rv : vrel cv v) (x : SC g Γ loc H s) (P : ∀ H' s', K H' → SC g Γ loc H' s' → Q () s') : wpAny (model g.prog g.w) A (setItem co ci cv) Q E s := by
  cases o with
  | ref a =>
   cases i with
   | int k =>
    obtain rfl := vrel_ref r; obtain ⟨u, rfl⟩ := vrel_int ri
    obtain ⟨vs, e, h0, h1, hl, hk⟩ := h
    obtain ⟨cvs, m, ho, rr⟩ := led_listX x e
    have l : s.heap.IsList a cvs := ⟨_, ho, rfl, m, rfl⟩
    have := lim63 hl
    have hz := sizeL rr
    unfold setItem
    try with_reducible refine wpAny_holding ?_
    first | refine wpAny_bind (wpAny_pure ?_) | skip
    refine wpAny_bind (wpAny_sequenceKey l.typeIs (by decide) ?_)
    refine wpAny_bind (wpAny_callSpecial?_slot (name := Str.ofString "__setitem__") l.typeIs slot_list_setitem
      (wpAny_call_entry slot_list_setitem l.typeIs entry_list_setitem ?_ (args_list_setitem _ _ _)))
    show wpAny _ _ (Builtin.List.listSubscript? (.int k u) >>= _) _ _ s
    refine wpAny_bind (wpAny_listSubscript_int (fitsIndex_of h0 (by omega)) ?_)
    obtain ⟨j, rfl⟩ := Int.eq_ofNat_of_zero_le h0
    have hj : j < cvs.size := by omega
    have hx' : cvs[j]? = some cvs[j] := Array.getElem?_eq_getElem hj
    show wpAny _ _ ((seqItemAt a j >>= fun r => pure (r.map (j, ·))) >>= _) _ _ s
    refine wpAny_bind (wpAny_bind (wpAny_seqItemAt ho rfl (wpAny_pure ?_)))
    rw [hx']
    show wpAny _ _ (setSeqItemAt a j cv >>= _) _ _ s
    have fin := x.listUpd (tk := s.toks) (ys := vs.set j v) hΓ e (·.setIfInBounds j cv) ho (by rw [Array.toList_setIfInBounds]; exact vrels_set rr j rv)
    refine wpAny_bind (wpAny_setSeqItemAt ho rfl ?_)
    first
      | exact wpAny_bind (wpAny_pure (wpAny_pure ⟨.none, rfl, wpAny_pure (P _ _ hk fin)⟩))
      | exact wpAny_pure ⟨.none, rfl, wpAny_pure (P _ _ hk fin)⟩
   | _ => exact h.elim
  | _ => exact h.elim
end Mine
end

section
set_option genSizeOf false
set_option genSizeOfSpec false
open PySem PySem.W PyProof.Rows PySem.Calls
set_option Elab.async false
set_option maxRecDepth 100000
set_option linter.unusedVariables false
set_option linter.unusedSimpArgs false
namespace Mine
variable {g : G} {Γ : Cx} {loc : Loc} {H : AHeap} {n : Nat} {s : Shared}

/-- what the proofs use of the loaded text -/
structure GOk (g : G) : Prop where
  hmg : g.base.Ns mainGlobals g.mg
  hmb : g.base.Ns builtinsNs g.mb
  nl : g.base.NoLimit
  KX : g.K.In g.base
  ro : RoOk g
  cls : ∀ c ∈ clsNames, ClsOk g c
  isR : isNotIn g.K "str" (g.addr "Ref") = true
  gvs : ∀ x v, g.gv.lookup x = some v → ∃ cv, g.mg x = some cv ∧ vrel cv v
  fn : ∀ x f, g.fns.lookup x = some f → g.mg x = some (.ref (g.addr f)) ∧ keepIn g.K (.ref (g.addr f)) = true
  clv : ∀ x c, g.cl.lookup x = some c → g.mg x = some (.ref (g.addr c)) ∧ keepIn g.K (.ref (g.addr c)) = true
  bi : ∀ x b, biNames.lookup x = some b → g.mg x = none ∧ g.mb x = some (biV b)
  isi : g.mg (Str.ofString "isinstance") = none ∧ g.mb (Str.ofString "isinstance") = some (.builtin "isinstance")
  rng : g.mg (Str.ofString "range") = none ∧ g.mb (Str.ofString "range") = some (.type "range")
  ty : ∀ x t, tyNames.lookup x = some t → (g.mg x = some (tyV g t) ∨ g.mg x = none ∧ g.mb x = some (tyV g t))
  die : g.mg (Str.ofString "Die") = some (.ref (g.addr "Die"))

theorem GOk.hK (G : GOk g) : ∀ h : Heap, g.base.StaysIn h → g.K.In h := fun _ k => G.KX.keeps k

/-- the state of the proof at a step: all that is known of the surroundings -/
structure St (g : G) (n : Nat) (sc : Sc) (Γ : Cx) (loc : Loc) (H : AHeap) (s : Shared) : Prop where
  ok : Γ.Ok g n
  nm : Γ.env.scope.names = sc.names
  sc : SC g Γ loc H s
  tk : 0 < s.toks

structure ScOk (g : G) (sc : Sc) : Prop where
  gv : sc.gv = g.gv
  fns : sc.fns = g.fns
  cls : sc.cls = g.cl

variable {sc : Sc}
theorem St.next (x : St g n sc Γ loc H s) {loc' : Loc} {H' : AHeap} {s' : Shared} (y : SC g Γ loc' H' s') (t : 1 ≤ s'.toks) : St g n sc Γ loc' H' s' := ⟨x.ok, x.nm, y, t⟩

def SE (g : G) (sc : Sc) (e : Expr) (c : C) : Prop := ∀ n Γ loc H s QA XA Q E, St g n sc Γ loc H s → wpE g n loc c QA XA H → (∀ v cv H' s', QA v H' → vrel cv v → St g n sc Γ loc H' s' → Q cv s') → XPost g Γ XA E →
  wpAny (model g.prog g.w) Γ.A (eval e Γ.env) Q E s
def SLn (g : G) (sc : Sc) (es : List Expr) (c : C) : Prop := (∀ env pos, (backTo pos (starEach es env)).any (·.1) = false) ∧ ∀ n Γ loc H s QA XA Q E (pos : Pos), St g n sc Γ loc H s → wpL g n loc c QA XA H → (∀ vs cvs H' s', QA vs H' → vrels cvs vs → St g n sc Γ loc H' s' → Q cvs s') → XPost g Γ XA E →
  wpAny (model g.prog g.w) Γ.A (spliced (backTo pos (starEach es Γ.env))) Q E s
def SKw (g : G) (sc : Sc) (ks : List Keyword) (ns : List String) (c : C) : Prop := (∀ env pos, (backToKw pos (keywordEach ks env)).filterMap (·.1) = ns.map Str.ofString ∧ (backToKw pos (keywordEach ks env)).all (·.1.isSome) = true) ∧
  ∀ n Γ loc H s QA XA Q E (pos : Pos), St g n sc Γ loc H s → wpL g n loc c QA XA H → (∀ vs cvs H' s', QA vs H' → vrels cvs vs → St g n sc Γ loc H' s' → Q cvs s') → XPost g Γ XA E →
    wpAny (model g.prog g.w) Γ.A (evalAll ((backToKw pos (keywordEach ks Γ.env)).map (·.2))) Q E s
def SO (g : G) (sc : Sc) (e : Option Expr) (c : C) : Prop := ∀ n Γ loc H s QA XA Q E, St g n sc Γ loc H s → wpE g n loc c QA XA H → (∀ v cv H' s', QA v H' → vrel cv v → St g n sc Γ loc H' s' → Q cv s') → XPost g Γ XA E →
  wpAny (model g.prog g.w) Γ.A (evalPart e Γ.env) Q E s
def ST (g : G) (sc : Sc) (e : Expr) (c : C) : Prop := ∀ n Γ loc H s QA XA Q E, St g n sc Γ loc H s → wpT g n loc c QA XA H → (∀ b H' s', QA b H' → St g n sc Γ loc H' s' → Q b s') → XPost g Γ XA E →
  wpAny (model g.prog g.w) Γ.A (isTrue e Γ.env (eval e Γ.env)) Q E s
def SA (g : G) (sc : Sc) (es : List Expr) (c : C) : Prop := ∀ n Γ loc H s QA XA Q E, St g n sc Γ loc H s → wpA g n loc c QA XA H → (∀ b H' s', QA b H' → St g n sc Γ loc H' s' → Q b s') → XPost g Γ XA E →
  wpAny (model g.prog g.w) Γ.A (allTrue .And es Γ.env) Q E s
def SOr (g : G) (sc : Sc) (es : List Expr) (c : C) : Prop := ∀ n Γ loc H s QA XA Q E, St g n sc Γ loc H s → wpO g n loc c QA XA H → (∀ b H' s', QA b H' → St g n sc Γ loc H' s' → Q b s') → XPost g Γ XA E →
  wpAny (model g.prog g.w) Γ.A (allTrue .Or es Γ.env) Q E s

theorem XPost.tk {XA : AHeap → Prop} {E : Value → Shared → Prop} (X : XPost g Γ XA E) : XPost g Γ XA (fun e s' => 1 ≤ s'.toks → E e s') := fun e H' s' h x _ => X e H' s' h x

theorem slot_at {names : List (Str × NameKind)} {x : Str} {k : NameKind} {i : Nat} (hk : names.lookup x = some k) (hi : names.findIdx? (·.1 == x) = some i) : names[i]? = some (x, k) := by
  induction names generalizing i with
  | nil => cases hk
  | cons p r ih =>
    obtain ⟨y, k'⟩ := p
    rw [List.lookup_cons] at hk
    rw [List.findIdx?_cons] at hi
    by_cases h : y = x
    · subst h
      rw [show (y == y) = true from by simp] at hk
      simp at hi
      cases hk; subst hi; rfl
    · rw [show (x == y) = false from by simpa using fun z => h z.symm] at hk
      rw [show ((y, k').1 == x) = false from by simpa using h] at hi
      simp only [Bool.false_eq_true, if_false] at hi
      obtain ⟨j, hj, rfl⟩ := Option.map_eq_some_iff.mp hi
      exact ih hk hj

theorem kindOf_of (x : St g n sc Γ loc H s) {y : Str} {k : NameKind} (h : sc.kind y = some k) : Γ.env.kindOf y = some k := by
  unfold Env.kindOf; rw [x.nm]; exact h

theorem load_local (x : St g n sc Γ loc H s) {y : Str} {i : Nat} {v : V} {Q : Value → Shared → Prop} {E : Value → Shared → Prop} (hk : sc.kind y = some .local) (hi : sc.slot y = some i) (hv : loc[i]? = some (some v))
    (h : ∀ cv, vrel cv v → Q cv s) : wpAny (model g.prog g.w) Γ.A (loadName Γ.env y) Q E s := by
  obtain ⟨m, hn, hr⟩ := x.sc.cc.lcs
  obtain ⟨cv, h1, h2⟩ := hr i y v (by rw [x.nm]; exact slot_at hk hi) hv
  exact wpAny_loadName_local x.ok.kind (kindOf_of x hk) hn h1 (h cv h2)
theorem load_cell (x : St g n sc Γ loc H s) {y : Str} {i : Nat} {v : V} {Q : Value → Shared → Prop} {E : Value → Shared → Prop} (hk : sc.kind y = some .cell) (hi : sc.slot y = some i) (hv : loc[i]? = some (some v))
    (h : ∀ cv, vrel cv v → Q cv s) : wpAny (model g.prog g.w) Γ.A (loadName Γ.env y) Q E s := by
  obtain ⟨c, ov, h1, h2, h3⟩ := x.sc.cc.cel i y (by rw [x.nm]; exact slot_at hk hi)
  obtain ⟨cv, rfl, h4⟩ := h3 v hv
  exact wpAny_loadName_cell x.ok.kind (kindOf_of x hk) h1 h2 (h cv h4)

theorem isGlob_kind {x : Str} (h : (!isGlob sc x) = false) : sc.kind x = some .globalImplicit ∧ (x == ("__debug__" : Str)) = false := by
  unfold isGlob at h
  rw [Bool.not_eq_false', Bool.and_eq_true] at h
  refine ⟨beq_iff_eq.mp h.1, ?_⟩
  have := h.2
  rw [bne, Bool.not_eq_true'] at this
  exact this

theorem ev_glob (G : GOk g) (x : St g n sc Γ loc H s) {y : Str} {pos : Pos} {cv : Value} {Q : Value → Shared → Prop} {E : Value → Shared → Prop} {A : Around} (hk : sc.kind y = some .globalImplicit) (hd : (y == ("__debug__" : Str)) = false) (hm : g.mg y = some cv) (h : Q cv s) :
    wpAny (model g.prog g.w) A (eval (.Name y pos) Γ.env) Q E s := by
  refine Name_function_global x.ok.kind (kindOf_of x hk) (loadGlobal_global (mg := g.mg) ?_ hm h) hd
  rw [x.ok.gl]; exact G.hmg.keeps x.sc.cc.stay
theorem ev_builtin (G : GOk g) (x : St g n sc Γ loc H s) {y : Str} {pos : Pos} {cv : Value} {Q : Value → Shared → Prop} {E : Value → Shared → Prop} {A : Around} (hk : sc.kind y = some .globalImplicit) (hd : (y == ("__debug__" : Str)) = false) (hm : g.mg y = none ∧ g.mb y = some cv) (h : Q cv s) :
    wpAny (model g.prog g.w) A (eval (.Name y pos) Γ.env) Q E s := by
  refine Name_function_global x.ok.kind (kindOf_of x hk) (loadGlobal_builtin (mg := g.mg) (mb := g.mb) ?_ hm.1 ?_ hm.2 h) hd
  · rw [x.ok.gl]; exact G.hmg.keeps x.sc.cc.stay
  · rw [x.ok.bl]; exact G.hmb.keeps x.sc.cc.stay

theorem se_lit {c : Const} {v : V} {k pos} (h : ∀ {M : Model} {A : Around} {E : Value → Shared → Prop} {Q : Value → Shared → Prop} {s : Shared} {env : Env}, (∀ cv tk, vrel cv v → Q cv { s with toks := tk }) → wpAny M A (eval (.Constant c k pos) env) Q E s) : SE g sc (.Constant c k pos) (.lit v) := by
  intro n Γ loc H s QA XA Q E x w P X
  refine wpAny_with_toks (n := 1) x.tk (h fun cv tk r t => P v cv H _ w r (x.next (x.sc.toks _) t))

theorem se_bin {a b : Expr} {ca cb : C} {op : Operator} {pos : Pos} (G : GOk g) (ha : SE g sc a ca) (hb : SE g sc b cb) : SE g sc (.BinOp a op b pos) (.bin op ca cb) := by
  intro n Γ loc H s QA XA Q E x w P X
  simp only [ze3] at w
  refine wpAny_BinOp (ha n Γ loc H s _ XA _ E x w (fun va cva H₁ s₁ w₁ r₁ x₁ => ?_) X)
  refine hb n Γ loc H₁ s₁ _ XA _ E x₁ w₁ (fun vb cvb H₂ s₂ w₂ r₂ x₂ => ?_) X
  exact wpAny_with_toks (n := 1) x₂.tk (sound_bin G.ro x₂.ok w₂ r₁ r₂ x₂.sc fun v cv H' s' hq r y t => P v cv H' s' hq r (x₂.next y t))

theorem se_cmp {a b : Expr} {ca cb : C} {op : CmpOp} {pos : Pos} (G : GOk g) (hm : behindInMarks op b = false) (ha : SE g sc a ca) (hb : SE g sc b cb) : SE g sc (.Compare a [op] [b] pos) (.cmp op ca cb) := by
  intro n Γ loc H s QA XA Q E x w P X
  simp only [ze4] at w
  refine wpAny_Compare1 (ha n Γ loc H s _ XA _ E x w (fun va cva H₁ s₁ w₁ r₁ x₁ => ?_) X) hm
  refine hb n Γ loc H₁ s₁ _ XA _ E x₁ w₁ (fun vb cvb H₂ s₂ w₂ r₂ x₂ => ?_) X
  exact wpAny_with_toks (n := 1) x₂.tk (sound_cmp G.ro w₂ r₁ r₂ x₂.sc fun r tk hq t => P _ _ _ _ hq rfl (x₂.next (x₂.sc.toks _) t))

theorem st_cmp {a b : Expr} {ca cb : C} {op : CmpOp} {pos : Pos} (G : GOk g) (hm : behindInMarks op b = false) (ha : SE g sc a ca) (hb : SE g sc b cb) : ST g sc (.Compare a [op] [b] pos) (.cmp op ca cb) := by
  intro n Γ loc H s QA XA Q E x w P X
  simp only [zt1] at w
  refine wpAny_isTrue_Compare1 (ha n Γ loc H s _ XA _ E x w (fun va cva H₁ s₁ w₁ r₁ x₁ => ?_) X) hm
  refine hb n Γ loc H₁ s₁ _ XA _ E x₁ w₁ (fun vb cvb H₂ s₂ w₂ r₂ x₂ => ?_) X
  exact wpAny_with_toks (n := 1) x₂.tk (sound_cmp G.ro w₂ r₁ r₂ x₂.sc fun r tk hq t => wpAny_truthy_bool (P _ _ _ hq (x₂.next (x₂.sc.toks _) t)))

theorem se_neg {a : Expr} {ca : C} {pos : Pos} (ha : SE g sc a ca) : SE g sc (.UnaryOp .USub a pos) (.neg ca) := by
  intro n Γ loc H s QA XA Q E x w P X
  simp only [ze5] at w
  refine wpAny_UnaryOp (ha n Γ loc H s _ XA _ E x w (fun va cva H₁ s₁ w₁ r₁ x₁ => ?_) X)
  split at w₁
  · obtain ⟨t, rfl⟩ := vrel_int r₁
    exact wpAny_with_toks (n := 1) x₁.tk (neg_int fun t => P _ _ _ _ w₁ rfl (x₁.next (x₁.sc.toks _) t))
  · exact w₁.elim

theorem se_andv {a b : Expr} {ca cb : C} {pos : Pos} (ha : SE g sc a ca) (hb : SE g sc b cb) : SE g sc (.BoolOp .And [a, b] pos) (.andv ca cb) := by
  intro n Γ loc H s QA XA Q E x w P X
  simp only [ze6] at w
  refine wpAny_And2 (ha n Γ loc H s _ XA _ E x w (fun va cva H₁ s₁ w₁ r₁ x₁ => ?_) X)
  refine wpAny_with_toks (n := 1) x₁.tk (sound_truth w₁ r₁ fun r tk hq t => ?_)
  have x₂ := x₁.next (x₁.sc.toks tk) t
  cases r with
  | true => rw [if_pos rfl] at hq ⊢; exact hb n Γ loc H₁ _ _ XA _ E x₂ hq P X
  | false => rw [if_neg (by decide)] at hq ⊢; exact P _ _ _ _ hq r₁ x₂

theorem se_ite {t a b : Expr} {ct ca cb : C} {pos : Pos} (ht : ST g sc t ct) (ha : SE g sc a ca) (hb : SE g sc b cb) : SE g sc (.IfExp t a b pos) (.ite ct ca cb) := by
  intro n Γ loc H s QA XA Q E x w P X
  simp only [ze7] at w
  refine wpAny_IfExp (ht n Γ loc H s _ XA _ E x w (fun r H₁ s₁ w₁ x₁ => ?_) X)
  cases r with
  | true => rw [if_pos rfl] at w₁ ⊢; exact ha n Γ loc H₁ _ _ XA _ E x₁ w₁ P X
  | false => rw [if_neg (by decide)] at w₁ ⊢; exact hb n Γ loc H₁ _ _ XA _ E x₁ w₁ P X

theorem sl_nil : SLn g sc [] .nil := by
  refine ⟨fun _ _ => rfl, ?_⟩
  intro n Γ loc H s QA XA Q E pos x w P X
  simp only [zl1] at w
  exact wpAny_items_nil (P [] [] H s w trivial x)
theorem sl_cons {e : Expr} {r : List Expr} {c d : C} (hs : ∀ env, starEach (e :: r) env = (false, eval e env) :: starEach r env) (he : SE g sc e c) (hr : SLn g sc r d) : SLn g sc (e :: r) (.cons c d) := by
  refine ⟨fun env pos => by rw [hs]; exact hr.1 env pos, ?_⟩
  intro n Γ loc H s QA XA Q E pos x w P X
  simp only [zl2] at w
  refine wpAny_items_cons (he n Γ loc H s _ XA _ E x w (fun v cv H₁ s₁ w₁ r₁ x₁ => ?_) X) (hs _)
  exact hr.2 n Γ loc H₁ s₁ _ XA _ E pos x₁ w₁ (fun vs cvs H₂ s₂ w₂ r₂ x₂ => P (v :: vs) (cv :: cvs) H₂ s₂ w₂ ⟨r₁, r₂⟩ x₂) X

theorem sk_nil : SKw g sc [] [] .nil := by
  refine ⟨fun env pos => ⟨rfl, rfl⟩, fun n Γ loc H s QA XA Q E pos x w P X => ?_⟩
  simp only [zl1] at w
  exact wpAny_evalAll_nil (P [] [] H s w trivial x)
theorem sk_cons {nm : String} {e : Expr} {kp : Pos} {r : List Keyword} {ns : List String} {c d : C} (he : SE g sc e c) (hr : SKw g sc r ns d) : SKw g sc (⟨some (Str.ofString nm), e, kp⟩ :: r) (nm :: ns) (.cons c d) := by
  refine ⟨fun env pos => ?_, fun n Γ loc H s QA XA Q E pos x w P X => ?_⟩
  · obtain ⟨h1, h2⟩ := hr.1 env pos
    refine ⟨?_, ?_⟩
    · show Str.ofString nm :: (backToKw pos (keywordEach r env)).filterMap (·.1) = _; rw [h1]; rfl
    · show (true && (backToKw pos (keywordEach r env)).all (·.1.isSome)) = true; rw [h2]; rfl
  · simp only [zl2] at w
    refine wpAny_evalAll_cons (x := (do let v ← eval e Γ.env; standAt pos; pure v)) ?_
    refine wpAny_bind (he n Γ loc H s _ XA _ E x w (fun v cv H₁ s₁ w₁ r₁ x₁ => wpAny_bind (wpAny_standAt (wpAny_pure ?_))) X)
    exact hr.2 n Γ loc H₁ s₁ _ XA _ E pos x₁ w₁ (fun vs cvs H₂ s₂ w₂ r₂ x₂ => P (v :: vs) (cv :: cvs) H₂ s₂ w₂ ⟨r₁, r₂⟩ x₂) X

theorem so_none : SO g sc none (.lit .none) := by
  intro n Γ loc H s QA XA Q E x w P X
  simp only [ze1] at w
  rw [evalPart_none]; exact wpAny_pure (P .none .none H s w trivial x)
theorem so_some {e : Expr} {c : C} (he : SE g sc e c) : SO g sc (some e) c := by
  intro n Γ loc H s QA XA Q E x w P X
  rw [evalPart_some]; exact he n Γ loc H s QA XA Q E x w P X

theorem st_not {e : Expr} {c : C} {pos : Pos} (he : ST g sc e c) : ST g sc (.UnaryOp .Not e pos) (.not c) := by
  intro n Γ loc H s QA XA Q E x w P X
  simp only [zt4] at w
  exact wpAny_isTrue_Not (he n Γ loc H s _ XA _ E x w (fun b H₁ s₁ w₁ x₁ => P _ _ _ w₁ x₁) X)
theorem st_val {e : Expr} {c : C} (hb : ∀ env whole, isTrue e env whole = (do let v ← whole; standAt e.pos; holding [v] (truthy v))) (he : SE g sc e c) : ST g sc e (.val c) := by
  intro n Γ loc H s QA XA Q E x w P X
  simp only [zt5] at w
  refine wpAny_isTrue_value (he n Γ loc H s _ XA _ E x w (fun v cv H₁ s₁ w₁ r₁ x₁ => ?_) X) (hb _ _)
  exact wpAny_with_toks (n := 1) x₁.tk (sound_truth w₁ r₁ fun r tk hq t => P r H₁ _ hq (x₁.next (x₁.sc.toks tk) t))
theorem st_and {es : List Expr} {c : C} {pos : Pos} (he : SA g sc es c) : ST g sc (.BoolOp .And es pos) (.and c) := by
  intro n Γ loc H s QA XA Q E x w P X
  simp only [zt2] at w
  exact wpAny_isTrue_BoolOp (he n Γ loc H s _ XA _ E x w P X)
theorem st_or {es : List Expr} {c : C} {pos : Pos} (he : SOr g sc es c) : ST g sc (.BoolOp .Or es pos) (.or c) := by
  intro n Γ loc H s QA XA Q E x w P X
  simp only [zt3] at w
  exact wpAny_isTrue_BoolOp (he n Γ loc H s _ XA _ E x w P X)
theorem sa_nil : SA g sc [] .nil := by
  intro n Γ loc H s QA XA Q E x w P X
  simp only [za1] at w
  exact wpAny_allTrue_And_nil (P _ _ _ w x)
theorem sa_cons {e : Expr} {es : List Expr} {c d : C} (he : ST g sc e c) (hr : SA g sc es d) : SA g sc (e :: es) (.cons c d) := by
  intro n Γ loc H s QA XA Q E x w P X
  simp only [za2] at w
  refine wpAny_allTrue_And_cons (he n Γ loc H s _ XA _ E x w (fun b H₁ s₁ w₁ x₁ => ?_) X)
  cases b with
  | true => rw [if_pos rfl] at w₁ ⊢; exact hr n Γ loc H₁ _ _ XA _ E x₁ w₁ P X
  | false => rw [if_neg (by decide)] at w₁ ⊢; exact P _ _ _ w₁ x₁
theorem so_nil : SOr g sc [] .nil := by
  intro n Γ loc H s QA XA Q E x w P X
  simp only [zo1] at w
  exact wpAny_allTrue_Or_nil (P _ _ _ w x)
theorem so_cons {e : Expr} {es : List Expr} {c d : C} (he : ST g sc e c) (hr : SOr g sc es d) : SOr g sc (e :: es) (.cons c d) := by
  intro n Γ loc H s QA XA Q E x w P X
  simp only [zo2] at w
  refine wpAny_allTrue_Or_cons (he n Γ loc H s _ XA _ E x w (fun b H₁ s₁ w₁ x₁ => ?_) X)
  cases b with
  | true => rw [if_pos rfl] at w₁ ⊢; exact P _ _ _ w₁ x₁
  | false => rw [if_neg (by decide)] at w₁ ⊢; exact hr n Γ loc H₁ _ _ XA _ E x₁ w₁ P X

/-- evaluated arguments -/
theorem args_of {es : List Expr} {ca : C} (ha : SLn g sc es ca) {f : Value} {pos : Pos} {QA : List V → AHeap → Prop} {XA : AHeap → Prop} {Q : Args → Shared → Prop} {E : Value → Shared → Prop} (x : St g n sc Γ loc H s) (w : wpL g n loc ca QA XA H)
    (P : ∀ vs cvs H' s', QA vs H' → vrels cvs vs → St g n sc Γ loc H' s' → Q ⟨cvs, []⟩ s') (X : XPost g Γ XA E) : wpAny (model g.prog g.w) Γ.A (evalArgs f true (backTo pos (starEach es Γ.env)) []) Q E s := by
  have hp := ha.1 Γ.env pos
  have h := ha.2 n Γ loc H s QA XA (fun cvs s' => Q ⟨cvs, []⟩ s') E pos x w P X
  revert h hp
  generalize backTo pos (starEach es Γ.env) = l
  intro hp h
  cases l with
  | nil =>
    unfold evalArgs
    show wpAny _ _ (spliced [] >>= _) Q E s
    refine wpAny_bind (wpAny_mono h (fun vs s' h' => ?_) fun _ _ z => z)
    refine wpAny_bind (wpAny_pure ?_)
    refine wpAny_holding ?_
    exact wpAny_bind (wpAny_pure (wpAny_bind (wpAny_pure (wpAny_pure h'))))
  | cons p r =>
    obtain ⟨b, m⟩ := p
    cases b with
    | true => simp at hp
    | false => exact evalArgs_plain h
end Mine
end

section
set_option genSizeOf false
set_option genSizeOfSpec false
open PySem PySem.W PyProof.Rows PySem.Calls
set_option Elab.async false
set_option maxRecDepth 100000
set_option linter.unusedVariables false
set_option linter.unusedSimpArgs false
namespace Mine
variable {g : G} {Γ : Cx} {loc : Loc} {H : AHeap} {n : Nat} {s : Shared} {sc : Sc}

theorem keeps_B {M : Model} (v : Value) (hv : (∀ a, v ≠ .ref a)) (h : Heap) : ∃ k, (k = Keeper.frame ∨ k = Keeper.machine ∨ k = Keeper.boundFrame) ∧ Looks M h (keeperOf v) k :=
  ⟨.machine, .inr (.inl rfl), Looks.of_pure (by cases v <;> first | rfl | exact absurd rfl (hv _))⟩

/-- a call of something by its name, without words -/
theorem call_args {es : List Expr} {ca : C} (ha : SLn g sc es ca) {f : Value} {pos : Pos} {first : List Value} {QA : List V → AHeap → Prop} {XA : AHeap → Prop} {Q : Value → Shared → Prop} {E : Value → Shared → Prop} (x : St g n sc Γ loc H s) (w : wpL g n loc ca QA XA H)
    (hk : (∀ a, f ≠ .ref a) ∨ (g.K.In g.base ∧ keepIn g.K f = true))
    (P : ∀ vs cvs H' s', QA vs H' → vrels cvs vs → St g n sc Γ loc H' s' → wpAny (model g.prog g.w) Γ.A (call f (first ++ cvs)) Q E s') (X : XPost g Γ XA E) :
    wpAny (model g.prog g.w) Γ.A (callWith pos f first (backTo pos (starEach es Γ.env)) []) Q E s := by
  refine callWith_of (P := fun h => g.base.StaysIn h) (by rw [ha.1]; rfl) (fun h k => ?_) (args_of ha x w (fun vs cvs H' s' q r y => ⟨y.sc.cc.stay, P vs cvs H' s' q r y⟩) X)
  rcases hk with hk | ⟨hk, hk'⟩
  · exact keeps_B f hk h
  · exact keeps_K hk' h (hk.keeps k)

theorem se_call (G : GOk g) {y : Str} {np pos : Pos} {es : List Expr} {ca : C} {f : String} (hg : (!isGlob sc y) = false) (hf : g.fns.lookup y = some f) (ha : SLn g sc es ca) : SE g sc (.Call (.Name y np) es [] pos) (.call f ca) := by
  intro n Γ loc H s QA XA Q E x w P X
  simp only [ze8] at w
  obtain ⟨hk, hd⟩ := isGlob_kind hg
  obtain ⟨h1, h2⟩ := G.fn y f hf
  show wpAny _ _ (eval (.Name y np) Γ.env >>= fun fv => callWith pos fv [] (backTo pos (starEach es Γ.env)) []) Q E s
  refine wpAny_bind (ev_glob G x hk hd h1 ?_)
  refine call_args ha x w (.inr ⟨G.KX, h2⟩) (fun vs cvs H₁ s₁ w₁ r₁ x₁ => ?_) X
  refine wpAny_with_toks (n := 1) x₁.tk (w₁ Γ loc s₁ cvs _ _ x₁.ok x₁.sc x₁.tk r₁ (fun v cv H' s' hq r y t => P v cv H' s' hq r (x₁.next y t)) (fun e H' s' hx ec _ => X e H' s' hx ec))

theorem se_new (G : GOk g) {y : Str} {np pos : Pos} {es : List Expr} {ca : C} {c : String} (hg : (!isGlob sc y) = false) (hf : g.cl.lookup y = some c) (ha : SLn g sc es ca) : SE g sc (.Call (.Name y np) es [] pos) (.new c ca [] .nil) := by
  intro n Γ loc H s QA XA Q E x w P X
  simp only [ze9] at w
  obtain ⟨hk, hd⟩ := isGlob_kind hg
  obtain ⟨h1, h2⟩ := G.clv y c hf
  show wpAny _ _ (eval (.Name y np) Γ.env >>= fun fv => callWith pos fv [] (backTo pos (starEach es Γ.env)) []) Q E s
  refine wpAny_bind (ev_glob G x hk hd h1 ?_)
  refine call_args ha x w (.inr ⟨G.KX, h2⟩) (fun vs cvs H₁ s₁ w₁ r₁ x₁ => ?_) X
  simp only [zl1] at w₁
  exact wpAny_with_toks (n := 1) x₁.tk (w₁ Γ loc s₁ cvs [] _ _ x₁.ok x₁.sc x₁.tk r₁ trivial (fun v cv H' s' hq r y t => P v cv H' s' hq r (x₁.next y t)) (fun e H' s' hx ec _ => X e H' s' hx ec))

theorem se_newK (G : GOk g) {y : Str} {np pos : Pos} {kws : List Keyword} {ns : List String} {ck : C} {c : String} (hg : (!isGlob sc y) = false) (hf : g.cl.lookup y = some c) (hk : SKw g sc kws ns ck) : SE g sc (.Call (.Name y np) [] kws pos) (.new c .nil ns ck) := by
  intro n Γ loc H s QA XA Q E x w P X
  simp only [ze9, zl1] at w
  obtain ⟨hkd, hd⟩ := isGlob_kind hg
  obtain ⟨h1, h2⟩ := G.clv y c hf
  obtain ⟨k1, k2⟩ := hk.1 Γ.env pos
  show wpAny _ _ (eval (.Name y np) Γ.env >>= fun fv => callWith pos fv [] (backTo pos (starEach [] Γ.env)) (backToKw pos (keywordEach kws Γ.env))) Q E s
  refine wpAny_bind (ev_glob G x hkd hd h1 ?_)
  refine callWith_KW0 (x.sc.cc.stay |> G.KX.keeps) h2 k2 ?_ ?_
  · refine hk.2 n Γ loc H s _ XA _ E pos x w (fun vs cvs H₁ s₁ w₁ r₁ x₁ => ⟨G.KX.keeps x₁.sc.cc.stay, ?_⟩) X
    rw [k1]
    exact wpAny_with_toks (n := 1) x₁.tk (w₁ Γ loc s₁ [] cvs _ _ x₁.ok x₁.sc x₁.tk trivial r₁ (fun v cv H' s' hq r y t => P v cv H' s' hq r (x₁.next y t)) (fun e H' s' hx ec _ => X e H' s' hx ec))
  · have e : (backToKw pos (keywordEach kws Γ.env)).any (·.1.isNone) = false := by
      rw [List.any_eq_false]
      intro p hp
      have := List.all_eq_true.mp k2 p hp
      intro z
      rw [Option.isNone_iff_eq_none] at z; rw [z] at this; cases this
    rw [e]; rfl

theorem se_bi (G : GOk g) {y : Str} {np pos : Pos} {es : List Expr} {ca : C} {b : String} (hg : (!isGlob sc y) = false) (hf : biNames.lookup y = some b) (ha : SLn g sc es ca) : SE g sc (.Call (.Name y np) es [] pos) (.bi b ca) := by
  intro n Γ loc H s QA XA Q E x w P X
  simp only [ze10] at w
  obtain ⟨hk, hd⟩ := isGlob_kind hg
  have h1 := G.bi y b hf
  show wpAny _ _ (eval (.Name y np) Γ.env >>= fun fv => callWith pos fv [] (backTo pos (starEach es Γ.env)) []) Q E s
  refine wpAny_bind (ev_builtin G x hk hd h1 ?_)
  refine call_args ha x w (.inl (by intro a; unfold biV; split <;> (intro e; cases e))) (fun vs cvs H₁ s₁ w₁ r₁ x₁ => ?_) X
  exact wpAny_with_toks (n := 1) x₁.tk (sound_bi G.ro x₁.ok.hd w₁ r₁ x₁.sc fun v cv s' hq r y t => P v cv _ s' hq r (x₁.next y t))

theorem se_isi (G : GOk g) {y t : Str} {np tp pos : Pos} {e : Expr} {c : C} {ty : String} (hg : (!isGlob sc y) = false) (hy : (y == ("isinstance" : Str)) = true) (hgt : (!isGlob sc t) = false) (ht : tyNames.lookup t = some ty) (he : SE g sc e c)
    (hs : ∀ env, starEach [e, .Name t tp] env = [(false, eval e env), (false, eval (.Name t tp) env)]) : SE g sc (.Call (.Name y np) [e, .Name t tp] [] pos) (.isi c ty) := by
  intro n Γ loc H s QA XA Q E x w P X
  simp only [ze11] at w
  obtain ⟨hk, hd⟩ := isGlob_kind hg
  obtain ⟨hk', hd'⟩ := isGlob_kind hgt
  obtain rfl := eq_of_beq hy
  show wpAny _ _ (eval (.Name _ np) Γ.env >>= fun fv => callWith pos fv [] (backTo pos (starEach [e, .Name t tp] Γ.env)) []) Q E s
  refine wpAny_bind (ev_builtin G x hk hd G.isi ?_)
  rw [hs]
  refine callWith_builtin rfl (evalArgs_plain (spliced_cons (he n Γ loc H s _ XA _ E x w (fun v cv H₁ s₁ w₁ r₁ x₁ => ?_) X)))
  have fin : wpAny (model g.prog g.w) Γ.A (call (.builtin "isinstance") [cv, tyV g ty]) Q E s₁ :=
    wpAny_with_toks (n := 1) x₁.tk (sound_isi G.hK G.isR w₁ r₁ x₁.sc fun b tk hq t => P _ _ _ _ hq rfl (x₁.next (x₁.sc.toks tk) t))
  refine spliced_cons ?_
  rcases G.ty t ty ht with h1 | h1
  · exact ev_glob G x₁ hk' hd' h1 (spliced_nil fin)
  · exact ev_builtin G x₁ hk' hd' h1 (spliced_nil fin)

theorem base_of {o : Expr} {nm : Str} {env : Env} (h : isSuper o = false) : attributeBase o nm env (eval o env) = eval o env := by
  cases o <;> first | rfl | cases h

theorem meth_call {o : Expr} {name : Str} {apos pos : Pos} {args : List Expr} {env : Env} {M : Model} {A : Around} {E : Value → Shared → Prop} {Q : Value → Shared → Prop} {s : Shared}
    (hb : isSuper o = false) (hp : (backTo pos (starEach args env)).any (·.1) = false) (hn : args.length ≤ 5) (hl : (apos.endLine == pos.line) = true)
    (h : wpAny M A (eval o env) (fun ov s₁ => ∃ id, (∀ (R : Value × List Value → Shared → Prop) pl, R (.builtin id, [ov]) s₁ → wpAny M A (getMethod ov name pl) R E s₁) ∧ wpAny M A (callWith pos (.builtin id) [ov] (backTo pos (starEach args env)) []) Q E s₁) E s) :
    wpAny M A (eval (.Call (.Attribute o name apos) args [] pos) env) Q E s := by
  rw [arm_eval_Call, base_of hb]
  refine wpAny_bind (wpAny_mono h (fun ov s₁ h₁ => wpAny_bind (wpAny_standAt ?_)) fun _ _ e => e)
  obtain ⟨id, h2, h3⟩ := h₁
  have hform : methodCallForm (args.length + ([] : List Keyword).length) (backTo pos (starEach args env)) (backToKw pos (keywordEach [] env)) = true := by
    unfold methodCallForm
    rw [Bool.and_eq_true, Bool.and_eq_true]
    refine ⟨⟨?_, rfl⟩, ?_⟩
    · rw [List.all_eq_true]; intro p hp'; have := List.any_eq_false.mp hp p hp'; simpa using this
    · show decide (_ < 30) = true
      rw [decide_eq_true_iff]
      show args.length + 0 + 0 < 30
      omega
  have hpos : methodCallPos true o env apos pos = pure pos := by unfold methodCallPos; simp [hl]
  unfold methodCall
  rw [hform]
  refine wpAny_bind (wpAny_holding (h2 _ _ ?_))
  exact wpAny_bind (wpAny_of_eq hpos h3)

theorem meth_noRep {m : String} (x : Str) (h : methNames.lookup x = some m) : m ≠ "replace" ∧ x = Str.ofString m := by
  have key : ∀ l : List (Str × String), (∀ p ∈ l, p.2 ≠ "replace" ∧ p.1 = Str.ofString p.2) → ∀ m, l.lookup x = some m → m ≠ "replace" ∧ x = Str.ofString m := by
    intro l
    induction l with
    | nil => intro _ m e; cases e
    | cons p r ih =>
      intro hall m e
      obtain ⟨a, b⟩ := p
      rw [List.lookup_cons] at e
      by_cases hx : x == a
      · rw [hx] at e; cases e
        have := hall _ (.head _)
        exact ⟨this.1, (eq_of_beq hx).trans this.2⟩
      · rw [Bool.not_eq_true] at hx; rw [hx] at e
        exact ih (fun p hp => hall p (.tail _ hp)) m e
  refine key methNames ?_ m h
  intro p hp
  unfold methNames at hp
  simp only [List.mem_cons, List.not_mem_nil, or_false] at hp
  rcases hp with rfl | rfl | rfl | rfl | rfl | rfl <;> exact ⟨by decide, rfl⟩

theorem se_meth (G : GOk g) {o : Expr} {y : Str} {ap pos : Pos} {es : List Expr} {co ca : C} {m : String} (hb : isSuper o = false) (hl : (ap.endLine == pos.line) = true) (hn : es.length ≤ 5) (hm : methNames.lookup y = some m) (ho : SE g sc o co) (ha : SLn g sc es ca) :
    SE g sc (.Call (.Attribute o y ap) es [] pos) (.meth m co ca) := by
  intro n Γ loc H s QA XA Q E x w P X
  simp only [ze12] at w
  obtain ⟨hr, rfl⟩ := meth_noRep y hm
  refine meth_call hb (ha.1 _ _) hn hl (ho n Γ loc H s _ XA _ E x w (fun vo cvo H₁ s₁ w₁ r₁ x₁ => ?_) X)
  obtain ⟨hok, w₁⟩ := w₁
  refine ⟨methId vo m, fun R pl hR => ?_, ?_⟩
  · exact sound_methName hok r₁ x₁.sc hR
  · refine call_args ha x₁ w₁ (.inl (by intro a e; cases e)) (fun vs cvs H₂ s₂ w₂ r₂ x₂ => ?_) X
    exact wpAny_with_toks (n := 1) x₂.tk (sound_meth x₂.ok w₂ r₁ r₂ (fun e => absurd e hr) x₂.sc fun v cv H' s' hq r y t => P v cv H' s' hq r (x₂.next y t))

theorem se_replace (G : GOk g) {o : Expr} {y : Str} {ap pos : Pos} {a b : Str} {k1 k2 : Nat} {p1 p2 : Pos} {co : C} (hb : isSuper o = false) (hl : (ap.endLine == pos.line) = true) (hm : (y == ("replace" : Str)) = true) (ho : SE g sc o co) :
    SE g sc (.Call (.Attribute o y ap) [.Constant (.str a) k1 p1, .Constant (.str b) k2 p2] [] pos) (.meth "replace" co (.cons (.lit (.str a.cps.toList)) (.cons (.lit (.str b.cps.toList)) .nil))) := by
  intro n Γ loc H s QA XA Q E x w P X
  simp only [ze12] at w
  obtain rfl := eq_of_beq hm
  refine meth_call hb rfl (by show 2 ≤ 5; omega) hl (ho n Γ loc H s _ XA _ E x w (fun vo cvo H₁ s₁ w₁ r₁ x₁ => ?_) X)
  obtain ⟨hok, w₁⟩ := w₁
  refine ⟨methId vo "replace", fun R pl hR => sound_methName (m := "replace") hok r₁ x₁.sc hR, ?_⟩
  simp only [zl1, zl2, ze1] at w₁
  refine callWith_builtin rfl (evalArgs_plain (spliced_cons (Constant_str (k := k1) (pos := p1) (spliced_cons (Constant_str (k := k2) (pos := p2) (spliced_nil ?_))))))
  have x₂ : St g n sc Γ loc H₁ { s₁ with toks := s₁.toks + 1 + 1 } := x₁.next (x₁.sc.toks _) (by show 1 ≤ s₁.toks + 1 + 1; omega)
  have ht := x₁.tk
  refine wpAny_with_toks (n := 1) x₂.tk (sound_meth (cvs := [.str a s₁.toks, .str b (s₁.toks + 1)]) x₂.ok w₁ r₁ ⟨rfl, rfl, trivial⟩ (fun _ => ⟨a, _, b, _, rfl, ?_, ?_, ?_⟩) x₂.sc fun v cv H' s' hq r y t => P v cv H' s' hq r (x₂.next y t))
  · exact Nat.pos_iff_ne_zero.mp ht
  · exact Nat.succ_ne_zero _
  · exact Nat.ne_of_lt (Nat.lt_succ_self _)

theorem attr_name {y : Str} {a : String} (h : attrNames.lookup y = some a) : y = Str.ofString a := by
  have key : ∀ l : List String, ∀ a, (l.map fun s => (Str.ofString s, s)).lookup y = some a → y = Str.ofString a := by
    intro l
    induction l with
    | nil => intro a e; cases e
    | cons p r ih =>
      intro a e
      rw [List.map_cons, List.lookup_cons] at e
      by_cases hx : y == Str.ofString p
      · rw [hx] at e; cases e; exact eq_of_beq hx
      · rw [Bool.not_eq_true] at hx; rw [hx] at e
        exact ih a e
  exact key _ _ h

theorem se_attr (G : GOk g) {o : Expr} {y : Str} {pos : Pos} {co : C} {a : String} (hb : isSuper o = false) (hm : attrNames.lookup y = some a) (ho : SE g sc o co) : SE g sc (.Attribute o y pos) (.attr co a) := by
  intro n Γ loc H s QA XA Q E x w P X
  simp only [ze13] at w
  obtain rfl := attr_name hm
  rw [arm_eval_Attribute, base_of hb]
  refine wpAny_bind (ho n Γ loc H s _ XA _ E x w (fun vo cvo H₁ s₁ w₁ r₁ x₁ => ?_) X)
  refine wpAny_bind (wpAny_standAt (wpAny_bind (wpAny_holding ?_)))
  exact wpAny_with_toks (n := 1) x₁.tk (sound_attr G.hK G.cls w₁ r₁ x₁.sc fun v cv s' hq r y t => wpAny_bind (wpAny_letTemporaryGo (wpAny_pure (P v cv _ s' hq r (x₁.next y t)))))

theorem se_sub (G : GOk g) {o i : Expr} {pos : Pos} {co ci : C} (ho : SE g sc o co) (hi : SE g sc i ci) : SE g sc (.Subscript o i pos) (.sub co ci) := by
  intro n Γ loc H s QA XA Q E x w P X
  simp only [ze14] at w
  refine Subscript_ (ho n Γ loc H s _ XA _ E x w (fun vo cvo H₁ s₁ w₁ r₁ x₁ => ?_) X)
  refine hi n Γ loc H₁ s₁ _ XA _ E x₁ w₁ (fun vi cvi H₂ s₂ w₂ r₂ x₂ => ?_) X
  exact wpAny_with_toks (n := 1) x₂.tk (sound_sub G.ro w₂ r₁ r₂ x₂.sc fun v cv s' hq r y t => P v cv _ s' hq r (x₂.next y t))

theorem se_slice (G : GOk g) {o : Expr} {lo hi : Option Expr} {pos sp : Pos} {co cl ch : C} (ho : SE g sc o co) (hl : SO g sc lo cl) (hh : SO g sc hi ch) : SE g sc (.Subscript o (.Slice lo hi none sp) pos) (.slice co cl ch) := by
  intro n Γ loc H s QA XA Q E x w P X
  simp only [ze15] at w
  refine Subscript_ (ho n Γ loc H s _ XA _ E x w (fun vo cvo H₁ s₁ w₁ r₁ x₁ => wpAny_Slice ?_) X)
  refine hl n Γ loc H₁ s₁ _ XA _ E x₁ w₁ (fun vl cvl H₂ s₂ w₂ r₂ x₂ => ?_) X
  refine hh n Γ loc H₂ s₂ _ XA _ E x₂ w₂ (fun vh cvh H₃ s₃ w₃ r₃ x₃ => ?_) X
  rw [evalPart_none]
  refine wpAny_pure ?_
  exact wpAny_with_toks (n := 1) x₃.tk (sound_slice G.ro x₃.ok w₃ r₁ r₂ r₃ x₃.sc fun v cv H' s' hq r y t => P v cv H' s' hq r (x₃.next y t))

theorem sc_list {vs : List V} {cvs : Array Value} (hΓ : Γ.Ok g n) (x : SC g Γ loc H s) (r : vrels cvs.toList vs) : SC g Γ loc (upd H s.heap.objs.size (.list vs)) { s with heap := s.heap.push { cls := .type "list", data := .seq cvs } } :=
  x.heap (tk := s.toks) (x.cc.alloc hΓ rfl (show ORel g _ (.list vs) from ⟨cvs, 0, rfl, r⟩))
theorem sc_tup {vs : List V} {cvs : Array Value} (hΓ : Γ.Ok g n) (x : SC g Γ loc H s) (r : vrels cvs.toList vs) : SC g Γ loc (upd H s.heap.objs.size (.tup vs)) { s with heap := s.heap.push { cls := .type "tuple", data := .seq cvs } } :=
  x.heap (tk := s.toks) (x.cc.alloc hΓ rfl (show ORel g _ (.tup vs) from ⟨rfl, cvs, 0, rfl, r⟩))

theorem se_list {es : List Expr} {pos : Pos} {ca : C} (ha : SLn g sc es ca) : SE g sc (.List es pos) (.list ca) := by
  intro n Γ loc H s QA XA Q E x w P X
  simp only [ze16] at w
  refine wpAny_List (ha.2 n Γ loc H s _ XA _ E pos x w (fun vs cvs H₁ s₁ w₁ r₁ x₁ => ⟨?_, ?_⟩) X)
  · rw [vrels_len r₁]; exact Nat.le_trans w₁.1 lim_le
  · exact P _ _ _ _ (w₁.2 _ (x₁.sc.cc.noH get_size_none)) rfl (x₁.next (sc_list x₁.ok x₁.sc (by simpa using r₁)) x₁.tk)
theorem se_tup {es : List Expr} {pos : Pos} {k : Nat} {ca : C} (ha : SLn g sc es ca) : SE g sc (.Tuple es k pos) (.tup ca) := by
  intro n Γ loc H s QA XA Q E x w P X
  simp only [ze17] at w
  refine wpAny_Tuple (ha.2 n Γ loc H s _ XA _ E pos x w (fun vs cvs H₁ s₁ w₁ r₁ x₁ => ⟨?_, ?_⟩) X)
  · rw [vrels_len r₁]; exact Nat.le_trans w₁.1 lim_le
  · exact P _ _ _ _ (w₁.2 _ (x₁.sc.cc.noH get_size_none)) rfl (x₁.next (sc_tup x₁.ok x₁.sc (by simpa using r₁)) x₁.tk)
end Mine
end

section
set_option genSizeOf false
set_option genSizeOfSpec false
open PySem PySem.W PyProof.Rows PySem.Calls
set_option Elab.async false
set_option maxRecDepth 100000
set_option linter.unusedVariables false
set_option linter.unusedSimpArgs false
namespace Mine
variable {g : G} {Γ : Cx} {loc : Loc} {H : AHeap} {n : Nat} {s : Shared} {sc : Sc}

/-- an iterator that stands before the `k`-th item -/
inductive Iter (h : Heap) (it : Addr) : List V → Option Addr → Nat → Prop
  | list {l items k} : h.IsListIter it l k → Iter h it items (some l) k
  | text {x : List Nat} {ty t k} : ty = "str_ascii_iterator" ∨ ty = "str_iterator" → h.IsStrIter it ty ⟨x.toArray⟩ t k → Iter h it (x.map fun c => .str [c]) none k
  | range {m k : Nat} : IsRangeIter h it k ((m : Int) - k) 1 → Iter h it ((List.range m).map fun i => .int (i : Nat)) none k

theorem Iter.at {h h' : Heap} {it : Addr} {items : List V} {src : Option Addr} {k : Nat} (x : Iter h it items src k) (e : ∀ o, h.get? it = some o → h'.get? it = some o) : Iter h' it items src k := by
  cases x with
  | list q => obtain ⟨o, ho, r⟩ := q; exact .list ⟨o, e _ ho, r⟩
  | text hy q => obtain ⟨o, ho, r⟩ := q; exact .text hy ⟨o, e _ ho, r⟩
  | range q => exact .range (e _ q)
theorem Iter.some {h : Heap} {it : Addr} {items : List V} {src : Option Addr} {k : Nat} (x : Iter h it items src k) : ∃ o, h.get? it = some o := by
  cases x with
  | list q => obtain ⟨o, ho, r⟩ := q; exact ⟨o, ho⟩
  | text hy q => obtain ⟨o, ho, r⟩ := q; exact ⟨o, ho⟩
  | range q => exact ⟨_, q⟩

section
variable {A : Around} {E : Value → Shared → Prop}
theorem iter_next {it : Addr} {items : List V} {src : Option Addr} {k : Nat} {v : V} {Q : Option Value → Shared → Prop} (x : SC g Γ loc H s) (I : Iter s.heap it items src k) (hs : srcOk src items H) (hv : items[k]? = some v)
    (hQ : ∀ cv h' tk, vrel cv v → Iter h' it items src (k + 1) → Heap.SameBut it s.heap h' → Q (some cv) { s with heap := h', toks := tk }) : wpAny (model g.prog g.w) A (pyNext (.ref it)) Q E s := by
  cases I with
  | @list l _ _ q =>
    obtain ⟨cvs, hl, rr⟩ := led_list x hs
    obtain ⟨cv, hc, r⟩ := vrels_get rr hv
    exact wpAny_pyNext_list_item q hl (by simpa using hc) fun h' y z => hQ cv h' s.toks r (.list y) z
  | @text l ty t _ hy q =>
    rw [List.getElem?_map] at hv
    obtain ⟨c, hc, rfl⟩ := Option.map_eq_some_iff.mp hv
    rcases hy with rfl | rfl
    · exact wpAny_pyNext_ascii_item q (c := c) (by simpa using hc) fun h' y z => hQ _ h' _ rfl (.text (.inl rfl) y) z
    · exact wpAny_pyNext_wide_item q (c := c) (by simpa using hc) fun h' y z => hQ _ h' _ rfl (.text (.inr rfl) y) z
  | @range m _ q =>
    rw [List.getElem?_map] at hv
    obtain ⟨i, hi, rfl⟩ := Option.map_eq_some_iff.mp hv
    obtain ⟨h1, h2⟩ := List.getElem?_eq_some_iff.mp hi
    rw [List.getElem_range] at h2
    subst h2
    have : k < m := by simpa using h1
    refine wpAny_pyNext_range_item q (by omega) fun h' y z => hQ _ h' _ rfl (.range ?_) z
    have e : (m : Int) - k - 1 = m - (k + 1 : Nat) := by omega
    rw [e] at y
    exact y

theorem iter_end {it : Addr} {items : List V} {src : Option Addr} {k : Nat} {Q : Option Value → Shared → Prop} (hh : A.handled = none) (x : SC g Γ loc H s) (I : Iter s.heap it items src k) (hs : srcOk src items H) (hv : k = items.length)
    (hQ : ∀ h', Heap.ExtBut it s.heap h' → Q none { s with heap := h' }) : wpAny (model g.prog g.w) A (pyNext (.ref it)) Q E s := by
  subst hv
  cases I with
  | @list l _ _ q =>
    obtain ⟨cvs, hl, rr⟩ := led_list x hs
    exact wpAny_pyNext_list_end hh q hl (Array.getElem?_eq_none (by rw [sizeL rr]; exact Nat.le_refl _)) hQ
  | @text l ty t _ hy q =>
    rcases hy with rfl | rfl
    · exact wpAny_pyNext_ascii_end hh q (Array.getElem?_eq_none (by simp)) hQ
    · exact wpAny_pyNext_wide_end hh q (Array.getElem?_eq_none (by simp)) hQ
  | @range m _ q => exact wpAny_pyNext_range_end hh q (by simp) hQ
end

def SI (g : G) (sc : Sc) (e : Expr) (c : C) : Prop := (∀ env x, foldedSetIterable e env x = pure x) ∧ ∀ n Γ loc H s QA XA Q E, St g n sc Γ loc H s → wpI g n loc c QA XA H →
  (∀ items src a H' s', QA items src H' → St g n sc Γ loc H' s' → Iter s'.heap a items src 0 → Oth g Γ H' a → (∀ l, src = some l → H' l = some (.list items)) → Q (.ref a) s') → XPost g Γ XA E →
  wpAny (model g.prog g.w) Γ.A (eval e Γ.env) (fun x s₁ => wpAny (model g.prog g.w) Γ.A (pyIter x) Q E s₁) E s

theorem sc_oth (x : St g n sc Γ loc H s) (o : Obj) : St g n sc Γ loc H { s with heap := s.heap.push o } ∧ Oth g Γ H s.heap.objs.size :=
  ⟨⟨x.ok, x.nm, ⟨x.sc.cc.push o, x.sc.os, x.sc.gens⟩, x.tk⟩, .fresh x.ok x.sc.cc get_size_none⟩

theorem si_val {e : Expr} {c : C} (hf : ∀ env x, foldedSetIterable e env x = pure x) (he : SE g sc e c) : SI g sc e (.val c) := by
  refine ⟨hf, fun n Γ loc H s QA XA Q E x w P X => ?_⟩
  simp only [zi2] at w
  refine he n Γ loc H s _ XA _ E x w (fun v cv H₁ s₁ w₁ r₁ x₁ => ?_) X
  unfold itemsK at w₁
  split at w₁
  · obtain ⟨t, rfl⟩ := vrel_str r₁
    obtain ⟨y, O⟩ := sc_oth x₁ { cls := .type "str_ascii_iterator", data := .fields #[.str ⟨List.toArray ‹List Nat›⟩ t, .int 0 0] }
    obtain ⟨y', O'⟩ := sc_oth x₁ { cls := .type "str_iterator", data := .fields #[.str ⟨List.toArray ‹List Nat›⟩ t, .int 0 0] }
    cases ha : Array.all (List.toArray ‹List Nat›) (· < 128) with
    | true => exact wpAny_pyIter_ascii ha (P _ _ _ _ _ w₁.2 y (.text (.inl rfl) ⟨_, Heap.get?_push_size _ rfl, rfl, rfl⟩) O (fun _ e => by cases e))
    | false => exact wpAny_pyIter_wide ha (P _ _ _ _ _ w₁.2 y' (.text (.inr rfl) ⟨_, Heap.get?_push_size _ rfl, rfl, rfl⟩) O (fun _ e => by cases e))
  · obtain rfl := vrel_ref r₁
    obtain ⟨vs, e, hl, hq⟩ := w₁
    obtain ⟨cvs, l, rr⟩ := led_list x₁.sc e
    obtain ⟨y, O⟩ := sc_oth x₁ { cls := .type "list_iterator", data := .fields #[.ref ‹Addr›, .int 0 0] }
    exact wpAny_pyIter_list l (P _ _ _ _ _ hq y (.list ⟨_, Heap.get?_push_size _ rfl, rfl, rfl⟩) O (by rintro _ ⟨⟩; exact e))
  · exact w₁.elim

theorem small_range {k : Int} (h1 : -lim ≤ k) (h2 : k ≤ lim) : Builtin.Range.small 0 k 1 = true ∧ Builtin.Range.rangeSize 0 k 1 = (k.toNat : Int) := by
  unfold lim at h1 h2
  have e : Builtin.Range.rangeSize 0 k 1 = (k.toNat : Int) := by
    unfold Builtin.Range.rangeSize
    simp
    split <;> omega
  refine ⟨?_, e⟩
  unfold Builtin.Range.small
  rw [e]
  simp [Builtin.Range.rangeFitsLong]
  omega

theorem rangeIter_new (h : Heap) (m : Nat) : IsRangeIter (h.push { cls := .type "range_iterator", data := .fields #[rawInt 0, rawInt (m : Int), rawInt 1] }) h.objs.size ((0 : Nat) : Int) ((m : Int) - (0 : Nat)) 1 := by
  have e : ((m : Int) - (0 : Nat)) = m := by exact (rfl)
  rw [e]
  exact Heap.get?_push_size _ rfl

theorem si_range (G : GOk g) {y : Str} {np pos : Pos} {e : Expr} {c : C} (hg : (!isGlob sc y) = false) (hy : (y == ("range" : Str)) = true) (he : SE g sc e c) (hs : ∀ env, starEach [e] env = [(false, eval e env)]) : SI g sc (.Call (.Name y np) [e] [] pos) (.range c) := by
  refine ⟨fun _ _ => rfl, fun n Γ loc H s QA XA Q E x w P X => ?_⟩
  simp only [zi1] at w
  obtain ⟨hk, hd⟩ := isGlob_kind hg
  obtain rfl := eq_of_beq hy
  show wpAny _ _ (eval (.Name _ np) Γ.env >>= fun fv => callWith pos fv [] (backTo pos (starEach [e] Γ.env)) []) _ E s
  refine wpAny_bind (ev_builtin G x hk hd G.rng ?_)
  refine callWith_of (P := fun _ => True) (by rw [hs]; rfl) (fun h _ => keeps_B _ (by intro a e; cases e) h) ?_
  rw [hs]
  refine evalArgs_plain (spliced_cons (he n Γ loc H s _ XA _ E x w (fun v cv H₁ s₁ w₁ r₁ x₁ => spliced_nil ⟨trivial, ?_⟩) X))
  split at w₁
  · obtain ⟨t, rfl⟩ := vrel_int r₁
    obtain ⟨h1, h2, hq⟩ := w₁
    obtain ⟨e1, e2⟩ := small_range h1 h2
    refine call_range_1 ?_
    have x₂ : St g n sc Γ loc H₁ { s₁ with toks := s₁.toks + 1 + 1 } := ⟨x₁.ok, x₁.nm, x₁.sc.toks _, Nat.succ_pos _⟩
    obtain ⟨y, -⟩ := sc_oth x₂ { cls := .type "range", data := .fields #[.int 0 s₁.toks, .int _ t, .int 1 (s₁.toks + 1)] }
    refine wpAny_pyIter_range (IsRange.new _ _ _ _ _ _ _) e1 ?_
    rw [e2]
    obtain ⟨y₂, O⟩ := sc_oth y { cls := .type "range_iterator", data := .fields #[rawInt 0, rawInt ((Int.toNat _ : Nat) : Int), rawInt 1] }
    exact P _ none _ _ _ hq y₂ (.range (rangeIter_new _ _)) O (fun _ e => by cases e)
  · exact w₁.elim
end Mine
end

section
set_option genSizeOf false
set_option genSizeOfSpec false
open PySem PySem.W PyProof.Rows PySem.Calls
set_option Elab.async false
set_option maxRecDepth 100000
set_option linter.unusedVariables false
set_option linter.unusedSimpArgs false
namespace Mine
variable {g : G} {Γ : Cx} {loc : Loc} {H : AHeap} {n : Nat} {s : Shared} {sc : Sc}

noncomputable def clF (env : Env) : List (Str × NameKind) → List (Str × Addr) → List (Str × Addr)
  | [], acc => acc
  | (x, k) :: r, acc => if k == .free then clF env r ((x, (env.cells.lookup x).getD 0) :: acc) else clF env r acc

theorem closure_eq {scope : Scope} {env : Env} (h : ∀ x, (x, NameKind.free) ∈ scope.names → ∃ c, env.cells.lookup x = some c) : closureFor scope env = pure (clF env scope.names []) := by
  have key : ∀ (l : List (Str × NameKind)) (acc : List (Str × Addr)), (∀ x, (x, NameKind.free) ∈ l → ∃ c, env.cells.lookup x = some c) →
      (forIn l acc (fun x (r : List (Str × Addr)) => match x with
        | (name, kind) => if (kind == NameKind.free) = true then do let y ← cellOf env name; pure (ForInStep.yield ((name, y) :: r)) else pure (ForInStep.yield r)) : Sem _) = pure (clF env l acc) := by
    intro l
    induction l with
    | nil => intro acc _; rfl
    | cons p r ih =>
      intro acc hx
      obtain ⟨x, k⟩ := p
      rw [List.forIn_cons]
      dsimp only
      unfold clF
      by_cases hk : (k == NameKind.free) = true
      · rw [if_pos hk, if_pos hk]
        obtain rfl := eq_of_beq hk
        obtain ⟨c, hc⟩ := hx x (.head _)
        have e : cellOf env x = pure c := by unfold cellOf; rw [hc]
        rw [e, hc]
        exact ih _ (fun y hy => hx y (.tail _ hy))
      · rw [if_neg hk, if_neg hk]
        exact ih _ (fun y hy => hx y (.tail _ hy))
  have := key scope.names [] h
  unfold closureFor
  simp only [bind_pure_comp] at this ⊢
  first | (rw [this]; rfl) | (refine Eq.trans ?_ this; rfl) | skip

theorem clF_mem {env : Env} : ∀ {l : List (Str × NameKind)} {acc : List (Str × Addr)} {p : Str × Addr}, p ∈ clF env l acc → p ∈ acc ∨ ((p.1, NameKind.free) ∈ l ∧ p.2 = (env.cells.lookup p.1).getD 0)
  | [], _, _, h => .inl h
  | (x, k) :: r, acc, p, h => by
    unfold clF at h
    split at h
    · rename_i hk
      obtain rfl := eq_of_beq hk
      rcases clF_mem h with h | ⟨h1, h2⟩
      · rcases List.mem_cons.mp h with rfl | h
        · exact .inr ⟨.head _, rfl⟩
        · exact .inl h
      · exact .inr ⟨.tail _ h1, h2⟩
    · rcases clF_mem h with h | ⟨h1, h2⟩
      · exact .inl h
      · exact .inr ⟨.tail _ h1, h2⟩
theorem clF_acc {env : Env} : ∀ {l : List (Str × NameKind)} {acc : List (Str × Addr)} {p : Str × Addr}, p ∈ acc → p ∈ clF env l acc
  | [], _, _, h => h
  | (x, k) :: r, acc, p, h => by
    unfold clF
    split
    · exact clF_acc (.tail _ h)
    · exact clF_acc h
theorem clF_has {env : Env} : ∀ {l : List (Str × NameKind)} {acc : List (Str × Addr)} {x : Str}, (x, NameKind.free) ∈ l → (x, (env.cells.lookup x).getD 0) ∈ clF env l acc
  | (y, k) :: r, acc, x, h => by
    unfold clF
    rcases List.mem_cons.mp h with h | h
    · cases h
      rw [if_pos (by rfl)]
      exact clF_acc (.head _)
    · split <;> exact clF_has h
theorem clF_keys {env : Env} : ∀ (l : List (Str × NameKind)) (acc : List (Str × Addr)), (clF env l acc).map (·.1) = ((l.filter (·.2 == .free)).map (·.1)).reverse ++ acc.map (·.1)
  | [], _ => rfl
  | (x, k) :: r, acc => by
    unfold clF
    split
    · rename_i hk
      rw [clF_keys, List.filter_cons, if_pos (by exact hk)]
      simp
    · rename_i hk
      rw [clF_keys, List.filter_cons, if_neg (by exact hk)]

theorem relab_eq {scope : Scope} {env : Env} (hk : env.scope.kind = .function) {names : List (Str × NameKind)} (hn : env.scope.names = names) : (relabel scope env).names = relab names scope.names := by
  unfold relabel relab
  dsimp only
  refine List.map_congr_left fun p hp => ?_
  obtain ⟨x, k⟩ := p
  dsimp only
  unfold Env.kindOf
  rw [hk, hn]
  cases k <;> simp

/-- the frame of a comprehension's block -/
noncomputable def Cx.comp (Γ : Cx) (scope : Scope) (h : Heap) (H : AHeap) (P : Addr → Prop) : Cx :=
  { Γ with env := compEnvC scope (clF Γ.env scope.names []) h.objs.size Γ.env, h₀ := h, mu := fun a => (∃ o, H a = some o) ∨ P a, own := [] }

structure CompOk (sc : Sc) (scope : Scope) : Prop where
  kind : scope.kind = .function
  known : ∀ p ∈ scope.names, p.2 = .local ∨ p.2 = .free ∨ p.2 = .globalImplicit
  nofree : ∀ p ∈ relab sc.names scope.names, p.2 ≠ .free
  nd : ((relab sc.names scope.names).map (·.1)).Nodup

theorem relab_map (o l : List (Str × NameKind)) : (relab o l).map (·.1) = l.map (·.1) := by
  unfold relab
  rw [List.map_map]
  refine List.map_congr_left fun p _ => ?_
  obtain ⟨x, k⟩ := p
  dsimp only [Function.comp]
  split <;> rfl

theorem relab_free {sc : Sc} {scope : Scope} (O : CompOk sc scope) {x : Str} (h : (x, NameKind.free) ∈ scope.names) : sc.kind x = some .cell := by
  have hm : (if NameKind.free == .free && sc.names.lookup x == some .cell then (x, NameKind.cell) else (x, NameKind.free)) ∈ relab sc.names scope.names := List.mem_map.mpr ⟨_, h, rfl⟩
  have := O.nofree _ hm
  split at this
  · rename_i hc
    rw [Bool.and_eq_true] at hc
    exact beq_iff_eq.mp hc.2
  · exact absurd rfl this
theorem relab_cell {sc : Sc} {scope : Scope} (O : CompOk sc scope) {x : Str} (h : (x, NameKind.cell) ∈ relab sc.names scope.names) : (x, NameKind.free) ∈ scope.names := by
  obtain ⟨⟨y, k⟩, hp, e⟩ := List.mem_map.mp h
  dsimp only at e
  split at e
  · rename_i hc
    rw [Bool.and_eq_true] at hc
    cases e
    obtain rfl := beq_iff_eq.mp hc.1
    exact hp
  · cases e
    rcases O.known _ hp with h | h | h <;> cases h
theorem relab_local {sc : Sc} {scope : Scope} {x : Str} (h : (x, NameKind.local) ∈ relab sc.names scope.names) : (x, NameKind.local) ∈ scope.names := by
  obtain ⟨⟨y, k⟩, hp, e⟩ := List.mem_map.mp h
  dsimp only at e
  split at e
  · cases e
  · cases e; exact hp

/-- a cell of the surrounding frame, by its name -/
theorem cell_slot (x : St g n sc Γ loc H s) {y : Str} (h : sc.kind y = some .cell) : ∃ i c ov, sc.slot y = some i ∧ Γ.env.scope.names[i]? = some (y, .cell) ∧ Γ.env.cells.lookup y = some c ∧ s.heap.IsCell c ov ∧ ∀ v, loc[i]? = some (some v) → ∃ cv, ov = some cv ∧ vrel cv v := by
  have hex : ∃ i, sc.slot y = some i := by
    have : ∀ l : List (Str × NameKind), l.lookup y = some .cell → ∃ i, l.findIdx? (·.1 == y) = some i := by
      intro l
      induction l with
      | nil => intro h; cases h
      | cons p r ih =>
        obtain ⟨z, k⟩ := p
        intro h
        rw [List.lookup_cons] at h
        rw [List.findIdx?_cons]
        by_cases hz : z = y
        · exact ⟨0, by simp [hz]⟩
        · rw [show (y == z) = false from by simpa using fun e => hz e.symm] at h
          obtain ⟨i, hi⟩ := ih h
          exact ⟨i + 1, by simp [hz, hi]⟩
    exact this _ h
  obtain ⟨i, hi⟩ := hex
  have hs := slot_at h hi
  obtain ⟨c, ov, h1, h2, h3⟩ := x.sc.cc.cel i y (by rw [x.nm]; exact hs)
  exact ⟨i, c, ov, hi, by rw [x.nm]; exact hs, h1, h2, h3⟩

theorem comp_cells (x : St g n sc Γ loc H s) {scope : Scope} (O : CompOk sc scope) {p : Str × Addr} (h : p ∈ clF Γ.env scope.names []) : (p.1, NameKind.free) ∈ scope.names ∧ Γ.env.cells.lookup p.1 = some p.2 := by
  rcases clF_mem h with h | ⟨h1, h2⟩
  · cases h
  · obtain ⟨i, c, ov, _, _, hc, _⟩ := cell_slot x (relab_free O h1)
    rw [hc] at h2
    exact ⟨h1, by rw [hc, h2]; rfl⟩
theorem comp_lookup (x : St g n sc Γ loc H s) {scope : Scope} (O : CompOk sc scope) {y : Str} (h : (y, NameKind.free) ∈ scope.names) : ∃ c, (clF Γ.env scope.names []).lookup y = some c ∧ Γ.env.cells.lookup y = some c := by
  have hm := clF_has (env := Γ.env) (acc := []) h
  cases e : (clF Γ.env scope.names []).lookup y with
  | none =>
    have := List.lookup_eq_none_iff.mp e _ hm
    simp at this
  | some c => exact ⟨c, rfl, (comp_cells x O (mem_of_lookup e)).2⟩

theorem comp_ok {P : Addr → Prop} (x : St g n sc Γ loc H s) {scope : Scope} (O : CompOk sc scope) (h : Heap) (hh : ∀ b o, s.heap.get? b = some o → h.get? b = some o) : (Γ.comp scope h H P).Ok g n := by
  have sub : ∀ c ∈ cellsOf (Γ.comp scope h H P).env, c ∈ cellsOf Γ.env := by
    intro c hc
    obtain ⟨p, hp, rfl⟩ := List.mem_map.mp hc
    exact List.mem_map.mpr ⟨_, mem_of_lookup (comp_cells x O hp).2, rfl⟩
  have nl : ∀ b o, h.get? b = some o → b ≠ h.objs.size := fun b o e z => by rw [z, get_size_none] at e; cases e
  refine ⟨x.ok.fr, x.ok.hd, x.ok.dp, O.kind, x.ok.gl, x.ok.bl, ?_, ?_, fun c hc => x.ok.cb c (sub c hc), ?_, ?_, fun c hc => (by cases hc), .inr rfl⟩
  · cases e : g.base.get? h.objs.size with
    | none => exact e
    | some o => exact absurd rfl (nl _ o (hh _ _ (x.sc.cc.stay _ _ e)))
  · intro hc
    obtain ⟨ov, o, ho, _⟩ := x.sc.cc.cex _ (sub _ hc)
    exact nl _ o (hh _ _ ho) rfl
  · have hn : ((clF Γ.env scope.names []).map (·.1)).Nodup := by
      rw [clF_keys]
      simp only [List.map_nil, List.append_nil]
      have := O.nd
      rw [relab_map] at this
      have h2 := this.sublist (List.Sublist.map _ (List.filter_sublist (p := fun q : Str × NameKind => q.2 == .free)))
      exact List.pairwise_reverse.mpr (h2.imp fun a => Ne.symm a)
    have hp := List.pairwise_map.mp hn
    refine hp.imp_of_mem fun {a b} ha hb hab e => hab ?_
    exact name_of_addr x.ok.cd (mem_of_lookup (comp_cells x O ha).2) (e ▸ mem_of_lookup (comp_cells x O hb).2)
  · show (((relabel scope Γ.env).names).map (·.1)).Nodup
    rw [relab_eq x.ok.kind x.nm]; exact O.nd

noncomputable def capsOf (sc : Sc) (scope : Scope) : List (Option Nat) := (relab sc.names scope.names).map fun (x, k) => if k == .cell then sc.slot x else none
noncomputable def compLoc (caps : List (Option Nat)) (loc : Loc) : Loc := caps.map fun c => (c.bind (loc[·]?)).join

theorem comp_cc {P : Addr → Prop} (x : St g n sc Γ loc H s) {scope : Scope} (O : CompOk sc scope) {m : Str → Option Value} {h : Heap} (hh : ∀ b o, s.heap.get? b = some o → h.get? b = some o) (hn : h.Ns s.heap.objs.size m) :
    CC g (Γ.comp scope s.heap H P) (compLoc (capsOf sc scope) loc) H h h where
  stay := fun b o e => hh _ _ (x.sc.cc.stay b o e)
  keepX := fun b o e _ _ _ _ => hh _ _ e
  keepF := fun b hb hl o e => ⟨o.slots, hh _ _ e⟩
  ff := ff_of (fun b _ o e hd => ⟨o, hh _ _ e, hd⟩) x.sc.cc.ff
  led := fun a o e => let ⟨ob, q, r⟩ := x.sc.cc.led a o e; ⟨ob, hh _ _ q, r⟩
  adr := fun a o e => by
    obtain ⟨q1, q2, q3, q4, _⟩ := x.sc.cc.adr a o e
    refine ⟨q1, q2, ?_, ?_, .inr (.inl ⟨o, e⟩)⟩
    · obtain ⟨ob, q, _⟩ := x.sc.cc.led a o e
      intro z
      have : a = s.heap.objs.size := z
      rw [this, get_size_none] at q; cases q
    · intro hc
      obtain ⟨p, hp, rfl⟩ := List.mem_map.mp hc
      exact q4 (List.mem_map.mpr ⟨_, mem_of_lookup (comp_cells x O hp).2, rfl⟩)
  lcs := by
    refine ⟨m, hn, fun i y v h1 h2 => ?_⟩
    have h1' : (relab sc.names scope.names)[i]? = some (y, .local) := by rw [← relab_eq x.ok.kind x.nm]; exact h1
    unfold compLoc capsOf at h2
    rw [List.getElem?_map, List.getElem?_map, h1'] at h2
    simp at h2
  cel := fun i y h1 => by
    have h1' : (relab sc.names scope.names)[i]? = some (y, .cell) := by rw [← relab_eq x.ok.kind x.nm]; exact h1
    have hf := relab_cell O (List.mem_of_getElem? h1')
    obtain ⟨j, c, ov, q1, q2, q3, q4, q5⟩ := cell_slot x (relab_free O hf)
    obtain ⟨c', r1, r2⟩ := comp_lookup x O hf
    rw [q3] at r2; cases r2
    refine ⟨c, ov, r1, q4.keeps hh, fun v hv => q5 v ?_⟩
    unfold compLoc capsOf at hv
    rw [List.getElem?_map, List.getElem?_map, h1'] at hv
    simp only [Option.map_some, Option.some.injEq] at hv
    rw [show (NameKind.cell == NameKind.cell) = true from rfl, if_pos rfl, q1] at hv
    cases hj : loc[j]? with
    | none => rw [Option.bind_some, hj] at hv; cases hv
    | some o => rw [Option.bind_some, hj] at hv; cases o with
      | none => cases hv
      | some w => cases hv; rfl
  cex := fun c hc => by
    obtain ⟨p, hp, rfl⟩ := List.mem_map.mp hc
    obtain ⟨ov, r⟩ := x.sc.cc.cex p.2 (List.mem_map.mpr ⟨_, mem_of_lookup (comp_cells x O hp).2, rfl⟩)
    exact ⟨ov, r.keeps hh⟩
  len := by
    show (compLoc _ _).length = (relabel scope Γ.env).names.length
    rw [relab_eq x.ok.kind x.nm]
    unfold compLoc capsOf
    simp
end Mine
end

section
set_option genSizeOf false
set_option genSizeOfSpec false
open PySem PySem.W PyProof.Rows PySem.Calls
set_option Elab.async false
set_option maxRecDepth 100000
set_option linter.unusedVariables false
set_option linter.unusedSimpArgs false
namespace Mine
variable {g : G} {Γ : Cx} {loc : Loc} {H : AHeap} {n : Nat} {s : Shared} {sc : Sc}

theorem plainKind (hΓ : Γ.Ok g n) : (Γ.env.scope.kind == .class || (Γ.env.scope.kind == .module && Γ.env.locals != Γ.env.globals)) = false := by rw [hΓ.kind]; rfl

theorem store_local {M : Model} {A : Around} {E : Value → Shared → Prop} (x : St g n sc Γ loc H s) {y : Str} {i : Nat} {v : V} {cv : Value} {Q : Unit → Shared → Prop} (hk : sc.kind y = some .local) (hi : sc.slot y = some i) (r : vrel cv v)
    (h : ∀ h', Heap.SameBut Γ.env.locals s.heap h' → St g n sc Γ (loc.set i (some v)) H { s with heap := h', toks := s.toks + 1 } → Q () { s with heap := h', toks := s.toks + 1 }) : wpAny M A (storeName Γ.env y cv) Q E s := by
  obtain ⟨m, hn, hr⟩ := x.sc.cc.lcs
  refine wpAny_storeName_local (kindOf_of x hk) hn (fun h' hns hsb => h h' hsb ?_) (plainKind x.ok)
  have hs := slot_at hk hi
  rw [← x.nm] at hs
  exact ⟨x.ok, x.nm, x.sc.heap (x.sc.cc.setLoc x.ok hs hr hsb hns r), Nat.succ_pos _⟩

theorem store_cell {M : Model} {A : Around} {E : Value → Shared → Prop} (x : St g n sc Γ loc H s) {y : Str} {i : Nat} {v : V} {cv : Value} {Q : Unit → Shared → Prop} (hk : sc.kind y = some .cell) (hi : sc.slot y = some i) (r : vrel cv v)
    (ho : ∀ c, Γ.env.cells.lookup y = some c → c ∈ Γ.own)
    (h : ∀ h', St g n sc Γ (loc.set i (some v)) H { s with heap := h' } → Q () { s with heap := h' }) : wpAny M A (storeName Γ.env y cv) Q E s := by
  have hs := slot_at hk hi
  rw [← x.nm] at hs
  obtain ⟨c, ov, h1, h2, h3⟩ := x.sc.cc.cel i y hs
  refine wpAny_storeName_cell x.ok.kind (kindOf_of x hk) h1 h2 (fun h' hic hsb => h h' ?_)
  exact ⟨x.ok, x.nm, x.sc.heap (x.sc.cc.setCell x.ok hs h1 (ho c h1) hsb hic r) (tk := s.toks), x.tk⟩

theorem Oth.kept {a : Addr} {h h' B : Heap} {loc' : Loc} {H' : AHeap} (hΓ : Γ.Ok g n) (O : Oth g Γ H a) (y : CC g (Γ.sub h H) loc' H' B h') {o : Obj} (e : h.get? a = some o) : B.get? a = some o ∧ Oth g Γ H' a := by
  refine ⟨y.keepX a o e (fun ⟨o', q⟩ => by rw [O.h] at q; cases q) O.f O.l (fun ho => O.c (hΓ.ow a ho)), ?_, O.b, O.f, O.l, O.c, O.m⟩
  cases q : H' a with
  | none => rfl
  | some o' =>
    rcases (y.adr a o' q).2.2.2.2 with z | ⟨o'', z⟩
    · have z' : h.get? a = none := z
      rw [e] at z'; cases z'
    · rw [O.h] at z; cases z

theorem St.sub (x : St g n sc Γ loc H s) : St g n sc (Γ.sub s.heap H) loc H s := ⟨x.ok.sub _ _, x.nm, ⟨x.sc.cc.sub, x.sc.os, x.sc.gens⟩, x.tk⟩
theorem St.join {s' : Shared} {loc' : Loc} {H' : AHeap} (x : St g n sc Γ loc H s) (y : St g n sc (Γ.sub s.heap H) loc' H' s') : St g n sc Γ loc' H' s' := ⟨x.ok, x.nm, ⟨x.sc.cc.join x.ok y.sc.cc, y.sc.os, y.sc.gens⟩, y.tk⟩

theorem iter_self {A : Around} {E : Value → Shared → Prop} {it : Addr} {items : List V} {src : Option Addr} {k : Nat} {Q : Value → Shared → Prop} (I : Iter s.heap it items src k) (h : Q (.ref it) s) : wpAny (model g.prog g.w) A (pyIter (.ref it)) Q E s := by
  cases I with
  | list q => exact wpAny_pyIter_listiter q h
  | text hy q =>
    rcases hy with rfl | rfl
    · exact wpAny_pyIter_striter_ascii q h
    · exact wpAny_pyIter_striter_wide q h
  | range q => exact wpAny_pyIter_rangeiter q h

theorem CC.adopt {h : Heap} {a : Addr} {ob : Obj} {ao : AObj} (x : CC g Γ loc H h h) (O : Oth g Γ H a) (ho : h.get? a = some ob) (r : ORel g ob ao) : CC g Γ loc (upd H a ao) h h :=
  { x with
    led := fun b o e => by
      by_cases hb : b = a
      · subst hb; rw [upd_same] at e; cases e; exact ⟨ob, ho, r⟩
      · rw [upd_ne _ _ hb] at e; exact x.led b o e
    adr := fun b o e => by
      by_cases hb : b = a
      · subst hb; exact ⟨O.b, O.f, O.l, O.c, O.m⟩
      · rw [upd_ne _ _ hb] at e; exact x.adr b o e }

/-- the turns of a comprehension's loop -/
structure Turn (g : G) (n : Nat) (sc' : Sc) (Γ' : Cx) (cl : Loc) (i : Nat) (items : List V) (it D : Addr) (k : Nat) (acc : List V) (H : AHeap) (s : Shared) : Prop where
  st : ∃ L : Loc, (∀ v, L.set i (some v) = cl.set i (some v)) ∧ St g n sc' Γ' L H s
  iter : Iter s.heap it items none k
  oi : Oth g Γ' H it
  od : Oth g Γ' H D
  dl : ∃ ys m, s.heap.get? D = some { cls := .type "list", dict := none, data := .seq ys m, slots := #[] } ∧ vrels ys.toList acc
  ne : D ≠ it
  len : acc.length = k

theorem comp_turns {elt iter : Expr} {t : Str} {tp pos : Pos} {scope : Scope} {sc' : Sc} {Γ' : Cx} {cl : Loc} {i : Nat} {items : List V} {it D : Addr} {ce : C} {I : Nat → List V → AHeap → Prop} {R : Result → Shared → Prop}
    (hk : sc'.kind t = some .local) (hi : sc'.slot t = some i) (he : SE g sc' elt ce) (hlim : items.length ≤ lim)
    (body : ∀ k acc H₂ x, items[k]? = some x → I k acc H₂ → wpE g n (cl.set i (some x)) ce (fun v H₃ => I (k + 1) (acc ++ [v]) H₃) (fun _ => False) H₂)
    (fin : ∀ acc H₂ s' h', I items.length acc H₂ → Turn g n sc' Γ' cl i items it D items.length acc H₂ s' → Heap.ExtBut it s'.heap h' → R (.ok .next) { s' with heap := h' })
    {H₀ : AHeap} (x : Turn g n sc' Γ' cl i items it D 0 [] H₀ s) (hI : I 0 [] H₀) :
    codeAny (model g.prog g.w) Γ'.A (.compLoop (.ListComp elt [⟨.Name t tp, iter, [], 0⟩] scope pos) 0 (.ref it) (.ref D) Γ'.env) R s := by
  refine codeAny_compLoop_list (fun m s' => ∃ k acc H₂, m = items.length - k ∧ k ≤ items.length ∧ I k acc H₂ ∧ Turn g n sc' Γ' cl i items it D k acc H₂ s') ?_ (items.length - 0) ⟨0, [], H₀, rfl, Nat.zero_le _, hI, x⟩
  rintro m s' ⟨k, acc, H₂, rfl, hkl, hI, T⟩
  obtain ⟨L, hL, S⟩ := T.st
  by_cases hlt : k < items.length
  · obtain ⟨v, hv⟩ : ∃ v, items[k]? = some v := ⟨_, List.getElem?_eq_getElem hlt⟩
    refine wpAny_with_toks (n := 1) S.tk (iter_next S.sc T.iter trivial hv fun cv h' tk r I' hsb ht => ?_)
    have C1 := S.sc.cc.other S.ok hsb T.oi.h T.oi.b T.oi.f T.oi.l T.oi.c T.oi.m
    have S1 : St g n sc' Γ' L H₂ { s' with heap := h', toks := tk } := ⟨S.ok, S.nm, S.sc.heap C1, ht⟩
    obtain ⟨ys, m, hD, hys⟩ := T.dl
    have hD1 : h'.get? D = some _ := (hsb.2 D T.ne).trans hD
    refine wpAny_assign_Name (store_local S1 hk hi r fun h₂ hsb₂ S2 => ?_)
    rw [hL] at S2
    have hD2 : h₂.get? D = some _ := (hsb₂.2 D T.od.l).trans hD1
    have I2 : Iter h₂ it items none (k + 1) := I'.at fun o e => (hsb₂.2 it T.oi.l).trans e
    obtain ⟨oi, hoi⟩ := I2.some
    refine he n (Γ'.sub h₂ H₂) _ H₂ _ _ _ _ _ S2.sub (body k acc H₂ v hv hI) (fun w cw H₃ s₃ hI₃ rw S3 => ?_) (fun e H' s' h _ => h.elim)
    obtain ⟨kD, OD⟩ := T.od.kept S.ok S3.sc.cc hD2
    obtain ⟨kI, OI⟩ := T.oi.kept S.ok S3.sc.cc hoi
    have S4 : St g n sc' Γ' _ H₃ s₃ := S2.join S3
    have hsz : ys.size = acc.length := sizeL hys
    have hle : ys.size ≤ sizeLine := by rw [hsz, T.len]; exact Nat.le_trans hkl (Nat.le_trans hlim lim_le)
    refine append_raw kD ?_ hle
    obtain ⟨m', q⟩ := list_upd (s := s₃) (·.push cw) kD
    have hsb5 : Heap.SameBut D s₃.heap (s₃.heap.update D (Obj.mapSeq (·.push cw))) := Heap.SameBut.update ..
    have C5 := S4.sc.cc.other S.ok hsb5 OD.h OD.b OD.f OD.l OD.c OD.m
    refine ⟨items.length - (k + 1), by exact (Nat.sub_succ_lt_self _ _ (by assumption)), k + 1, acc ++ [w], H₃, rfl, hlt, hI₃, ⟨⟨_, fun v => by rw [List.set_set], ⟨S4.ok, S4.nm, S4.sc.heap C5 (tk := s₃.toks), S4.tk⟩⟩, ?_, OI, OD, ⟨_, _, q, ?_⟩, T.ne, by rw [List.length_append, T.len]; rfl⟩⟩
    · exact I2.at fun o e => (Heap.get?_update_other _ _ T.ne).trans (by rw [hoi] at e; cases e; exact kI)
    · rw [Array.toList_push]; exact vrels_append hys ⟨rw, trivial⟩
  · have hk' : k = items.length := by omega
    subst hk'
    exact iter_end S.ok.hd S.sc T.iter trivial rfl fun h' he => fin acc H₂ s' h' hI T he

/-- what must follow a comprehension that is done -/
noncomputable def CompFin (g : G) (n : Nat) (sc : Sc) (Γ : Cx) (loc : Loc) (QA : V → AHeap → Prop) (E : Value → Shared → Prop) (use : Option (Value → Sem Unit)) (Q : Value → Shared → Prop) : Prop :=
  ∀ a H' c s', QA (.ref a) H' → St g n sc Γ loc H' s' → Oth g Γ H' c → (∃ m, s'.heap.Ns c m) → compPost (model g.prog g.w) Γ.A E use Q (.ref a) c (.ok .next) s'

theorem lookup_nodup {p : Str × NameKind} : ∀ l : List (Str × NameKind), (l.map (·.1)).Nodup → p ∈ l → l.lookup p.1 = some p.2 := by
  intro l
  induction l with
  | nil => intro _ h; cases h
  | cons q r ih =>
    intro hn hm
    rw [List.map_cons, List.nodup_cons] at hn
    obtain ⟨a, b⟩ := q
    rw [List.lookup_cons]
    rcases List.mem_cons.mp hm with rfl | hm
    · simp
    · have hne : p.1 ≠ a := fun z => hn.1 (z ▸ List.mem_map.mpr ⟨p, hm, rfl⟩)
      rw [show (p.1 == a) = false from by simpa using hne]
      exact ih hn.2 hm

theorem comp_block {elt iter : Expr} {t : Str} {tp pos : Pos} {scope : Scope} {ce : C} {i : Nat} (O : CompOk sc scope)
    (ht : (relab sc.names scope.names).lookup t = some .local) (hti : (relab sc.names scope.names).findIdx? (·.1 == t) = some i) (he : SE g { sc with names := relab sc.names scope.names, comp := true } elt ce)
    {QA : V → AHeap → Prop} {E : Value → Shared → Prop} {use : Option (Value → Sem Unit)} {Q : Value → Shared → Prop} {items : List V} {it D : Addr} {I : Nat → List V → AHeap → Prop}
    (S : St g n sc Γ loc H s) (OI : Oth g Γ H it) (OD : Oth g Γ H D) (I₁ : Iter s.heap it items none 0) (hD : s.heap.get? D = some { cls := .type "list", dict := none, data := .seq #[], slots := #[] }) (ne : D ≠ it)
    (hI0 : I 0 [] H) (body : ∀ k acc H₂ x, items[k]? = some x → I k acc H₂ → wpE g n ((compLoc (capsOf sc scope) loc).set i (some x)) ce (fun v H₃ => I (k + 1) (acc ++ [v]) H₃) (fun _ => False) H₂)
    (hlim : items.length ≤ lim) (fin : ∀ acc H₂, I items.length acc H₂ → acc.length = items.length → alloc H₂ (.list acc) QA) (P : CompFin g n sc Γ loc QA E use Q) :
    wpAny (model g.prog g.w) Γ.A (newFunctionEnv scope Γ.env.globals (clF Γ.env scope.names []) [] Γ.env.qual none .none (some Γ.env))
      (fun cenv s₄ => codeAny (model g.prog g.w) Γ.A (.compStart (.ListComp elt [⟨.Name t tp, iter, [], 0⟩] scope pos) 0 (.ref it) (.ref D) { cenv with scope := relabel scope Γ.env })
        (compPost (model g.prog g.w) Γ.A E use Q (.ref D) cenv.locals) s₄) E s := by
  have hcell : ∀ p ∈ scope.names, p.2 ≠ .cell := fun p hp e => by rcases O.known p hp with h | h | h <;> (rw [e] at h; cases h)
  refine wpAny_newFunctionEnv hcell (by intro y hy; cases hy) (fun h₁ hns₁ hsb₁ => ?_) O.kind
  have nl : ∀ b o, s.heap.get? b = some o → b ≠ s.heap.objs.size := fun b o e z => by rw [z, get_size_none] at e; cases e
  have hh : ∀ b o, s.heap.get? b = some o → h₁.get? b = some o := fun b o e => (hsb₁.2 b (nl b o e)).trans (Heap.get?_push_of_some _ e)
  have OK := comp_ok (H := H) (P := fun a => a = it ∨ a = D) S O s.heap (fun _ _ e => e)
  have C0 := comp_cc (P := fun a => a = it ∨ a = D) S O hh hns₁
  have nm : (Γ.comp scope s.heap H fun a => a = it ∨ a = D).env.scope.names = relab sc.names scope.names := relab_eq S.ok.kind S.nm
  have cs : ∀ c ∈ cellsOf (Γ.comp scope s.heap H fun a => a = it ∨ a = D).env, c ∈ cellsOf Γ.env := by
    intro c hc
    obtain ⟨p, hp, rfl⟩ := List.mem_map.mp hc
    exact List.mem_map.mpr ⟨_, mem_of_lookup (comp_cells S O hp).2, rfl⟩
  have oth : ∀ a o, Oth g Γ H a → s.heap.get? a = some o → (a = it ∨ a = D) → Oth g (Γ.comp scope s.heap H fun a => a = it ∨ a = D) H a := fun a o Q e ha =>
    ⟨Q.h, Q.b, Q.f, nl a o e, fun hc => Q.c (cs a hc), .inr (.inr ha)⟩
  obtain ⟨oi, hoi⟩ := I₁.some
  have T : Turn g n { sc with names := relab sc.names scope.names, comp := true } (Γ.comp scope s.heap H fun a => a = it ∨ a = D) (compLoc (capsOf sc scope) loc) i items it D 0 [] H { s with heap := h₁, toks := s.toks + ([] : List (Str × Value)).length } :=
    ⟨⟨_, fun _ => rfl, OK, nm, ⟨C0, S.sc.os, S.sc.gens⟩, S.tk⟩, I₁.at (fun o e => hh _ _ e), oth _ _ OI hoi (.inl rfl), oth _ _ OD hD (.inr rfl), ⟨_, _, hh _ _ hD, trivial⟩, ne, rfl⟩
  have loop : codeAny (model g.prog g.w) Γ.A (.compLoop (.ListComp elt [⟨.Name t tp, iter, [], 0⟩] scope pos) 0 (.ref it) (.ref D) (Γ.comp scope s.heap H fun a => a = it ∨ a = D).env)
      (compPost (model g.prog g.w) Γ.A E use Q (.ref D) s.heap.objs.size) { s with heap := h₁, toks := s.toks + ([] : List (Str × Value)).length } := by
    refine comp_turns (sc' := { sc with names := relab sc.names scope.names, comp := true }) (Γ' := Γ.comp scope s.heap H fun a => a = it ∨ a = D) ht hti he hlim body (fun acc H₂ s' h' hI T' hext => ?_) T hI0
    obtain ⟨L, _, S'⟩ := T'.st
    obtain ⟨ys, m, hys, rys⟩ := T'.dl
    have C1 : CC g (Γ.comp scope s.heap H fun a => a = it ∨ a = D) L H₂ h' h' := S'.sc.cc.ext T'.oi hext
    have hff : h'.FunFrames g.base Γ.stack := C1.ff
    have C2 : CC g Γ loc H₂ h' h' := S.sc.cc.leave S.ok C1 (fun _ _ e => e) rfl (fun a ha => by
        rcases ha with ha | rfl | rfl
        · exact .inl ha
        · exact .inr OI
        · exact .inr OD) (fun _ hb => hb) (fun _ _ _ hb => hb) get_size_none (fun b hb => by cases hb) hff
    have OD2 : Oth g Γ H₂ D := ⟨T'.od.h, OD.b, OD.f, OD.l, OD.c, OD.m⟩
    have C3 := C2.adopt OD2 (hext D _ T'.ne hys) (show ORel g _ (.list acc) from ⟨_, _, rfl, rys⟩)
    have OC := Oth.fresh S.ok S.sc.cc (a := s.heap.objs.size) get_size_none
    have hC2 : H₂ s.heap.objs.size = none := by
      cases e : H₂ s.heap.objs.size with
      | none => rfl
      | some o => exact absurd rfl (S'.sc.cc.adr _ _ e).2.2.1
    obtain ⟨m', hm', _⟩ := C1.lcs
    refine P D _ s.heap.objs.size _ (fin acc H₂ hI T'.len D T'.od.h) ⟨S.ok, S.nm, ⟨C3, S'.sc.os, S'.sc.gens⟩, S'.tk⟩ ⟨?_, OC.b, OC.f, OC.l, OC.c, OC.m⟩ ⟨m', hm'⟩
    rw [upd_ne _ _ (Ne.symm (nl D _ hD))]; exact hC2
  exact codeAny_compStart_list loop (iter_self T.iter loop)

theorem comp_core {elt iter : Expr} {t : Str} {tp pos ipos : Pos} {scope : Scope} {ci ce : C} {i : Nat} (O : CompOk sc scope)
    (ht : (relab sc.names scope.names).lookup t = some .local) (hti : (relab sc.names scope.names).findIdx? (·.1 == t) = some i) (hi : SI g sc iter ci) (he : SE g { sc with names := relab sc.names scope.names, comp := true } elt ce)
    {QA : V → AHeap → Prop} {XA : AHeap → Prop} {E : Value → Shared → Prop} {use : Option (Value → Sem Unit)} {Q : Value → Shared → Prop} (x : St g n sc Γ loc H s) (w : wpE g n loc (.comp (capsOf sc scope) i ce ci) QA XA H) (P : CompFin g n sc Γ loc QA E use Q) (X : XPost g Γ XA E) :
    wpAny (model g.prog g.w) Γ.A (comprehension (.ListComp elt [⟨.Name t tp, iter, [], 0⟩] scope pos) scope Γ.env ipos (newList []) false (eval iter Γ.env) use) Q E s := by
  simp only [ze19] at w
  have hnames : ∀ p ∈ scope.names, p.2 = .local → scope.names.lookup p.1 = some .local := by
    intro p hp e
    have hnd := O.nd
    rw [relab_map] at hnd
    rw [lookup_nodup _ hnd hp, e]
  refine wpAny_comprehension_free rfl (hi.1 Γ.env) (closure_eq fun y hy => ?_) O.kind hnames ?_
  · obtain ⟨j, c, ov, _, _, hc, _⟩ := cell_slot x (relab_free O hy)
    exact ⟨c, hc⟩
  refine hi.2 n Γ loc H s _ XA _ E x w (fun items src it H₁ s₁ w₁ S₁ I₁ OI _ => ?_) X
  obtain ⟨rfl, I, hI0, body, hlim, fin⟩ := w₁
  refine wpAny_newObj_type ?_
  obtain ⟨S₂, OD⟩ := sc_oth S₁ { cls := .type "list", data := .seq ([] : List Value).toArray }
  obtain ⟨oi, hoi⟩ := I₁.some
  exact comp_block O ht hti he S₂ OI OD (I₁.at fun o e => Heap.get?_push_of_some _ e) (Heap.get?_push_size _ rfl) (fun z => by rw [← z, get_size_none] at hoi; cases hoi) hI0 body hlim fin P

theorem se_comp {elt iter : Expr} {t : Str} {tp pos : Pos} {scope : Scope} {ci ce : C} {i : Nat} (O : CompOk sc scope)
    (ht : (relab sc.names scope.names).lookup t = some .local) (hti : (relab sc.names scope.names).findIdx? (·.1 == t) = some i) (hi : SI g sc iter ci) (he : SE g { sc with names := relab sc.names scope.names, comp := true } elt ce) :
    SE g sc (.ListComp elt [⟨.Name t tp, iter, [], 0⟩] scope pos) (.comp (capsOf sc scope) i ce ci) := by
  intro n Γ loc H s QA XA Q E x w P X
  rw [eval_ListComp]
  refine comp_core (use := none) O ht hti hi he x w (fun a H' c s' hq S' OC hm => ?_) X
  obtain ⟨m, hm⟩ := hm
  refine ⟨m, hm, fun h' hsb => P _ _ _ _ hq rfl ⟨S'.ok, S'.nm, S'.sc.heap (S'.sc.cc.other S'.ok hsb OC.h OC.b OC.f OC.l OC.c OC.m) (tk := s'.toks), S'.tk⟩⟩
end Mine
end

section
set_option genSizeOf false
set_option genSizeOfSpec false
open PySem PySem.W PyProof.Rows PySem.Calls
set_option Elab.async false
set_option maxRecDepth 100000
set_option linter.unusedVariables false
set_option linter.unusedSimpArgs false
namespace Mine
variable {g : G} {Γ : Cx} {loc : Loc} {H : AHeap} {n : Nat} {s : Shared} {sc : Sc}

theorem merged_app {K : Type} [DecidableEq K] : ∀ (kvs acc : List (K × Value)), ((acc ++ kvs).map (·.1)).Nodup → merged acc kvs = acc ++ kvs
  | [], acc, _ => by simp [merged]
  | (k, v) :: r, acc, h => by
    have hs : stored acc k v = acc ++ [(k, v)] := by
      unfold stored
      rw [if_neg]
      rw [List.any_eq_true]
      rintro ⟨q, hq, e⟩
      rw [List.map_append, List.nodup_append] at h
      exact h.2.2 q.1 (List.mem_map.mpr ⟨q, hq, rfl⟩) k (.head _) (of_decide_eq_true e)
    have := merged_app r (acc ++ [(k, v)]) (by simpa using h)
    unfold merged at this ⊢
    rw [List.foldl_cons, hs, this]
    simp

theorem sd_nodup : ∀ {ckvs : List (Str × Value)} {kvs : List (List Nat × Int)}, sdRel ckvs kvs → (kvs.map (·.1)).Nodup → (ckvs.map (·.1)).Nodup
  | [], [], _, _ => List.nodup_nil
  | (c1, c2) :: cs, (f1, f2) :: fs, ⟨h1, _, h3⟩, h => by
    rw [List.map_cons, List.nodup_cons] at h ⊢
    refine ⟨fun hm => h.1 ?_, sd_nodup h3 h.2⟩
    dsimp only at h1 hm ⊢
    subst h1
    have : ∀ {cs : List (Str × Value)} {fs : List (List Nat × Int)}, sdRel cs fs → (⟨f1.toArray⟩ : Str) ∈ cs.map (·.1) → f1 ∈ fs.map (·.1) := by
      intro cs
      induction cs with
      | nil => intro fs _ hm; cases hm
      | cons c cs ih =>
        intro fs r hm
        cases fs with
        | nil => cases r
        | cons f fs =>
          rcases List.mem_cons.mp hm with e | hm
          · have e2 := r.1
            have e2 := e.trans e2
            injection e2 with e2
            have := congrArg Array.toList e2
            simp at this
            rw [this]; exact .head _
          · exact .tail _ (ih r.2.2 hm)
    exact this h3 hm

noncomputable def PairsOk (g : G) (env : Env) (pos : Pos) (ks : List (Option Expr)) (vs : List Expr) (kvs : List (List Nat × Int)) : Prop :=
    ∃ pairs, (evalEachOpt ks env).zip ((evalEach vs env).map fun v => do let x ← v; standAt pos; pure x) = pairs.map (fun p => (some p.1, p.2)) ∧ pairs.length = ks.length ∧
      ∀ {A : Around} {E : Value → Shared → Prop} {s : Shared} {Q : List (Value × Value) → Shared → Prop}, (∀ vals tk ckvs, Carries (PySem.strKind g.prog g.w) vals ckvs → sdRel ckvs kvs → Q vals { s with toks := tk }) → wpAny (model g.prog g.w) A (evalPairs pairs) Q E s
theorem dict_pairs {env : Env} {pos : Pos} : ∀ {ks : List (Option Expr)} {vs : List Expr} {kvs : List (List Nat × Int)}, constKvs ks vs = some kvs → PairsOk g env pos ks vs kvs
  | [], vs, kvs, h => on0E (M := fun vs => PairsOk g env pos [] vs kvs) h fun h => Option.some.inj h ▸ ⟨[], rfl, rfl, fun hQ => evalPairs_nil (hQ [] _ [] trivial trivial)⟩
  | none :: ks, vs, kvs, h => noS h
  | some k :: ks, [], kvs, h => onStrE (M := fun _ => PairsOk g env pos (some k :: ks) [] kvs) (fun _ _ _ h => noS h) (e := k) h
  | some k :: ks, v :: vs, kvs, h => by
    refine onStrE (M := fun k => PairsOk g env pos (some k :: ks) (v :: vs) kvs) (fun k a1 a2 h => ?_) (e := k) h
    refine onNumE (M := fun v => PairsOk g env pos _ (v :: vs) kvs) (fun i b1 b2 h => ?_) (e := v) h
    refine mapS (M := PairsOk g env pos _ _) h fun l hl => ?_
    obtain ⟨pairs, e1, e2, e3⟩ := dict_pairs (env := env) (pos := pos) hl
    refine ⟨(eval (.Constant (.str k) a1 a2) env, do let x ← eval (.Constant (.int i) b1 b2) env; standAt pos; pure x) :: pairs, ?_, by rw [List.length_cons, e2, List.length_cons], fun {A E s Q} hQ => ?_⟩
    · show (some _, _) :: List.zip _ _ = _
      rw [e1]; rfl
    · refine evalPairs_cons (Constant_str (wpAny_bind (wpAny_Constant_int (wpAny_bind (wpAny_standAt (wpAny_pure (e3 fun vals tk ckvs hc hs => ?_)))))))
      exact hQ _ tk ((k, .int i _) :: ckvs) ⟨strKind_is _ _ _ _, rfl, hc⟩ ⟨rfl, ⟨_, rfl⟩, hs⟩

theorem se_dict {ks : List (Option Expr)} {vs : List Expr} {pos : Pos} {kvs : List (List Nat × Int)} (h1 : ks.length ≤ 15) (h2 : 1 ≤ ks.length) (hc : constKvs ks vs = some kvs) (hn : (kvs.map (·.1)).Nodup) : SE g sc (.Dict ks vs pos) (.dict kvs) := by
  intro n Γ loc H s QA XA Q E x w P X
  simp only [ze18] at w
  obtain ⟨pairs, e1, e2, e3⟩ := dict_pairs (g := g) (env := Γ.env) (pos := pos) hc
  refine wpAny_with_toks (n := 1) x.tk (wpAny_Dict_pairs (knd := PySem.strKind g.prog g.w) e1 (by intro z; rw [z] at e2; simp at e2; omega) (by omega) (e3 fun vals tk ckvs hcar hsd => ?_))
  obtain ⟨S, O⟩ := sc_oth x { cls := .type "dict", data := .dict #[] }
  have hnd := sd_nodup hsd hn
  refine ⟨ckvs, hcar, ⟨_, #[], 0, Heap.get?_push_size _ rfl, ⟨rfl, rfl, rfl⟩, rfl, (by intro e he; simp at he), .nil, List.nodup_nil⟩, fun h' hD hsb ht => ?_⟩
  rw [merged_app ckvs [] hnd] at hD
  obtain ⟨o, es, ep, ho, hE, hdat, hk, hp, hn'⟩ := hD
  have C1 := S.sc.cc.other S.ok hsb O.h O.b O.f O.l O.c O.m
  refine P _ _ _ _ (w _ O.h) rfl ⟨S.ok, S.nm, ⟨C1.adopt O ho ?_, S.sc.os, S.sc.gens⟩, ht⟩
  exact (show ORel g o (.sdict kvs) from ⟨hE, es, ep, ckvs, hdat, hk, hp, hn', hsd⟩)
end Mine
end

section
set_option genSizeOf false
set_option genSizeOfSpec false
open PySem PySem.W PyProof.Rows PySem.Calls
set_option Elab.async false
set_option maxRecDepth 100000
set_option linter.unusedVariables false
set_option linter.unusedSimpArgs false
namespace Mine
variable {g : G} {sc : Sc}

structure Snd (g : G) (f : Nat) : Prop where
  e : ∀ sc, ScOk g sc → ∀ e c, toE f sc e = some c → SE g sc e c
  l : ∀ sc, ScOk g sc → ∀ e c, toL f sc e = some c → SLn g sc e c
  k : ∀ sc, ScOk g sc → ∀ e r, toK f sc e = some r → SKw g sc e r.1 r.2
  o : ∀ sc, ScOk g sc → ∀ e c, toO f sc e = some c → SO g sc e c
  t : ∀ sc, ScOk g sc → ∀ e c, toT f sc e = some c → ST g sc e c
  ts : ∀ sc, ScOk g sc → ∀ e c, toTs f sc e = some c → SA g sc e c ∧ SOr g sc e c
  i : ∀ sc, ScOk g sc → ∀ e c, toI f sc e = some c → SI g sc e c

theorem constC_rel {c : Const} {v : V} (h : constC c = some v) (k : Nat) (pos : Pos) : SE g sc (.Constant c k pos) (.lit v) := by
  cases c <;> first
    | exact noS h
    | (cases h; exact se_lit fun hq => wpAny_Constant_none (hq _ _ trivial))
    | (cases h; exact se_lit fun hq => wpAny_Constant_bool (hq _ _ rfl))
    | (cases h; exact se_lit fun hq => wpAny_Constant_int (hq _ _ rfl))
    | (cases h; exact se_lit fun hq => wpAny_Constant_str (hq _ _ rfl))

theorem at_loc {n : Nat} {loc : Loc} {i : Nat} {Q : V → AHeap → Prop} {X : AHeap → Prop} {H : AHeap} {P : Prop} (w : wpE g n loc (.loc i) Q X H) (k : ∀ v, loc[i]? = some (some v) → Q v H → P) : P := by
  rw [ze2] at w
  cases e : loc[i]? with
  | none => rw [e] at w; exact w.elim
  | some o =>
    cases o with
    | none => rw [e] at w; exact w.elim
    | some v => rw [e] at w; exact k v e w

theorem se_local {x : Str} {p : Pos} {i : Nat} (hd : (x == ("__debug__" : Str)) = false) (hk : sc.kind x = some .local) (hi : sc.slot x = some i) : SE g sc (.Name x p) (.loc i) :=
  fun n Γ loc H s QA XA Q E y w P X => at_loc w fun v hv w => wpAny_Name (load_local y hk hi hv fun cv r => P v cv H s w r y) hd
theorem se_cell {x : Str} {p : Pos} {i : Nat} (hd : (x == ("__debug__" : Str)) = false) (hk : sc.kind x = some .cell) (hi : sc.slot x = some i) : SE g sc (.Name x p) (.loc i) :=
  fun n Γ loc H s QA XA Q E y w P X => at_loc w fun v hv w => wpAny_Name (load_cell y hk hi hv fun cv r => P v cv H s w r y) hd
theorem se_gv (G : GOk g) (S : ScOk g sc) {x : Str} {p : Pos} {v : V} (hd : (x == ("__debug__" : Str)) = false) (hk : sc.kind x = some .globalImplicit) (hv : sc.gv.lookup x = some v) : SE g sc (.Name x p) (.lit v) :=
  fun n Γ loc H s QA XA Q E y w P X => let ⟨cv, hm, r⟩ := G.gvs _ _ (S.gv ▸ hv); ev_glob G y hk hd hm (P v cv H s w r y)

theorem compOk_of {scope : Scope} {t : Str} (hc : compB sc scope t = true) : CompOk sc scope ∧ (relab sc.names scope.names).lookup t = some .local := by
  refine andB hc fun h h5 => andB h fun h h4 => andB h fun h h3 => andB h fun h1 h2 => ⟨⟨eq_of_beq h1, fun p hp => ?_, fun p hp => ?_, of_decide_eq_true h4⟩, eq_of_beq h5⟩
  · have := List.all_eq_true.mp h2 p hp
    obtain ⟨a, k⟩ := p
    cases k with
    | «local» => exact .inl rfl
    | free => exact .inr (.inl rfl)
    | globalImplicit => exact .inr (.inr rfl)
    | cell => exact noB this
    | globalExplicit => exact noB this
  · have := List.all_eq_true.mp h3 p hp
    obtain ⟨a, k⟩ := p
    intro (e : k = .free)
    subst e; exact noB this

theorem onNo {α β : Type} {c : β} {P : Prop} {o : Option α} {y : Option β} (h : orK o (fun _ => none) y = some c) (k : o = none → y = some c → P) : P := by
  cases o with
  | none => exact k rfl h
  | some a => exact noS h

theorem snd_e {f : Nat} (G : GOk g) (F : Snd g f) (S : ScOk g sc) {e : Expr} {c : C} (h : toE (f + 1) sc e = some c) : SE g sc e c := by
  cases e with
  | Constant c k p => exact mapS (M := SE g sc _) h fun v hv => constC_rel hv k p
  | Name x p =>
    exact iteN h fun hd h => kindKE h (fun hk h => mapS (M := SE g sc _) h fun i hi => se_local hd hk hi) (fun hk h => mapS (M := SE g sc _) h fun i hi => se_cell hd hk hi) fun hk h => mapS (M := SE g sc _) h fun v hv => se_gv G S hd hk hv
  | BinOp a op b p => exact bindS h fun a ha h => mapS (M := SE g sc _) h fun b hb => se_bin G (F.e _ S _ _ ha) (F.e _ S _ _ hb)
  | UnaryOp op a p => exact iteS h fun e h => mapS (M := SE g sc _) h fun a ha => e ▸ se_neg (F.e _ S _ _ ha)
  | Compare a ops bs p =>
    exact on1E (M := fun l => SE g sc (.Compare a l bs p) c) h fun op h => on1E (M := fun l => SE g sc (.Compare a [op] l p) c) h fun b h => iteN h fun hm h =>
      bindS h fun a ha h => mapS (M := SE g sc _) h fun b hb => se_cmp G hm (F.e _ S _ _ ha) (F.e _ S _ _ hb)
  | BoolOp op es p =>
    exact iteS h fun e h => e ▸ on2E (M := fun l => SE g sc (.BoolOp .And l p) c) h fun a b h => bindS h fun a ha h => mapS (M := SE g sc _) h fun b hb => se_andv (F.e _ S _ _ ha) (F.e _ S _ _ hb)
  | IfExp t a b p => exact bindS h fun t ht h => bindS h fun a ha h => mapS (M := SE g sc _) h fun b hb => se_ite (F.t _ S _ _ ht) (F.e _ S _ _ ha) (F.e _ S _ _ hb)
  | Call fn args kws p =>
    refine onFnE (M := fun fn => SE g sc (.Call fn args kws p) c) (fun x q h => ?_) (fun o m ap h => ?_) h
    · refine iteN h fun hg h => ?_
      cases kws with
      | nil =>
        exact orKE h (fun fn hf h => mapS (M := SE g sc _) h fun as ha => se_call G hg (S.fns ▸ hf) (F.l _ S _ _ ha)) fun h =>
          orKE h (fun cl hf h => mapS (M := SE g sc _) h fun as ha => se_new G hg (S.cls ▸ hf) (F.l _ S _ _ ha)) fun h =>
          orKE h (fun b hb h => iteN h fun _ h => mapS (M := SE g sc _) h fun as ha => se_bi G hg hb (F.l _ S _ _ ha)) fun h =>
          iteS h fun hy h => on2E (M := fun l => SE g sc (.Call (.Name x q) l [] p) c) h fun e t h => onNameE (M := fun t => SE g sc (.Call (.Name x q) [e, t] [] p) c)
            (fun t tp h => iteN h fun hgt h => iteS h fun hn h => bindS h fun ty hty h => mapS (M := SE g sc _) h fun ce he => se_isi G hg hy hgt hty (F.e _ S _ _ he) fun env => noStarE _ env hn) h
      | cons k kws =>
        exact bindS h fun cl hf h => on0E (M := fun l => SE g sc (.Call (.Name x q) l (k :: kws) p) c) h fun h => mapS (M := SE g sc _) h fun r hr => se_newK G hg (S.cls ▸ hf) (F.k _ S _ _ hr)
    · refine on0E (M := fun l => SE g sc (.Call (.Attribute o m ap) args l p) c) h fun h => iteS h fun hc h => andB hc fun hl hb => ?_
      exact iteO h (fun hm h => on2E (M := fun l => SE g sc (.Call (.Attribute o m ap) l [] p) c) h fun a b h => onStrE (M := fun a => SE g sc (.Call (.Attribute o m ap) [a, b] [] p) c) (fun x _ _ h =>
          onStrE (M := fun b => SE g sc (.Call (.Attribute o m ap) [_, b] [] p) c) (fun y _ _ h => mapS (M := SE g sc _) h fun co ho => se_replace G (notB hb) hl hm (F.e _ S _ _ ho)) h) h)
        fun h => iteS h fun hn h => bindS h fun m hm h => bindS h fun co ho h => mapS (M := SE g sc _) h fun as ha => se_meth G (notB hb) hl hn hm (F.e _ S _ _ ho) (F.l _ S _ _ ha)
  | Attribute o a p => exact iteN h fun hb h => bindS h fun a ha h => mapS (M := SE g sc _) h fun co ho => se_attr G hb ha (F.e _ S _ _ ho)
  | Subscript o i p =>
    exact bindS h fun co ho h => onSlE (M := fun i => SE g sc (.Subscript o i p) c) (fun lo hi st sp h => onNo (o := st) h fun e h => by subst e; exact bindS h fun cl hl h => mapS (M := SE g sc _) h fun ch hh => se_slice G (F.e _ S _ _ ho) (F.o _ S _ _ hl) (F.o _ S _ _ hh))
      (fun h => mapS (M := SE g sc _) h fun ci hi => se_sub G (F.e _ S _ _ ho) (F.e _ S _ _ hi)) h
  | List es p => exact mapS (M := SE g sc _) h fun a ha => se_list (F.l _ S _ _ ha)
  | Tuple es k p => exact mapS (M := SE g sc _) h fun a ha => se_tup (F.l _ S _ _ ha)
  | Dict ks vs p => exact iteS h fun h1 h => iteS h fun h2 h => bindS h fun l hl h => iteS h fun hn h => Option.some.inj h ▸ se_dict h1 h2 hl hn
  | ListComp elt gens scope p =>
    refine on1E (M := fun l => SE g sc (.ListComp elt l scope p) c) h fun gen h => ?_
    obtain ⟨tg, it, ifs, as⟩ := gen
    refine onNameE (M := fun e => SE g sc (.ListComp elt [⟨e, it, ifs, as⟩] scope p) c) (fun t tp h => on0E (M := fun l => SE g sc (.ListComp elt [⟨_, it, l, as⟩] scope p) c) h fun h => iteS h fun z h => ?_) h
    subst z
    exact iteN h fun _ h => iteS h fun hc h => bindS h fun ci hi h => bindS h fun ce he h => mapS (M := SE g sc _) h fun i hi2 =>
      se_comp (compOk_of hc).1 (compOk_of hc).2 hi2 (F.i _ S _ _ hi) (F.e { sc with names := relab sc.names _, comp := true } ⟨S.gv, S.fns, S.cls⟩ _ _ he)
  | _ => exact noS h

theorem snd_l {f : Nat} (F : Snd g f) (S : ScOk g sc) {e : List Expr} {c : C} (h : toL (f + 1) sc e = some c) : SLn g sc e c := by
  cases e with
  | nil => exact Option.some.inj h ▸ sl_nil
  | cons e r => exact iteS h fun hs h => bindS h fun a ha h => mapS (M := SLn g sc _) h fun b hb => sl_cons (fun env => noStarE r env hs) (F.e _ S _ _ ha) (F.l _ S _ _ hb)

theorem snd_k {f : Nat} (F : Snd g f) (S : ScOk g sc) {e : List Keyword} {r : List String × C} (h : toK (f + 1) sc e = some r) : SKw g sc e r.1 r.2 := by
  cases e with
  | nil => exact Option.some.inj h ▸ sk_nil
  | cons k r =>
    obtain ⟨a, v, p⟩ := k
    exact bindS h fun x hx h => bindS h fun nm hn h => bindS h fun a ha h => mapS (M := fun r => SKw g sc _ r.1 r.2) h fun b hb => by
      cases (show _ = some x from hx)
      obtain rfl := attr_name hn
      exact sk_cons (F.e _ S _ _ ha) (F.k _ S _ _ hb)

theorem snd_o {f : Nat} (F : Snd g f) (S : ScOk g sc) {e : Option Expr} {c : C} (h : toO (f + 1) sc e = some c) : SO g sc e c := by
  cases e with
  | none => exact Option.some.inj h ▸ so_none
  | some e => exact so_some (F.e _ S _ _ h)

theorem plainTE (env : Env) (whole : Sem Value) {e : Expr} : plainT e = true → isTrue e env whole = (do let v ← whole; standAt e.pos; holding [v] (truthy v)) := by
  cases e <;> first | exact fun _ => rfl | exact noB | (rename_i op _ _; cases op <;> first | exact fun _ => rfl | exact noB)
theorem noSetE (env : Env) (x : Value) {e : Expr} : noSet e = true → foldedSetIterable e env x = pure x := by
  cases e <;> first | exact fun _ => rfl | exact noB

theorem snd_t {f : Nat} (G : GOk g) (F : Snd g f) (S : ScOk g sc) {e : Expr} {c : C} (h : toT (f + 1) sc e = some c) : ST g sc e c := by
  refine iteO h (fun hp h => mapS (M := ST g sc _) h fun a ha => st_val (fun env whole => plainTE env whole hp) (F.e _ S _ _ ha)) fun h => ?_
  cases e with
  | UnaryOp op t p => exact iteS h fun e h => e ▸ mapS (M := ST g sc _) h fun a ha => st_not (F.t _ S _ _ ha)
  | BoolOp op ts p =>
    cases op with
    | And => exact mapS (M := ST g sc _) h fun a ha => st_and (F.ts _ S _ _ ha).1
    | Or => exact mapS (M := ST g sc _) h fun a ha => st_or (F.ts _ S _ _ ha).2
  | Compare a ops bs p =>
    exact on1E (M := fun l => ST g sc (.Compare a l bs p) c) h fun op h => on1E (M := fun l => ST g sc (.Compare a [op] l p) c) h fun b h => iteN h fun hm h =>
      bindS h fun a ha h => mapS (M := ST g sc _) h fun b hb => st_cmp G hm (F.e _ S _ _ ha) (F.e _ S _ _ hb)
  | _ => exact noS h

theorem snd_ts {f : Nat} (F : Snd g f) (S : ScOk g sc) {e : List Expr} {c : C} (h : toTs (f + 1) sc e = some c) : SA g sc e c ∧ SOr g sc e c := by
  cases e with
  | nil => exact Option.some.inj h ▸ ⟨sa_nil, so_nil⟩
  | cons e r => exact bindS h fun a ha h => mapS (M := fun c => SA g sc _ c ∧ SOr g sc _ c) h fun b hb => ⟨sa_cons (F.t _ S _ _ ha) (F.ts _ S _ _ hb).1, so_cons (F.t _ S _ _ ha) (F.ts _ S _ _ hb).2⟩

theorem snd_i {f : Nat} (G : GOk g) (F : Snd g f) (S : ScOk g sc) {e : Expr} {c : C} (h : toI (f + 1) sc e = some c) : SI g sc e c :=
  orKE h (fun n hn h => Option.some.inj h ▸ onRangeE (M := fun e => SI g sc e (.range n)) (fun x m p q h => iteS h fun hc h => andB hc fun hc hs => andB hc fun hy hg =>
      si_range G (by rw [hg]; rfl) hy (F.e _ S _ _ h) fun env => noStarE _ env hs) hn)
    fun h => iteS h fun hs h => mapS (M := SI g sc _) h fun a ha => si_val (fun env x => noSetE env x hs) (F.e _ S _ _ ha)

theorem sound (G : GOk g) : ∀ f, Snd g f
  | 0 => ⟨fun _ _ _ _ => noS, fun _ _ _ _ => noS, fun _ _ _ _ => noS, fun _ _ _ _ => noS, fun _ _ _ _ => noS, fun _ _ _ _ => noS, fun _ _ _ _ => noS⟩
  | f + 1 => let F := sound G f; ⟨fun _ S _ _ h => snd_e G F S h, fun _ S _ _ h => snd_l F S h, fun _ S _ _ h => snd_k F S h, fun _ S _ _ h => snd_o F S h, fun _ S _ _ h => snd_t G F S h, fun _ S _ _ h => snd_ts F S h, fun _ S _ _ h => snd_i G F S h⟩
end Mine
end

section
set_option genSizeOf false
set_option genSizeOfSpec false
open PySem PySem.W PyProof.Rows PySem.Calls
set_option Elab.async false
set_option maxRecDepth 100000
set_option linter.unusedVariables false
set_option linter.unusedSimpArgs false
namespace Mine
variable {g : G} {Γ : Cx} {loc : Loc} {H : AHeap} {n : Nat} {s : Shared} {sc : Sc}

/-- the running frame is the newest one, and its cells are its own -/
structure Fm (Γ : Cx) : Prop where
  fr : Γ.Frame
  own : ∀ c ∈ cellsOf Γ.env, c ∈ Γ.own

theorem Fm.sub (F : Fm Γ) (h : Heap) (H : AHeap) : Fm (Γ.sub h H) := ⟨F.fr, F.own⟩

structure STg (g : G) (sc : Sc) (t : Expr) (c : C) : Prop where
  tp : ∀ n v K XA loc H, assignT g n c v K XA loc H = assignK g n c v K XA loc H
  sw : ∀ v env, swappedStores [t] v env = pure none
  e1 : ∀ env r, assignEach (t :: r) env = (false, assign t env) :: assignEach r env
  e2 : ∀ n Γ loc H s v cv K XA Q E, St g n sc Γ loc H s → Fm Γ → assignK g n c v K XA loc H → vrel cv v →
  (∀ loc' H' s', K loc' H' → St g n sc Γ loc' H' s' → Q () s') → XPost g Γ XA E → wpAny (model g.prog g.w) Γ.A (assign t Γ.env cv) Q E s
def STgs (g : G) (sc : Sc) (ts : List Expr) (c : C) : Prop := (∀ env, ((assignEach ts env).length = lenC c ∧ (assignEach ts env).findIdx? (·.1) = none)) ∧ ∀ n Γ loc H s vs cvs K XA Q E, St g n sc Γ loc H s → Fm Γ → assignL g n c vs K XA loc H → vrels cvs vs →
  (∀ loc' H' s', K loc' H' → St g n sc Γ loc' H' s' → Q () s') → XPost g Γ XA E → wpAny (model g.prog g.w) Γ.A (assignInOrder ((assignEach ts Γ.env).map (·.2)) cvs) Q E s

theorem tg_local {x : Str} {i : Nat} {pos : Pos} (hk : sc.kind x = some .local) (hi : sc.slot x = some i) : STg g sc (.Name x pos) (.loc i) := by
  refine ⟨fun _ _ _ _ _ _ => rfl, fun _ _ => rfl, fun _ _ => rfl, fun n Γ loc H s v cv K XA Q E x F w r P X => ?_⟩
  exact wpAny_assign_Name (store_local x hk hi r fun h' _ y => P _ _ _ w y)
theorem tg_cell {x : Str} {i : Nat} {pos : Pos} (hk : sc.kind x = some .cell) (hi : sc.slot x = some i) : STg g sc (.Name x pos) (.loc i) := by
  refine ⟨fun _ _ _ _ _ _ => rfl, fun _ _ => rfl, fun _ _ => rfl, fun n Γ loc H s v cv K XA Q E x F w r P X => ?_⟩
  exact wpAny_assign_Name (store_cell x hk hi r (fun c hc => F.own c (List.mem_map.mpr ⟨_, mem_of_lookup hc, rfl⟩)) fun h' y => P _ _ _ w y)
theorem tg_attr (G : GOk g) {o : Expr} {y : Str} {a : String} {co : C} {pos : Pos} (hm : attrNames.lookup y = some a) (ho : SE g sc o co) : STg g sc (.Attribute o y pos) (.attr co a) := by
  refine ⟨fun _ _ _ _ _ _ => rfl, fun _ _ => rfl, fun _ _ => rfl, fun n Γ loc H s v cv K XA Q E x F w r P X => ?_⟩
  obtain rfl := attr_name hm
  simp only [zk2] at w
  show wpAny _ _ (do
    let ov ← holding [cv] (eval o Γ.env)
    standAt pos.atName
    holding [cv, ov] (setAttr ov (Str.ofString a) cv)
    release [cv, ov] []) Q E s
  refine wpAny_bind (wpAny_holding (ho n Γ loc H s _ XA _ E x w (fun vo cvo H₁ s₁ w₁ r₁ x₁ => ?_) X))
  refine wpAny_bind (wpAny_standAt (wpAny_bind (wpAny_holding ?_)))
  exact wpAny_with_toks (n := 1) x₁.tk (sound_setAttr G.hK G.cls x₁.ok w₁ r₁ r x₁.sc fun H' s' hq y t => wpAny_release (P loc H' s' hq (x₁.next y t)))
theorem assign_sub (o i : Expr) (pos : Pos) (env : Env) (cv : Value) : ∃ l : Value → Value → List Value, assign (.Subscript o i pos) env cv = (do
    let ov ← holding [cv] (eval o env)
    let iv ← holding [cv, ov] (eval i env)
    standAt pos
    holding [cv, ov, iv] (setItem ov iv cv)
    release (l ov iv) []) := ⟨fun ov iv => match i with | .Slice _ _ none _ => [iv, cv, ov] | _ => [cv, ov, iv], rfl⟩

theorem tg_sub {o i : Expr} {co ci : C} {pos : Pos} (ho : SE g sc o co) (hi : SE g sc i ci) : STg g sc (.Subscript o i pos) (.sub co ci) := by
  refine ⟨fun _ _ _ _ _ _ => rfl, fun _ _ => rfl, fun _ _ => rfl, fun n Γ loc H s v cv K XA Q E x F w r P X => ?_⟩
  simp only [zk3] at w
  have e := assign_sub o i pos Γ.env cv
  obtain ⟨l, e⟩ := e
  rw [e]
  refine wpAny_bind (wpAny_holding (ho n Γ loc H s _ XA _ E x w (fun vo cvo H₁ s₁ w₁ r₁ x₁ => ?_) X))
  refine wpAny_bind (wpAny_holding (hi n Γ loc H₁ s₁ _ XA _ E x₁ w₁ (fun vi cvi H₂ s₂ w₂ r₂ x₂ => ?_) X))
  refine wpAny_bind (wpAny_standAt (wpAny_bind (wpAny_holding ?_)))
  exact wpAny_with_toks (n := 1) x₂.tk (sound_setSub x₂.ok w₂ r₁ r₂ r x₂.sc fun H' s' hq y t => wpAny_release (P loc H' s' hq (x₂.next y t)))

theorem tgs_nil : STgs g sc [] .nil := by
  refine ⟨fun _ => ⟨rfl, rfl⟩, fun n Γ loc H s vs cvs K XA Q E x F w r P X => ?_⟩
  match vs, cvs, r, w with
  | [], [], _, w => exact wpAny_pure (P _ _ _ w x)
  | _ :: _, _, _, w => exact w.elim
theorem tgs_cons {t : Expr} {ts : List Expr} {c d : C} (ht : STg g sc t c) (hr : STgs g sc ts d) : STgs g sc (t :: ts) (.cons c d) := by
  refine ⟨fun env => ?_, fun n Γ loc H s vs cvs K XA Q E x F w r P X => ?_⟩
  · rw [ht.e1]
    obtain ⟨h1, h2⟩ := hr.1 env
    exact ⟨by rw [List.length_cons, h1]; rfl, by rw [List.findIdx?_cons, h2]; rfl⟩
  · match vs, cvs, r, w with
    | v :: vs, cv :: cvs, ⟨r1, r2⟩, w =>
      simp only [zL2] at w
      rw [ht.e1]
      show wpAny _ _ (do holding cvs (assign t Γ.env cv); assignInOrder ((assignEach ts Γ.env).map (·.2)) cvs) Q E s
      exact wpAny_bind (wpAny_holding (ht.e2 n Γ loc H s v cv _ XA _ E x F w r1 (fun loc' H' s' w' y => hr.2 n Γ loc' H' s' vs cvs K XA Q E y F w' r2 P X) X))
    | [], [], _, w => exact w.elim

theorem snd_tg (G : GOk g) {f : Nat} (S : ScOk g sc) {t : Expr} {c : C} (h : toTg f sc t = some c) : STg g sc t c := by
  cases f with
  | zero => exact noS h
  | succ f =>
    have F := sound G f
    cases t with
    | Name x p => exact kindKE h (fun hk h => mapS (M := STg g sc _) h fun i hi => tg_local hk hi) (fun hk h => mapS (M := STg g sc _) h fun i hi => tg_cell hk hi) fun _ h => noS h
    | Attribute o a p => exact bindS h fun a ha h => mapS (M := STg g sc _) h fun co ho => tg_attr G ha (F.e _ S _ _ ho)
    | Subscript o i p => exact bindS h fun co ho h => mapS (M := STg g sc _) h fun ci hi => tg_sub (F.e _ S _ _ ho) (F.e _ S _ _ hi)
    | _ => exact noS h

theorem snd_tgs (G : GOk g) {f : Nat} (S : ScOk g sc) : ∀ {ts : List Expr} {c : C}, toTgs f sc ts = some c → STgs g sc ts c
  | [], c, h => Option.some.inj h ▸ tgs_nil
  | t :: ts, c, h => bindS h fun a ha h => mapS (M := STgs g sc _) h fun b hb => tgs_cons (snd_tg G S ha) (snd_tgs G S hb)

/-! ## statements -/
noncomputable def frel : Flow → Fl → Prop
  | .next, .next => True
  | .ret cv, .ret v => vrel cv v
  | _, _ => False

def SS (g : G) (sc : Sc) (t : Stmt) (c : S) : Prop := ∀ n Γ loc H s QA XA Q E, St g n sc Γ loc H s → Fm Γ → wpS g n c QA XA loc H →
  (∀ f cf loc' H' s', QA f loc' H' → frel cf f → St g n sc Γ loc' H' s' → Q cf s') → XPost g Γ XA E → wpAny (model g.prog g.w) Γ.A (exec t Γ.env) Q E s
def SSs (g : G) (sc : Sc) (t : List Stmt) (c : S) : Prop := ∀ n Γ loc H s QA XA Q E, St g n sc Γ loc H s → Fm Γ → wpS g n c QA XA loc H →
  (∀ f cf loc' H' s', QA f loc' H' → frel cf f → St g n sc Γ loc' H' s' → Q cf s') → XPost g Γ XA E → wpAny (model g.prog g.w) Γ.A (execs t Γ.env) Q E s

theorem ss_nil : SSs g sc [] .nil := by
  intro n Γ loc H s QA XA Q E x F w P X
  simp only [zs1] at w
  exact wpAny_execs_nil (P .next .next _ _ _ w trivial x)
theorem ss_cons {t : Stmt} {r : List Stmt} {a b : S} (ht : SS g sc t a) (hr : SSs g sc r b) : SSs g sc (t :: r) (.seq a b) := by
  intro n Γ loc H s QA XA Q E x F w P X
  simp only [zs2] at w
  rw [execs_cons]
  refine wpAny_bind (ht n Γ loc H s _ XA _ E x F w (fun f cf loc' H' s' w' fr y => ?_) X)
  cases f with
  | next => cases cf <;> first | exact hr n Γ loc' H' s' QA XA Q E y F w' P X | exact fr.elim
  | ret v => cases cf <;> first | exact wpAny_pure (P _ _ _ _ _ w' fr y) | exact fr.elim

theorem ss_ret {e : Expr} {c : C} {pos : Pos} (he : SE g sc e c) : SS g sc (.Return (some e) pos) (.ret c) := by
  intro n Γ loc H s QA XA Q E x F w P X
  simp only [zs12] at w
  exact wpAny_Return_some (he n Γ loc H s _ XA _ E x w (fun v cv H' s' w' r y => P (.ret v) (.ret cv) loc H' s' w' r y) X)

theorem ss_ite {t : Expr} {a b : List Stmt} {ct : C} {ca cb : S} {pos : Pos} (ht : ST g sc t ct) (ha : SSs g sc a ca) (hb : SSs g sc b cb) : SS g sc (.If t a b pos) (.ite ct ca cb) := by
  intro n Γ loc H s QA XA Q E x F w P X
  simp only [zs9] at w
  refine wpAny_If (ht n Γ loc H s _ XA _ E x w (fun r H₁ s₁ w₁ x₁ => ?_) X)
  cases r with
  | true => rw [if_pos rfl] at w₁ ⊢; exact ha n Γ loc H₁ _ _ XA _ E x₁ F w₁ P X
  | false => rw [if_neg (by decide)] at w₁ ⊢; exact hb n Γ loc H₁ _ _ XA _ E x₁ F w₁ P X

theorem inter {Γ : Cx} (hΓ : Γ.Ok g n) : interactive Γ.env = false := by
  unfold interactive; rw [hΓ.kind]; rfl

theorem ss_expr {f : Expr} {as : List Expr} {ks : List Keyword} {p pos : Pos} {c : C} (he : SE g sc (.Call f as ks p) c) : SS g sc (.Expr (.Call f as ks p) pos) (.expr c) := by
  intro n Γ loc H s QA XA Q E x F w P X
  simp only [zs8] at w
  refine wpAny_Expr (he n Γ loc H s _ XA _ E x w (fun v cv H' s' w' r y => ?_) X) (inter x.ok) rfl
  obtain ⟨rfl, w'⟩ := w'
  rw [vrel_none r]
  exact P .next .next loc H' s' w' trivial y

theorem ss_augL (G : GOk g) {y : Str} {i : Nat} {op : Operator} {e : Expr} {c : C} {np pos : Pos} (hk : sc.kind y = some .local) (hi : sc.slot y = some i) (he : SE g sc e c) : SS g sc (.AugAssign (.Name y np) op e pos) (.aug (.loc i) op c) := by
  intro n Γ loc H s QA XA Q E x F w P X
  simp only [zs6, ze2] at w
  split at w
  · rename_i v hv
    refine wpAny_AugAssign_Name (load_local x hk hi hv fun cv r => ?_)
    refine he n Γ loc H s _ XA _ E x w (fun ve cve H₁ s₁ w₁ r₁ x₁ => ?_) X
    refine wpAny_with_toks (n := 1) x₁.tk (sound_iop w₁ r r₁ x₁.sc fun u cu H₂ s₂ w₂ r₂ y₂ t => ?_)
    exact store_local (x₁.next y₂ t) hk hi r₂ fun h' _ y => P .next .next _ _ _ w₂ trivial y
  · exact w.elim

theorem ss_augA (G : GOk g) {o e : Expr} {y : Str} {a : String} {op : Operator} {co c : C} {np pos : Pos} (hm : attrNames.lookup y = some a) (ho : SE g sc o co) (he : SE g sc e c) : SS g sc (.AugAssign (.Attribute o y np) op e pos) (.aug (.attr co a) op c) := by
  intro n Γ loc H s QA XA Q E x F w P X
  obtain rfl := attr_name hm
  simp only [zs7] at w
  refine wpAny_AugAssign_AttributeAny (ho n Γ loc H s _ XA _ E x w (fun vo cvo H₁ s₁ w₁ r₁ x₁ => ?_) X)
  refine wpAny_with_toks (n := 1) x₁.tk (sound_attr G.hK G.cls w₁ r₁ x₁.sc fun v cv s₂ w₂ r₂ y₂ t₂ => ?_)
  refine he n Γ loc H₁ s₂ _ XA _ _ (x₁.next y₂ t₂) w₂ (fun ve cve H₃ s₃ w₃ r₃ x₃ => ?_) X
  refine wpAny_with_toks (n := 1) x₃.tk (sound_iop w₃ r₂ r₃ x₃.sc fun u cu H₄ s₄ w₄ r₄ y₄ t₄ => ?_)
  have x₄ := x₃.next y₄ t₄
  exact wpAny_with_toks (n := 1) x₄.tk (sound_setAttr G.hK G.cls x₄.ok w₄ r₁ r₄ x₄.sc fun H' s' hq y t => P .next .next loc H' s' hq trivial (x₄.next y t))
end Mine
end

section
set_option genSizeOf false
set_option genSizeOfSpec false
open PySem PySem.W PyProof.Rows PySem.Calls
set_option Elab.async false
set_option maxRecDepth 100000
set_option linter.unusedVariables false
set_option linter.unusedSimpArgs false
namespace Mine
variable {g : G} {Γ : Cx} {loc : Loc} {H : AHeap} {n : Nat} {s : Shared} {sc : Sc}

theorem not_swap (t : Option Expr) (line : Nat) (env : Env) {e : Expr} : plainV e = true → swapsWith e t line env = pure false := by
  cases e <;> first | exact fun _ => rfl | exact noB

theorem ss_assign {t v : Expr} {ct cv : C} {pos : Pos} (hl : plainV v = true) (he : SE g sc v cv) (ht : STg g sc t ct) :
    SS g sc (.Assign [t] v pos) (.assign ct cv) := by
  intro n Γ loc H s QA XA Q E x F w P X
  refine wpAny_Assign_stores (he n Γ loc H s _ XA _ E x w (fun u cu H₁ s₁ w₁ r₁ x₁ => ?_) X) (show swapsWith v (some t) pos.line Γ.env = pure false from not_swap _ _ _ hl) (ht.sw _ _)
  rw [ht.e1]
  rw [ht.tp] at w₁
  exact ht.e2 n Γ loc H₁ s₁ u cu _ XA _ E x₁ F w₁ r₁ (fun loc' H' s' w' y => P .next .next _ _ _ w' trivial y) X

theorem ss_assignT {ts : List Expr} {k : Nat} {tp : Pos} {v : Expr} {ct cv : C} {pos : Pos} (hl : plainV v = true) (hw : ∀ env, swappedStores [.Tuple ts k tp] v env = pure none) (he : SE g sc v cv) (ht : STgs g sc ts ct) :
    SS g sc (.Assign [.Tuple ts k tp] v pos) (.assign (.tup ct) cv) := by
  intro n Γ loc H s QA XA Q E x F w P X
  refine wpAny_Assign_stores (he n Γ loc H s _ XA _ E x w (fun u cu H₁ s₁ w₁ r₁ x₁ => ?_) X) (show swapsWith v (some (.Tuple ts k tp)) pos.line Γ.env = pure false from not_swap _ _ _ hl) (hw _)
  show wpAny _ _ (do standAt tp; unpack cu (assignEach ts Γ.env)) _ _ _
  refine wpAny_bind (wpAny_standAt ?_)
  cases u with
  | ref a =>
    obtain rfl := vrel_ref r₁
    obtain ⟨vs, e1, e2, e3, w₁⟩ := w₁
    obtain ⟨cvs, l, rr⟩ := led_tup x₁.sc e1
    obtain ⟨h1, h2⟩ := ht.1 Γ.env
    refine wpAny_unpack_tuple x₁.ok.hd l (by rw [h1, e2, sizeL rr]) h2 fun h' hext => ?_
    have O := Oth.fresh x₁.ok x₁.sc.cc (a := s₁.heap.objs.size) get_size_none
    have x₂ : St g n sc Γ loc H₁ { s₁ with heap := h' } := ⟨x₁.ok, x₁.nm, x₁.sc.heap (x₁.sc.cc.ext O hext) (tk := s₁.toks), x₁.tk⟩
    exact ht.2 n Γ loc H₁ _ vs cvs.toList _ XA _ E x₂ F w₁ rr (fun loc' H' s' w' y => P .next .next _ _ _ w' trivial y) X
  | _ => exact w₁.elim

theorem ss_assignC {elt iter : Expr} {t y : Str} {tp py pos spos : Pos} {scope : Scope} {ci ce : C} {i j : Nat} (O : CompOk sc scope)
    (ht : (relab sc.names scope.names).lookup t = some .local) (hti : (relab sc.names scope.names).findIdx? (·.1 == t) = some i) (hi : SI g sc iter ci) (he : SE g { sc with names := relab sc.names scope.names, comp := true } elt ce)
    (hk : sc.kind y = some .local) (hj : sc.slot y = some j) (hline : (py.line == pos.line) = true) (hnn : (scope.names.any fun (m, k) => m == y && (k == .local || k == .cell)) = false) :
    SS g sc (.Assign [.Name y py] (.ListComp elt [⟨.Name t tp, iter, [], 0⟩] scope pos) spos) (.assignC j (.comp (capsOf sc scope) i ce ci)) := by
  intro n Γ loc H s QA XA Q E x F w P X
  rw [zs4] at w
  have hsw : swapsWith (.ListComp elt [⟨.Name t tp, iter, [], 0⟩] scope pos) (some (.Name y py)) spos.line Γ.env = pure true := by
    unfold swapsWith
    show pure _ = _
    have e1 : (Γ.env.blockKind == .function) = true := by
      unfold Env.blockKind; rw [x.ok.kind]; rfl
    have e2 : (Γ.env.kindOf y == some .local) = true := by rw [kindOf_of x hk]; rfl
    have e3 : (py.line == (Expr.ListComp elt [⟨.Name t tp, iter, [], 0⟩] scope pos).pos.line) = true := hline
    rw [e1, e2, e3, hnn]; rfl
  rw [exec_Assign_Name_used _ _ _ _ hsw]
  refine wpAny_bind (wpAny_standAt (wpAny_bind ?_))
  show wpAny _ _ (do let _ ← comprehension (.ListComp elt [⟨.Name t tp, iter, [], 0⟩] scope pos) scope Γ.env _ (newList []) false (eval iter Γ.env) (some (assign (.Name y py) Γ.env))) _ _ s
  refine wpAny_bind (wpAny_mono (Q := fun _ s' => Q .next s') (comp_core (use := some (assign (.Name y py) Γ.env)) O ht hti hi he x w (fun a H' c s' hq S' OC hm => ?_) X) (fun _ s' hq => wpAny_pure (wpAny_pure hq)) fun _ _ e => e)
  obtain ⟨m, hm⟩ := hm
  show wpAny _ _ (assign (.Name y py) Γ.env (.ref a)) _ _ _
  refine wpAny_assign_Name (store_local S' hk hj (v := .ref a) rfl fun h₂ hsb₂ S₂ => ?_)
  refine ⟨m, hm.sameBut hsb₂ OC.l, fun h₃ hsb₃ => ?_⟩
  exact P .next .next _ _ _ hq trivial ⟨S₂.ok, S₂.nm, S₂.sc.heap (S₂.sc.cc.other S₂.ok hsb₃ OC.h OC.b OC.f OC.l OC.c OC.m) (tk := s'.toks + 1), S₂.tk⟩

theorem EC.join {h : Heap} {e : Value} {H' : AHeap} {loc' : Loc} (hΓ : Γ.Ok g n) (x : CC g Γ loc H h h) (y : EC g (Γ.sub h H) H' e s) : EC g Γ H' e s := by
  obtain ⟨⟨a, B, l, q1, q2, q3⟩, h1, h2⟩ := y
  exact ⟨⟨a, B, l, q1, x.join hΓ q2, q3⟩, h1, h2⟩

theorem loopX (x : St g n sc Γ loc H s) (F : Fm Γ) {XA : AHeap → Prop} {E : Value → Shared → Prop} (X : XPost g Γ XA E) :
    XPost g Γ XA (notedBy (model g.prog g.w) Γ.A Γ.env fun e s' => cameBackBy (model g.prog g.w) Γ.A Γ.env E e s') :=
  fun e H' s' hx ec => ec_loop x.ok F.fr ec fun s'' z => X e H' s'' hx z

theorem ss_while {t : Expr} {b : List Stmt} {ct : C} {cb : S} {pos : Pos} (ht : ST g sc t ct) (hb : SSs g sc b cb) : SS g sc (.While t b [] pos) (.while ct cb) := by
  intro n Γ loc H s QA XA Q E x F w P X
  simp only [zs10] at w
  obtain ⟨I, μ, hI, turn⟩ := w
  refine wpAny_While (codeAny_whileLoop (fun m s' => ∃ loc₁ H₁, I loc₁ H₁ ∧ μ loc₁ H₁ = m ∧ St g n sc Γ loc₁ H₁ s') ?_ (μ loc H) ⟨loc, H, hI, rfl, x⟩)
  rintro m s' ⟨loc₁, H₁, hI₁, rfl, x₁⟩
  have X' := loopX x F X
  refine ht n Γ loc₁ H₁ s' _ XA _ _ x₁ (turn loc₁ H₁ hI₁) (fun r H₂ s₂ w₂ x₂ => ?_) X'
  cases r with
  | true =>
    rw [if_pos rfl] at w₂ ⊢
    refine hb n Γ loc₁ H₂ s₂ _ XA _ _ x₂ F w₂ (fun f cf loc₃ H₃ s₃ w₃ fr x₃ => ?_) X'
    cases f with
    | next => cases cf <;> first | exact ⟨_, w₃.2, loc₃, H₃, w₃.1, rfl, x₃⟩ | exact fr.elim
    | ret v => cases cf <;> first | exact P (.ret v) _ loc₃ H₃ s₃ w₃ fr x₃ | exact fr.elim
  | false =>
    rw [if_neg (by decide)] at w₂ ⊢
    exact wpAny_execs_nil (P .next .next loc₁ H₂ s₂ w₂ trivial x₂)

theorem ss_for {y : Str} {it : Expr} {b : List Stmt} {ci : C} {cb : S} {i : Nat} {np pos : Pos} (hk : sc.kind y = some .local) (hi : sc.slot y = some i) (hit : SI g sc it ci) (hb : SSs g sc b cb) : SS g sc (.For (.Name y np) it b [] pos) (.for i ci cb) := by
  intro n Γ loc H s QA XA Q E x F w P X
  simp only [zs11] at w
  refine wpAny_For (hit.2 n Γ loc H s _ XA _ E x w (fun items src a H₁ s₁ w₁ x₁ I₁ O₁ _ => ?_) X) (hit.1 _)
  obtain ⟨I, hI0, turn, fin⟩ := w₁
  refine codeAny_forLoop (fun m s' => ∃ k loc₂ H₂, m = items.length - k ∧ k ≤ items.length ∧ I k loc₂ H₂ ∧ St g n sc Γ loc₂ H₂ s' ∧ Iter s'.heap a items src k ∧ Oth g Γ H₂ a) ?_ (items.length - 0) ⟨0, loc, H₁, rfl, Nat.zero_le _, hI0, x₁, I₁, O₁⟩
  rintro m s' ⟨k, loc₂, H₂, rfl, hkl, hI, S, It, O⟩
  have X' := loopX x F X
  by_cases hlt : k < items.length
  · obtain ⟨v, hv⟩ : ∃ v, items[k]? = some v := ⟨_, List.getElem?_eq_getElem hlt⟩
    obtain ⟨hsrc, body⟩ := turn k loc₂ H₂ v hv hI
    refine wpAny_with_toks (n := 1) S.tk (iter_next S.sc It hsrc hv fun cv h' tk r I' hsb htk => ?_)
    have C1 := S.sc.cc.other S.ok hsb O.h O.b O.f O.l O.c O.m
    have S1 : St g n sc Γ loc₂ H₂ { s' with heap := h', toks := tk } := ⟨S.ok, S.nm, S.sc.heap C1, htk⟩
    refine wpAny_assign_Name (store_local S1 hk hi r fun h₂ hsb₂ S2 => ?_)
    have I2 : Iter h₂ a items src (k + 1) := I'.at fun o e => (hsb₂.2 a O.l).trans e
    obtain ⟨oi, hoi⟩ := I2.some
    refine hb n (Γ.sub h₂ H₂) _ H₂ _ _ XA _ _ S2.sub (F.sub _ _) body (fun f cf loc₃ H₃ s₃ w₃ fr S3 => ?_) (fun e H' s'' hx ec => X' e H' s'' hx (ec.join (loc' := loc₂) S2.ok S2.sc.cc))
    obtain ⟨kI, OI⟩ := O.kept S.ok S3.sc.cc hoi
    have S4 := S2.join S3
    cases f with
    | next => cases cf <;> first | exact ⟨items.length - (k + 1), by exact (Nat.sub_succ_lt_self _ _ (by assumption)), k + 1, loc₃, H₃, rfl, hlt, w₃, S4, I2.at (fun o e => by rw [hoi] at e; cases e; exact kI), OI⟩ | exact fr.elim
    | ret v => cases cf <;> first | exact P (.ret v) _ loc₃ H₃ s₃ w₃ fr S4 | exact fr.elim
  · have hk' : k = items.length := by omega
    subst hk'
    obtain ⟨hsrc, hq⟩ := fin loc₂ H₂ hI
    refine iter_end S.ok.hd S.sc It hsrc rfl fun h' he => wpAny_execs_nil (P .next .next loc₂ H₂ _ hq trivial ⟨S.ok, S.nm, S.sc.heap (S.sc.cc.ext O he) (tk := s'.toks), S.tk⟩)
end Mine
end

section
set_option genSizeOf false
set_option genSizeOfSpec false
open PySem PySem.W PyProof.Rows PySem.Calls
set_option Elab.async false
set_option maxRecDepth 100000
set_option linter.unusedVariables false
set_option linter.unusedSimpArgs false
namespace Mine
variable {g : G} {Γ : Cx} {loc : Loc} {H : AHeap} {n : Nat} {s : Shared} {sc : Sc}

/-! ## two names at once -/
theorem ite_ne {α : Type} {c : Prop} {d : Decidable c} {x z y : α} (h1 : ¬ c) (h2 : z = y) : (if c then x else z) = y := (if_neg h1).trans h2
theorem any_two {p : Expr → Bool} {a b : Expr} (h : ∀ e, noStar e = true → p e = false) (ha : noStar a = true) (hb : noStar b = true) : ¬ ([a, b].any p) = true := by
  rw [List.any_cons, h a ha, List.any_cons, h b hb]; exact noB
theorem swapped_two {x y : Str} {px py tp vp : Pos} {k k2 : Nat} {a b : Expr} {env : Env} (hf : env.blockKind = .function) (hx : env.kindOf x = some .local) (hy : env.kindOf y = some .local) (hxy : x ≠ y) (hl : (py.line == px.line) = true)
    (h1 : (foldedForSure 8 a && foldedForSure 8 b) = false) (h2 : (constantsAlone 8 a && constantsAlone 8 b) = false) (hs : noStar a = true) (hs' : noStar b = true) :
    swappedStores [.Tuple [.Name x px, .Name y py] k tp] (.Tuple [a, b] k2 vp) env = pure (some [x, y]) := by
  refine ite_ne ?_ (ite_ne (any_two (fun e => ?_) hs hs') ?_)
  · show ¬ (env.blockKind != .function) = true
    rw [hf]; exact noB
  · cases e <;> first | exact fun _ => rfl | exact noB
  · have hn : ([.Name x px, .Name y py] : List Expr).filterMap (fun | .Name id pos => if env.kindOf id == some .local && pos.line == px.line then some id else none | _ => none) = [x, y] := by
      rw [List.filterMap_cons, List.filterMap_cons, List.filterMap_nil]
      dsimp only
      rw [hx, hy, hl, show (px.line == px.line) = true from beq_self_eq_true _]; rfl
    extract_lets line names
    have hm : names = [x, y] := hn
    clear_value names
    subst hm
    refine ite_ne ?_ (ite_ne ?_ ?_)
    · rw [List.eraseDups_cons, List.filter_cons, show (!(y == x)) = true from by rw [beq_eq_false_iff_ne.mpr (Ne.symm hxy)]; rfl]
      exact noB
    · show ¬ (foldedForSure 8 a && (foldedForSure 8 b && true)) = true
      rw [Bool.and_true, h1]; exact noB
    · refine ite_ne ?_ rfl
      show ¬ (constantsAlone 8 a && (constantsAlone 8 b && true)) = true
      rw [Bool.and_true, h2]; exact noB

theorem ite_to {α : Type} {c : Prop} {d : Decidable c} {x z y : α} (h1 : x = y) (h2 : ¬ c → z = y) : (if c then x else z) = y := by
  cases d with
  | isTrue e => exact h1
  | isFalse e => exact h2 e

theorem filterMap_all {β : Type} {f : Expr → Option β} (hf : ∀ e, f e ≠ none → isName e = true) : ∀ l : List Expr, (l.filterMap f).length = l.length → l.all isName = true
  | [], _ => rfl
  | a :: r, h => by
    rw [List.filterMap_cons] at h
    cases e : f a with
    | none =>
      rw [e] at h
      exact absurd (h ▸ List.length_filterMap_le f r : (a :: r).length ≤ r.length) (Nat.not_succ_le_self _)
    | some b =>
      rw [e] at h
      rw [List.all_cons, hf a (by rw [e]; exact nofun), filterMap_all hf r (Nat.succ.inj h)]; rfl

theorem swapped_none {ts vs : List Expr} {k k2 : Nat} {tp vp : Pos} {env : Env} (h : (vs.length != ts.length || !ts.all isName || vs.all (foldedForSure 8)) = true) : swappedStores [.Tuple ts k tp] (.Tuple vs k2 vp) env = pure none := by
  refine ite_to rfl fun c1 => ite_to rfl fun c2 => ite_to rfl fun c3 => ite_to rfl fun c4 => ?_
  rw [Bool.or_eq_true, Bool.or_eq_true] at h
  rw [Bool.or_eq_true, Bool.or_eq_true, not_or, not_or] at c1
  rw [Bool.or_eq_true, not_or, Bool.not_eq_true, bne_eq_false_iff_eq] at c3
  rcases h with (h | h) | h
  · exact absurd h c1.1.2
  · rw [filterMap_all (fun e he => ?_) ts c3.1] at h
    · exact noB h
    · cases e <;> first | rfl | exact absurd rfl he
  · exact absurd h c4
theorem swapped_plain {ts : List Expr} {k : Nat} {tp : Pos} (env : Env) {v : Expr} : noTuple v = true → swappedStores [.Tuple ts k tp] v env = pure none := by
  cases v <;> first | exact fun _ => rfl | exact noB

theorem assignStores_two (env : Env) (v : Value) (x y : Str) (st : List (Value → Sem Unit)) : assignStores env v (some [x, y]) st = (rule "assign.swapped-stores" >>= fun _ => unpackItems v 2 none >>= fun items =>
    assignInOrder [fun u => bindName env y u, fun u => bindName env x u] items.reverse >>= fun _ => pure Flow.next) := rfl

theorem ss_assign2 {x y : Str} {i j : Nat} {px py tp vp pos : Pos} {k k2 : Nat} {a b : Expr} {ca cb : C} (hkx : sc.kind x = some .local) (hky : sc.kind y = some .local) (hi : sc.slot x = some i) (hj : sc.slot y = some j) (hxy : x ≠ y) (hl : (py.line == px.line) = true)
    (h1 : (foldedForSure 8 a && foldedForSure 8 b) = false) (h2 : (constantsAlone 8 a && constantsAlone 8 b) = false) (hs : noStar a = true) (hs' : noStar b = true) (hab : SLn g sc [a, b] (.cons ca (.cons cb .nil))) :
    SS g sc (.Assign [.Tuple [.Name x px, .Name y py] k tp] (.Tuple [a, b] k2 vp) pos) (.assign2 i j ca cb) := by
  intro n Γ loc H s QA XA Q E x' F w P X
  rw [zs5] at w
  have w' : wpL g n loc (.cons ca (.cons cb .nil)) (fun vs H₂ => match vs with
      | [va, vb] => QA .next ((loc.set j (some vb)).set i (some va)) H₂
      | _ => False) XA H := w
  rw [exec_Assign_arm]
  refine wpAny_bind (wpAny_standAt ?_)
  refine wpAny_bind (wpAny_pure (a := false) ?_)
  rw [if_neg (by decide)]
  refine wpAny_bind (wpAny_Tuple (hab.2 n Γ loc H s _ XA _ E vp x' w' (fun vs cvs H₁ s₁ w₁ r₁ x₁ => ?_) X))
  split at w₁
  · rename_i va vb
    obtain ⟨cva, cvb, rfl, ra, rb⟩ := vrels2 r₁
    refine ⟨by rw [sizeLine_eq]; show 2 ≤ _; exact (by decide), ?_⟩
    rw [swapped_two (by unfold Env.blockKind; rw [x'.ok.kind]; rfl) (kindOf_of x' hkx) (kindOf_of x' hky) hxy hl h1 h2 hs hs']
    refine wpAny_bind (wpAny_pure ?_)
    rw [assignStores_two]
    obtain ⟨x₂, O⟩ := sc_oth x₁ { cls := .type "tuple", data := .seq [cva, cvb].toArray }
    refine wpAny_bind (wpAny_rule (wpAny_bind ?_))
    have ht : IsTup (s₁.heap.push { cls := .type "tuple", data := .seq [cva, cvb].toArray }) s₁.heap.objs.size #[cva, cvb] := ⟨_, Heap.get?_push_size _ rfl, rfl, 0, rfl⟩
    have h22 : (#[cva, cvb] : Array Value).size = 2 := rfl
    rw [← h22]
    refine unpackItems_tuple x₂.ok.hd ht fun h' hext => ?_
    have O2 := Oth.fresh x₂.ok x₂.sc.cc (a := (s₁.heap.push { cls := .type "tuple", data := .seq [cva, cvb].toArray }).objs.size) get_size_none
    have x₃ : St g n sc Γ loc H₁ { s₁ with heap := h' } := ⟨x₂.ok, x₂.nm, x₂.sc.heap (x₂.sc.cc.ext O2 hext) (tk := s₁.toks), x₂.tk⟩
    refine wpAny_bind ?_
    show wpAny _ _ (do holding [cva] (bindName Γ.env y cvb); (do holding [] (bindName Γ.env x cva); pure ())) _ _ _
    refine wpAny_bind (wpAny_holding (wpAny_bindName (store_local x₃ hky hj rb fun h₄ _ x₄ => ?_)))
    refine wpAny_bind (wpAny_holding (wpAny_bindName (store_local x₄ hkx hi ra fun h₅ _ x₅ => ?_)))
    exact wpAny_pure (wpAny_pure (P .next .next _ _ _ w₁ trivial x₅))
  · exact w₁.elim

/-! ## exceptions -/
/-- the making of an exception of the class Die -/
def DieMake (g : G) : Prop := ∀ (A : Around) (s : Shared) (cv : Value) (Q E : Value → Shared → Prop), A.handled = none → A.depth + 4 < recursionLimit → g.base.StaysIn s.heap →
  (∀ a s' oe vs a0, s.heap.get? a = none → (∀ b o, s.heap.get? b = some o → s'.heap.get? b = some o) → s'.heap.get? a = some oe → oe.cls = .ref (g.addr "Die") → oe.data = .fields vs → vs[1]? = some .none → vs[0]? = some a0 →
    s'.os = s.os → s'.gens = s.gens → Q (.ref a) s') → wpAny (model g.prog g.w) A (call (.ref (g.addr "Die")) [cv]) Q E s

structure DieOk (g : G) : Prop where
  make : DieMake g
  keep : keepIn g.K (.ref (g.addr "Die")) = true
  ty : typeIn g.K (.ref (g.addr "Die")) = some (.type "type")
  cls : (clsIn g.K (g.addr "Die")).isSome = true
  base : subIn g.K (.ref (g.addr "Die")) (.type "BaseException") = some true
  self : subIn g.K (.ref (g.addr "Die")) (.ref (g.addr "Die")) = some true
  tup : instIn g.K (.ref (g.addr "Die")) (.type "tuple") = some false

theorem ss_raise (G : GOk g) (D : DieOk g) {y : Str} {e : Expr} {c : C} {np cp pos : Pos} (hy : (y == ("Die" : Str)) = true) (hg : isGlob sc y = true) (he : SE g sc e c) (hs : ∀ env, starEach [e] env = [(false, eval e env)]) :
    SS g sc (.Raise (some (.Call (.Name y np) [e] [] cp)) none pos) (.raise c) := by
  intro n Γ loc H s QA XA Q E x F w P X
  simp only [zs13] at w
  obtain ⟨hk, hd⟩ := isGlob_kind (by rw [hg]; rfl)
  obtain rfl := eq_of_beq hy
  show wpAny _ _ (do standAt pos; raiseStmt Γ.env (some (do let v ← eval (.Call (.Name _ np) [e] [] cp) Γ.env; standAt pos; pure v)) none) Q E s
  refine wpAny_bind (wpAny_standAt ?_)
  unfold raiseStmt
  refine wpAny_bind (wpAny_bind ?_)
  show wpAny _ _ (eval (.Name _ np) Γ.env >>= fun fv => callWith cp fv [] (backTo cp (starEach [e] Γ.env)) []) _ E s
  refine wpAny_bind (ev_glob G x hk hd G.die ?_)
  refine callWith_of (P := fun h => g.base.StaysIn h) (by rw [hs]; rfl) (fun h k => keeps_K D.keep h (G.KX.keeps k)) ?_
  rw [hs]
  refine evalArgs_plain (spliced_cons (he n Γ loc H s _ XA _ E x w (fun v cv H₁ s₁ w₁ r₁ x₁ => spliced_nil ⟨x₁.sc.cc.stay, ?_⟩) X))
  obtain ⟨hn, _, hx⟩ := w₁
  have hdp := x₁.ok.dp
  refine D.make Γ.A s₁ cv _ _ x₁.ok.hd (by omega) x₁.sc.cc.stay fun a s₂ oe vs a0 q1 q2 q3 q4 q5 q6 q7 q8 q9 => ?_
  refine wpAny_bind (wpAny_standAt (wpAny_pure ?_))
  have KX : g.K.In s₂.heap := G.KX.keeps fun b o z => q2 _ _ (x₁.sc.cc.stay b o z)
  have Lt : Looks (model g.prog g.w) s₂.heap (typeOf (.ref a)) (.ref (g.addr "Die")) := q4 ▸ (Looks.ld q3).andThen .now
  have Li : Looks (model g.prog g.w) s₂.heap (isType (.ref a)) false := by
    unfold isType
    refine (Looks.ld (part := some headPart) q3).andThen ?_
    rw [q5]; exact .now
  have Lb : Looks (model g.prog g.w) s₂.heap (isInstance (.ref a) (.type "BaseException")) true := Lt.andThen (looks_subIn KX D.base)
  refine wpAny_bind (wpAny_pure (wpAny_bind (wpAny_holding ?_)))
  unfold excFromValue isExcClass
  refine wpAny_bind (wpAny_bind (Li.here ?_))
  rw [if_neg (by decide)]
  refine wpAny_pure ?_
  rw [if_neg (by decide)]
  refine wpAny_bind (Lb.here ?_)
  rw [if_pos rfl]
  refine wpAny_pure ?_
  dsimp only
  refine wpAny_bind (wpAny_bind (wpAny_bind ((Looks.ld (part := some headPart) q3).here (wpAny_pure ?_))))
  rw [q5]
  refine wpAny_pure ?_
  simp only [Bool.false_eq_true, if_false]
  unfold raisedInstance
  refine wpAny_bind (wpAny_bind (Lt.here (wpAny_bind ((looks_typeIn KX D.ty).here ?_))))
  rw [if_pos (by decide)]
  refine wpAny_pure (wpAny_bind ?_)
  unfold setFlight
  refine wpAny_bind (wpAny_field q3 q5 q6 ?_)
  rw [if_neg (by decide)]
  refine wpAny_pure (wpAny_raiseNew_none x₁.ok.hd (X _ H₁ s₂ hx ?_))
  refine ⟨⟨a, hideAll s₁.heap (fsOf Γ.stack), loc, rfl, ?_, ?_⟩, q8.trans x₁.sc.os, q9.trans x₁.sc.gens⟩
  · exact (x₁.sc.cc.hide x₁.ok).keeps (fun _ _ z => z) q2
  · refine ⟨?_, ?_, ?_, .inl ⟨oe, vs, a0, q3, q4, q5, q6, q7⟩⟩
    · exact fun b o z => q2 _ _ (of_hideAll _ z)
    · cases z : (hideAll s₁.heap (fsOf Γ.stack)).get? a with
      | none => rfl
      | some o => have := of_hideAll _ z; rw [q1] at this; cases this
    · exact ff_of (fun b _ o z hd => ⟨o, q2 _ _ z, hd⟩) (ff_hide x₁.sc.cc.ff)
end Mine
end

section
set_option genSizeOf false
set_option genSizeOfSpec false
open PySem PySem.W PyProof.Rows PySem.Calls
set_option Elab.async false
set_option maxRecDepth 100000
set_option linter.unusedVariables false
set_option linter.unusedSimpArgs false
namespace Mine
variable {g : G} {Γ : Cx} {loc : Loc} {H : AHeap} {n : Nat} {s : Shared} {sc : Sc}

theorem exc_matches {M : Model} {A : Around} {E : Value → Shared → Prop} {Q : Bool → Shared → Prop} {K : Frag} {C e : Addr} {oe : Obj} (KX : K.In s.heap) (he : s.heap.get? e = some oe) (hc : oe.cls = .ref C)
    (ht : instIn K (.ref C) (.type "tuple") = some false) (hcl : (clsIn K C).isSome = true) (hb : subIn K (.ref C) (.type "BaseException") = some true) (hs : subIn K (.ref C) (.ref C) = some true) (h : Q true s) :
    wpAny M A (excMatches (.ref e) (.ref C)) Q E s := by
  have Lt : Looks M s.heap (typeOf (.ref e)) (.ref C) := hc ▸ (Looks.ld he).andThen .now
  obtain ⟨cd, hcd⟩ := Option.isSome_iff_exists.mp hcl
  have Ly : Looks M s.heap (isType (.ref C)) true := by
    unfold clsIn at hcd
    split at hcd
    · rename_i ho
      unfold isType
      exact (Looks.ld (part := some headPart) (KX _ _ ho)).andThen .now
    · cases hcd
  have L1 : Looks M s.heap (isInstance (.ref C) (.type "tuple")) false := looks_instIn KX ht
  have L2 := looks_subIn (M := M) KX hb
  have L3 := looks_subIn (M := M) KX hs
  have Le : Looks M s.heap (isExcClass (.ref C)) true := by
    unfold isExcClass
    refine Ly.andThen ?_
    rw [if_pos rfl]
    exact L2
  unfold excMatches
  refine wpAny_bind (L1.here ?_)
  dsimp only
  simp only [Bool.false_eq_true, if_false, pure_bind, List.forIn_cons, List.forIn_nil]
  refine wpAny_bind (wpAny_bind (wpAny_bind (Le.here ?_)))
  simp only [Bool.not_true, Bool.false_eq_true, if_false]
  refine wpAny_pure (wpAny_pure (wpAny_bind (Lt.here ?_)))
  refine wpAny_bind (wpAny_bind (wpAny_bind (L3.here ?_)))
  simp only [if_true]
  exact wpAny_pure (wpAny_pure (wpAny_pure h))

theorem CC.up {B h : Heap} (x : CC g Γ loc H B h) (hB : B.StaysIn h) : CC g Γ loc H h h := x.keeps hB fun _ _ e => e

theorem ss_try (G : GOk g) (D : DieOk g) {b : List Stmt} {cb : S} {y : Str} {np hp rp cp pos : Pos} {k : Nat} (hy : (y == ("Die" : Str)) = true) (hg : isGlob sc y = true) (hb : SSs g sc b cb) :
    SS g sc (.Try b [.ExceptHandler (some (.Name y np)) none [.Return (some (.Constant .none k cp)) rp] hp] [] [] pos) (.tryDie cb) := by
  intro n Γ loc H s QA XA Q E x F w P X
  simp only [zs14] at w
  obtain ⟨hk, hd⟩ := isGlob_kind (by rw [hg]; rfl)
  obtain rfl := eq_of_beq hy
  refine wpAny_with_toks (n := 1) x.tk (wpAny_Try_except (hb n Γ loc H s _ _ _ _ x F w (fun f cf loc' H' s' w' fr y => ?_) (fun e H' s₁ hx ec => ?_)))
  · cases f with
    | next => cases cf <;> first | exact wpAny_execs_nil (fun _ => P .next .next _ _ _ w' trivial y) | exact fr.elim
    | ret v => cases cf <;> first | exact fun _ => P _ _ _ _ _ w' fr y | exact fr.elim
  · refine ec_note x.ok F.fr ec fun s₂ eh => ?_
    obtain ⟨⟨a, B, loc₁, a0, rfl, C1, held⟩, ho, hge⟩ := eh
    refine wpAny_landsW held fun h₃ fl u₃ => ?_
    have C3 := (C1.slots F.fr.mem u₃ fl.2.2.1)
    obtain ⟨oe, hoe, hcl⟩ := fl.there
    refine wpAny_handleBy_cons (codeAny_handlers_test ?_) (by intro z; cases z)
    refine Name_function_global x.ok.kind (kindOf_of x hk) (loadGlobal_global (mg := g.mg) (by rw [x.ok.gl]; exact G.hmg.keeps (C3.up fl.1).stay) G.die ?_) hd
    refine exc_matches (s := { s₂ with heap := h₃ }) (K := g.K) (G.KX.keeps (C3.up fl.1).stay) hoe hcl D.tup D.cls D.base D.self ?_
    refine codeAny_handlers_suite ?_
    refine wpAny_setFlight_noneW (fl := .none) fl.1 fl.2.2.1 fl.2.2.2 fun h₄ k1 k2 k3 k4 => ?_
    have C4 := C3.slots F.fr.mem (fun b o z hn => ⟨o.slots, k4 b o z hn⟩) k2
    refine wpAny_execs_cons (wpAny_Return_some (wpAny_Constant_none ?_))
    intro t
    exact P (.ret .none) (.ret .none) loc₁ H' _ (hx loc₁) trivial ⟨x.ok, x.nm, ⟨C4.up k1, ho, hge⟩, t⟩
end Mine
end

section
set_option genSizeOf false
set_option genSizeOfSpec false
open PySem PySem.W PyProof.Rows PySem.Calls
set_option Elab.async false
set_option maxRecDepth 100000
set_option linter.unusedVariables false
set_option linter.unusedSimpArgs false
namespace Mine
variable {g : G} {sc : Sc}

theorem unfoldedE {a b : Expr} (h : unfolded a b = true) : (foldedForSure 8 a && foldedForSure 8 b) = false ∧ (constantsAlone 8 a && constantsAlone 8 b) = false :=
  andB h fun h1 h2 => ⟨notB h1, notB h2⟩

theorem onDieE {β : Type} {c : β} {M : ExceptHandler → Prop} {f : Str → Option β} (k : ∀ x p q r s m, f x = some c → M (.ExceptHandler (some (.Name x p)) none [.Return (some (.Constant .none m s)) r] q)) {h : ExceptHandler} (w : onDie h f = some c) : M h := by
  obtain ⟨t, n, b, q⟩ := h
  refine onNo (o := n) w fun e w => ?_
  subst e
  cases t with
  | none => exact noS w
  | some t =>
    refine onNameE (M := fun t => M (.ExceptHandler (some t) none b q)) (fun x p w => ?_) w
    refine on1E (M := fun b => M (.ExceptHandler _ none b q)) w fun s w => ?_
    refine onRetE (M := fun s => M (.ExceptHandler _ none [s] q)) (fun e r w => ?_) w
    cases e with
    | none => exact noS w
    | some e => exact onNoneE (M := fun e => M (.ExceptHandler _ none [.Return (some e) r] q)) (fun m s w => k x p q r s m w) w

theorem snd_s {f : Nat} (G : GOk g) (D : DieOk g) (S : ScOk g sc) (F : ∀ b c, toSs f sc b = some c → SSs g sc b c) {st : Stmt} {c : Mine.S} (h : toS (f + 1) sc st = some c) : SS g sc st c := by
  have E := sound G f
  cases st with
  | Assign tgts v p =>
    refine on1E (M := fun l => SS g sc (.Assign l v p) c) h fun t h => onTupleE (M := fun t => SS g sc (.Assign [t] v p) c) (fun ts n q h => ?_) (fun ht h => ?_) h
    · refine onTupleE (M := fun v' => toE f sc v = toE f sc v' → SS g sc (.Assign [.Tuple ts n q] v' p) c) (fun vs n2 q2 h ev => ?_) (fun hv h _ => ?_) h rfl
      · refine iteO h (fun hc h => bindS h fun cv hv h => mapS (M := SS g sc _) h fun ct ht => ss_assignT rfl (fun env => swapped_none hc) (E.e _ S _ _ (ev ▸ hv)) (snd_tgs G S ht)) fun h => ?_
        refine on2E (M := fun l => SS g sc (.Assign [.Tuple l n q] _ p) c) h fun tx ty h => on2E (M := fun l => SS g sc (.Assign _ (.Tuple l n2 q2) p) c) h fun a b h => ?_
        refine onNameE (M := fun t => SS g sc (.Assign [.Tuple [t, ty] n q] _ p) c) (fun x px h => ?_) h
        refine onNameE (M := fun t => SS g sc (.Assign [.Tuple [_, t] n q] _ p) c) (fun y py h => ?_) h
        refine iteS h fun hl h => iteS h fun hc h => andB hc fun hc hb => andB hc fun hc ha => andB hc fun hc hu => andB hc fun hc hxy => andB hc fun hx hy => ?_
        exact bindS h fun ca h1 h => bindS h fun cb h2 h => bindS h fun i hi h => mapS (M := SS g sc _) h fun j hj =>
          ss_assign2 (eq_of_beq hx) (eq_of_beq hy) hi hj (bne_iff_ne.mp hxy) hl (unfoldedE hu).1 (unfoldedE hu).2 ha hb (sl_cons (fun env => noStarE _ env ha) (E.e _ S _ _ h1) (sl_cons (fun env => noStarE _ env hb) (E.e _ S _ _ h2) sl_nil))
      · exact iteS h fun hp h => bindS h fun cv h1 h => mapS (M := SS g sc _) h fun ct ht => ss_assignT hp (fun env => swapped_plain env hv) (E.e _ S _ _ h1) (snd_tgs G S ht)
    · refine iteO h (fun hp h => bindS h fun cv hv h => mapS (M := SS g sc _) h fun ct ht => ss_assign hp (E.e _ S _ _ hv) (snd_tg G S ht)) fun h => ?_
      cases v with
      | ListComp elt gens scope p2 =>
        refine on1E (M := fun l => SS g sc (.Assign [t] (.ListComp elt l scope p2) p) c) h fun gen h => ?_
        obtain ⟨tg, it, ifs, as⟩ := gen
        refine onNameE (M := fun e => SS g sc (.Assign [t] (.ListComp elt [⟨e, it, ifs, as⟩] scope p2) p) c) (fun tc tp h => on0E (M := fun l => SS g sc (.Assign [t] (.ListComp elt [⟨_, it, l, as⟩] scope p2) p) c) h fun h => iteS h fun z h => ?_) h
        subst z
        refine onNameE (M := fun t => SS g sc (.Assign [t] _ p) c) (fun x px h => ?_) h
        exact iteN h fun _ h => iteS h fun hc h => iteS h fun ha h => andB ha fun ha a3 => andB ha fun a1 a2 =>
          bindS h fun ci hi h => bindS h fun ce he h => bindS h fun i hi2 h => mapS (M := SS g sc _) h fun j hj =>
            ss_assignC (compOk_of hc).1 (compOk_of hc).2 hi2 (E.i _ S _ _ hi) (E.e { sc with names := relab sc.names _, comp := true } ⟨S.gv, S.fns, S.cls⟩ _ _ he) (eq_of_beq a1) hj a2 (notB a3)
      | _ => exact noS h
  | AugAssign tg op v p =>
    exact bindS h fun cv hv h => onFnE (M := fun t => SS g sc (.AugAssign t op v p) c) (fun x q h => iteS h fun hk h => mapS (M := SS g sc _) h fun i hi => ss_augL G (eq_of_beq hk) hi (E.e _ S _ _ hv))
      (fun o a q h => bindS h fun a ha h => mapS (M := SS g sc _) h fun co ho => ss_augA G ha (E.e _ S _ _ ho) (E.e _ S _ _ hv)) h
  | Expr v p =>
    refine iteS h fun hc h => ?_
    cases v with
    | Call f as ks q => exact mapS (M := SS g sc _) h fun cv hv => ss_expr (E.e _ S _ _ hv)
    | _ => exact noB hc
  | If t a b p => exact bindS h fun ct ht h => bindS h fun ca ha h => mapS (M := SS g sc _) h fun cb hb => ss_ite (E.t _ S _ _ ht) (F _ _ ha) (F _ _ hb)
  | While t b el p => exact on0E (M := fun el => SS g sc (.While t b el p) c) h fun h => bindS h fun ct ht h => mapS (M := SS g sc _) h fun cb hb => ss_while (E.t _ S _ _ ht) (F _ _ hb)
  | For tg it b el p =>
    exact onNameE (M := fun t => SS g sc (.For t it b el p) c) (fun x q h => on0E (M := fun el => SS g sc (.For _ it b el p) c) h fun h => bindS h fun ci hi h => bindS h fun cb hb h => iteS h fun hk h =>
      mapS (M := SS g sc _) h fun i hs => ss_for (eq_of_beq hk) hs (E.i _ S _ _ hi) (F _ _ hb)) h
  | Return e p =>
    cases e with
    | none => exact noS h
    | some e => exact mapS (M := SS g sc _) h fun cv hv => ss_ret (E.e _ S _ _ hv)
  | Raise e c' p =>
    refine onNo (o := c') h fun z h => ?_
    subst z
    cases e with
    | none => exact noS h
    | some e =>
      exact onRangeE (M := fun e => SS g sc (.Raise (some e) none p) c) (fun x m q r h => iteS h fun hc h => andB hc fun hc hs => andB hc fun hy hg => mapS (M := SS g sc _) h fun cv hv =>
        ss_raise G D hy hg (E.e _ S _ _ hv) fun env => noStarE _ env hs) h
  | Try b hs el fi p =>
    exact on0E (M := fun el => SS g sc (.Try b hs el fi p) c) h fun h => on0E (M := fun fi => SS g sc (.Try b hs [] fi p) c) h fun h => on1E (M := fun hs => SS g sc (.Try b hs [] [] p) c) h fun hd h =>
      onDieE (M := fun hd => SS g sc (.Try b [hd] [] [] p) c) (fun x p q r s m h => iteS h fun hc h => andB hc fun hy hg => mapS (M := SS g sc _) h fun cb hb => ss_try G D hy hg (F _ _ hb)) h
  | _ => exact noS h

theorem soundS (G : GOk g) (D : DieOk g) : ∀ f {sc : Sc}, ScOk g sc → ∀ b c, toSs f sc b = some c → SSs g sc b c
  | 0, _, _, _, _, h => noS h
  | 1, sc, S, b, c, h => by
    cases b with
    | nil => exact Option.some.inj h ▸ ss_nil
    | cons s r => exact bindS (show Option.bind (toS 0 sc s) (fun a => (toSs 0 sc r).map fun b => Mine.S.seq a b) = _ from h) fun ca ha h => noS ha
  | f + 2, sc, S, b, c, h => by
    cases b with
    | nil => exact Option.some.inj h ▸ ss_nil
    | cons s r => exact bindS (show Option.bind (toS (f + 1) sc s) (fun a => (toSs (f + 1) sc r).map fun b => Mine.S.seq a b) = _ from h) fun ca ha h => mapS (M := SSs g _ _) h fun cb hb => ss_cons (snd_s G D S (fun b c q => soundS G D f S b c q) ha) (soundS G D (f + 1) S _ _ hb)
end Mine
end

section
set_option genSizeOf false
set_option genSizeOfSpec false
open PySem PySem.W PyProof.Rows PySem.Calls
set_option Elab.async false
set_option maxRecDepth 100000
set_option linter.unusedVariables false
set_option linter.unusedSimpArgs false
namespace Mine
variable {g : G} {Γ : Cx} {loc : Loc} {H : AHeap} {n : Nat} {s : Shared} {sc : Sc}

theorem lookup_key {α : Type} {p : Str × α} : ∀ l : List (Str × α), (l.map (·.1)).Nodup → p ∈ l → l.lookup p.1 = some p.2 := by
  intro l
  induction l with
  | nil => intro _ h; cases h
  | cons q r ih =>
    intro hn hm
    rw [List.map_cons, List.nodup_cons] at hn
    obtain ⟨a, b⟩ := q
    rw [List.lookup_cons]
    rcases List.mem_cons.mp hm with rfl | hm
    · simp
    · have hne : p.1 ≠ a := fun z => hn.1 (z ▸ List.mem_map.mpr ⟨p, hm, rfl⟩)
      rw [show (p.1 == a) = false from by simpa using hne]
      exact ih hn.2 hm

theorem cells_keys : ∀ (k : Nat) (l : List (Str × NameKind)) (acc : List (Str × Addr)), (cellsFrom k l acc).map (·.1) = ((l.filter (·.2 == .cell)).map (·.1)).reverse ++ acc.map (·.1)
  | _, [], _ => rfl
  | k, (x, kd) :: r, acc => by
    unfold cellsFrom
    split
    · rename_i hk
      rw [cells_keys, List.filter_cons, if_pos (by exact hk)]
      simp
    · rename_i hk
      rw [cells_keys, List.filter_cons, if_neg (by exact hk)]
theorem cells_nodup {k : Nat} {l : List (Str × NameKind)} (h : (l.map (·.1)).Nodup) : ((cellsFrom k l []).map (·.1)).Nodup := by
  rw [cells_keys]
  simp only [List.map_nil, List.append_nil]
  have h2 := h.sublist (List.Sublist.map _ (List.filter_sublist (p := fun q : Str × NameKind => q.2 == .cell)))
  exact List.pairwise_reverse.mpr (h2.imp fun a => Ne.symm a)
theorem cells_has {k : Nat} {l : List (Str × NameKind)} {x : Str} (h : (x, NameKind.cell) ∈ l) : ∃ c, (cellsFrom k l []).lookup x = some c := by
  cases e : (cellsFrom k l []).lookup x with
  | some c => exact ⟨c, rfl⟩
  | none =>
    have hm : x ∈ (cellsFrom k l []).map (·.1) := by
      rw [cells_keys]
      simp only [List.map_nil, List.append_nil, List.mem_reverse, List.mem_map, List.mem_filter]
      exact ⟨(x, .cell), ⟨h, rfl⟩, rfl⟩
    obtain ⟨p, hp, rfl⟩ := List.mem_map.mp hm
    have := List.lookup_eq_none_iff.mp e _ hp
    simp at this

theorem bindL_out {kd : Str → Option NameKind} {x : Str} : ∀ (b : List (Str × Value)) (m : Str → Option Value), x ∉ b.map (·.1) → bindL kd b m x = m x
  | [], _, _ => rfl
  | (y, v) :: r, m, h => by
    rw [List.map_cons, List.mem_cons, not_or] at h
    unfold bindL
    rw [bindL_out r _ h.2]
    split
    · exact if_neg h.1
    · rfl
theorem bindL_in {kd : Str → Option NameKind} {x : Str} {cv : Value} (hk : kd x = some .local) : ∀ (b : List (Str × Value)) (m : Str → Option Value), (b.map (·.1)).Nodup → (x, cv) ∈ b → bindL kd b m x = some cv
  | (y, v) :: r, m, hn, h => by
    rw [List.map_cons, List.nodup_cons] at hn
    unfold bindL
    rcases List.mem_cons.mp h with h | h
    · cases h
      rw [bindL_out r _ hn.1, if_pos hk]
      exact if_pos rfl
    · exact bindL_in hk r _ hn.2 h
theorem bindC_out {kd : Str → Option NameKind} {x : Str} : ∀ (b : List (Str × Value)) (m : Str → Option Value), x ∉ b.map (·.1) → bindC kd b m x = m x
  | [], _, _ => rfl
  | (y, v) :: r, m, h => by
    rw [List.map_cons, List.mem_cons, not_or] at h
    unfold bindC
    rw [bindC_out r _ h.2]
    split
    · rfl
    · exact if_neg h.1
theorem bindC_in {kd : Str → Option NameKind} {x : Str} {cv : Value} (hk : kd x = some .cell) : ∀ (b : List (Str × Value)) (m : Str → Option Value), (b.map (·.1)).Nodup → (x, cv) ∈ b → bindC kd b m x = some cv
  | (y, v) :: r, m, hn, h => by
    rw [List.map_cons, List.nodup_cons] at hn
    unfold bindC
    rcases List.mem_cons.mp h with h | h
    · cases h
      rw [bindC_out r _ hn.1, if_neg (by rw [hk]; intro e; cases e)]
      exact if_pos rfl
    · exact bindC_in hk r _ hn.2 h

/-- a function of the text -/
structure FnData (g : G) (a : Addr) (names : List (Str × NameKind)) (bdy : Mine.S) (fd : FuncData) : Prop where
  ob : ∃ o, g.base.get? a = some o ∧ o.data = .func fd
  co : fd.scope.isCoroutine = false
  gn : fd.scope.isGenerator = false
  cd : g.base.CodeRec fd.code fd.qualname
  gl : fd.globals = mainGlobals
  bl : fd.builtins = builtinsNs
  cl : fd.closure = []
  kd : fd.scope.kind = .function
  nm : fd.scope.names = names
  nd : (names.map (·.1)).Nodup
  bd : ∃ body f, fd.body = .stmts body ∧ toSs f ⟨names, g.gv, g.fns, g.cl, false⟩ body = some bdy

/-- the frame of a call -/
noncomputable def calleeEnv (s : Shared) (fd : FuncData) (a : Addr) : Env :=
  newEnv fd.scope s.heap.objs.size fd.globals (cellsFrom (s.heap.objs.size + 1) fd.scope.names []) (fd.qualname ++ ".<locals>.") (some a) fd.code none fd.builtins
noncomputable def Cx.callee (Γ : Cx) (H : AHeap) (s : Shared) (env : Env) : Cx :=
  { A := Γ.A.deeper env, env := env, stack := env :: Γ.stack, h₀ := s.heap, mu := fun b => ∃ o, H b = some o, own := cellsOf env, os := Γ.os, gens := Γ.gens }

theorem call_core (G : GOk g) (D : DieOk g) {a : Addr} {names : List (Str × NameKind)} {bdy : Mine.S} {fd : FuncData} (FD : FnData g a names bdy fd) {args : Args} {binds : List (Str × Value)} {R : Result → Shared → Prop} {l0 : Loc}
    (hΓ : Γ.Ok g (n + 1)) (x : SC g Γ loc H s) (ht : 0 < s.toks) (hb : BindsTo s fd args binds) (hbn : (binds.map (·.1)).Nodup) (hbk : ∀ p ∈ binds, names.lookup p.1 = some .local ∨ names.lookup p.1 = some .cell)
    (hl0 : l0.length = names.length) (hl : ∀ (i : Nat) y k v, names[i]? = some (y, k) → l0[i]? = some (some v) → ∃ cv, (y, cv) ∈ binds ∧ vrel cv v)
    {QA : V → AHeap → Prop} {XA : AHeap → Prop} (w : wpS g n bdy (fp QA) XA l0 H)
    (P : ∀ v cv H' s', QA v H' → vrel cv v → SC g Γ loc H' s' → R (.ok (.ret cv)) s') (X : ∀ e H' s', XA H' → EC g Γ H' e s' → R (.error e) s') :
    codeAny (model g.prog g.w) Γ.A (.call (.ref a) args) R s := by
  obtain ⟨o, ho, hd⟩ := FD.ob
  obtain ⟨body, f, hbody, hto⟩ := FD.bd
  have hdp := hΓ.dp
  refine codeAny_with_toks (n := 1) ht (codeAny_call_function (by omega) (x.cc.stay _ _ ho) hd FD.co FD.gn hbody (FD.cd.keeps x.cc.stay) (hb _ _ _ _ ?_))
  rw [FD.cl]
  refine wpAny_with_toks (n := 1) ht (wpAny_newFunctionEnv_cells FD.kd (fun p hp => ?_) (fun env henv s' I => fun ht' => ?_))
  · rw [FD.nm]
    rcases hbk p hp with h | h
    · exact .inl h
    · refine .inr ⟨h, ?_⟩
      obtain ⟨c, hc⟩ := cells_has (k := s.heap.objs.size + 1) (mem_of_lookup h)
      rw [hc]; rfl
  have e1 : env.scope = fd.scope := by rw [henv]; rfl
  have e2 : env.locals = s.heap.objs.size := by rw [henv]; rfl
  have e3 : env.globals = mainGlobals := by rw [henv]; exact FD.gl
  have e4 : env.builtins = builtinsNs := by rw [henv]; exact FD.bl
  have e5 : env.cells = cellsFrom (s.heap.objs.size + 1) names [] := by rw [henv, ← FD.nm]; rfl
  have e6 : env.frame = some env.locals := by rw [henv]; rfl
  have e7 : env.scope.names = names := by rw [e1, FD.nm]
  have hL : s.heap.get? env.locals = none := by rw [e2]; exact get_size_none
  have hcf : ∀ c ∈ cellsOf env, s.heap.get? c = none := fun c hc => by
    obtain ⟨p, hp, rfl⟩ := List.mem_map.mp hc
    have := I.above p.1 p.2 hp
    exact Heap.get?_none_of_le (by rw [e2] at this; exact Nat.le_of_lt this)
  have hcl : ∀ c ∈ cellsOf env, env.locals < c := fun c hc => by
    obtain ⟨p, hp, rfl⟩ := List.mem_map.mp hc
    exact I.above p.1 p.2 hp
  have hkeep := I.toInCall.keep
  have nf : ∀ b, s.heap.get? b = none → b ∉ fsOf Γ.stack := fun b hb hm => by obtain ⟨_, o, e, _⟩ := ff_mem x.cc.ff hm; rw [hb] at e; cases e
  have fs : fsOf (env :: Γ.stack) = env.locals :: fsOf Γ.stack := fsOf_cons e6
  have nb : ∀ b, s.heap.get? b = none → g.base.get? b = none := fun b hb => by
    cases e : g.base.get? b with
    | none => rfl
    | some o => have := x.cc.stay _ _ e; rw [hb] at this; cases this
  have knd : ∀ y, env.kindOf y = names.lookup y := fun y => by unfold Env.kindOf; rw [e7]
  have OK : (Γ.callee H s env).Ok g n := by
    refine ⟨by show (Γ.A.frames.map (env :: ·)) = _; rw [hΓ.fr]; rfl, hΓ.hd, ?_, by show env.scope.kind = _; rw [e1, FD.kd], e3, e4, nb _ hL, ?_, ?_, ?_, by show (env.scope.names.map (·.1)).Nodup; rw [e7]; exact FD.nd, fun c hc => hc, .inl (by show env.locals ∈ fsOf (env :: Γ.stack); rw [fs]; exact .head _)⟩
    · show Γ.A.depth + 1 + 2 * n < _; omega
    · intro hc; exact Nat.lt_irrefl _ (hcl _ hc)
    · intro c hc
      refine ⟨nb _ (hcf c hc), ?_⟩
      show c ∉ fsOf (env :: Γ.stack)
      rw [fs]
      intro hm
      rcases List.mem_cons.mp hm with hm | hm
      · exact Nat.ne_of_gt (hcl c hc) hm
      · exact nf c (hcf c hc) hm
    · exact I.apart
  have hns := I.toInCall.ns
  have CC0 : CC g (Γ.callee H s env) l0 H s'.heap s'.heap := {
    stay := fun b o e => hkeep _ _ (x.cc.stay b o e)
    keepX := fun b o e _ _ _ _ => hkeep _ _ e
    keepF := fun b hb hl o e => ⟨o.slots, hkeep _ _ e⟩
    ff := by
      obtain ⟨oL, es, ep, hoL, hdL, _⟩ := id hns
      refine ⟨by rw [e1, FD.kd]; decide, ⟨env.locals, oL, e6, nb _ hL, hoL, fun vs z => by rw [hdL] at z; cases z⟩, ?_⟩
      exact ff_of (fun b _ o e hd => ⟨o, hkeep _ _ e, hd⟩) x.cc.ff
    led := fun b o e => let ⟨ob, q, r⟩ := x.cc.led b o e; ⟨ob, hkeep _ _ q, r⟩
    adr := fun b o e => by
      obtain ⟨q1, q2, q3, q4, _⟩ := x.cc.adr b o e
      obtain ⟨ob, q, _⟩ := x.cc.led b o e
      refine ⟨q1, ?_, ?_, ?_, .inr ⟨o, e⟩⟩
      · show b ∉ fsOf (env :: Γ.stack)
        rw [fs]
        intro hm
        rcases List.mem_cons.mp hm with hm | hm
        · rw [hm, hL] at q; cases q
        · exact q2 hm
      · intro z
        have z' : b = env.locals := z
        rw [z', hL] at q; cases q
      · intro hc
        rw [hcf b hc] at q; cases q
    lcs := by
      refine ⟨_, hns, fun i y v h1 h2 => ?_⟩
      have h1' : names[i]? = some (y, .local) := by rw [← e7]; exact h1
      obtain ⟨cv, hm, r⟩ := hl i y _ v h1' h2
      exact ⟨cv, bindL_in (by rw [knd]; exact lookup_nodup _ FD.nd (List.mem_of_getElem? h1')) _ _ hbn hm, r⟩
    cel := fun i y h1 => by
      have h1' : names[i]? = some (y, .cell) := by rw [← e7]; exact h1
      obtain ⟨c, hc⟩ := cells_has (k := s.heap.objs.size + 1) (List.mem_of_getElem? h1')
      have hc' : env.cells.lookup y = some c := by rw [e5]; exact hc
      refine ⟨c, _, hc', I.cell y c hc', fun v hv => ?_⟩
      obtain ⟨cv, hm, r⟩ := hl i y _ v h1' hv
      exact ⟨cv, bindC_in (by rw [knd]; exact lookup_nodup _ FD.nd (List.mem_of_getElem? h1')) _ _ hbn hm, r⟩
    cex := fun c hc => by
      obtain ⟨p, hp, rfl⟩ := List.mem_map.mp hc
      have : env.cells.lookup p.1 = some p.2 := by
        have hp' : p ∈ env.cells := hp
        rw [e5] at hp' ⊢
        exact lookup_key _ (cells_nodup FD.nd) hp'
      exact ⟨_, I.cell _ _ this⟩
    len := by show l0.length = env.scope.names.length; rw [e7]; exact hl0 }
  obtain ⟨hh, tk, hs'⟩ := I.toInCall.same
  have St0 : St g n ⟨names, g.gv, g.fns, g.cl, false⟩ (Γ.callee H s env) l0 H s' := ⟨OK, e7, ⟨CC0, by rw [hs']; exact x.os, by rw [hs']; exact x.gens⟩, ht'⟩
  have FM : Fm (Γ.callee H s env) := ⟨⟨Γ.stack, rfl, e6⟩, fun c hc => hc⟩
  have back : ∀ {B h' : Heap} {loc' : Loc} {H' : AHeap}, CC g (Γ.callee H s env) loc' H' B h' → B.StaysIn h' → h'.FunFrames g.base Γ.stack → CC g Γ loc H' B h' := fun y hB hf =>
    x.cc.leave hΓ y hB rfl (fun b hb => .inl hb) (fun b hb => by show b ∈ fsOf (env :: Γ.stack); rw [fs]; exact .tail _ hb) (fun b o e hm => by
      have hm' : b ∈ env.locals :: fsOf Γ.stack := by rw [← fs]; exact hm
      rcases List.mem_cons.mp hm' with z | hm'
      · rw [z, hL] at e; cases e
      · exact hm') hL (fun b hb => hcf b hb) hf
  refine ⟨(G.nl.keeps x.cc.stay).keeps hkeep, codeAny_func ?_⟩
  refine soundS G D f ⟨rfl, rfl, rfl⟩ body bdy hto n (Γ.callee H s env) l0 H s' _ XA _ _ St0 FM w (fun fl cf loc' H' s'' w' fr y => ?_) (fun e H' s'' hx ec => ?_)
  · have Cb : SC g Γ loc H' s'' := ⟨back y.sc.cc (fun _ _ e => e) (ff_tail y.sc.cc.ff), y.sc.os, y.sc.gens⟩
    intro _
    cases fl with
    | next => cases cf <;> first | exact P .none .none H' s'' w' trivial Cb | exact fr.elim
    | ret v => cases cf <;> first | exact P v _ H' s'' w' fr Cb | exact fr.elim
  · obtain ⟨⟨ea, B, loc', rfl, Cx1, exs⟩, ho1, hg1⟩ := ec
    refine exc_leave (A := Γ.A.deeper env) OK.fr e6 exs fun h' a0 fly ff' up => ?_
    intro _
    have C2 := Cx1.slots FM.fr.mem up ff'
    refine X (.ref ea) H' _ hx ⟨⟨ea, B, loc, rfl, back C2 fly.1 (ff_base C2.stay fly.2.2.1), fly.1, fly.2.1, fly.2.2.1, .inr (.inl ⟨a0, fly.2.2.2⟩)⟩, ho1, hg1⟩
end Mine
end

section
set_option genSizeOf false
set_option genSizeOfSpec false
open PySem PySem.W PyProof.Rows PySem.Calls
set_option Elab.async false
set_option maxRecDepth 100000
set_option linter.unusedVariables false
set_option linter.unusedSimpArgs false
namespace Mine
variable {g : G} {Γ : Cx} {loc : Loc} {H : AHeap} {n m : Nat} {s : Shared} {sc : Sc}

noncomputable def initLoc (F : Fn) (args : List V) : Loc := args.map some ++ List.replicate (F.names.length - F.params) none

structure FnOk (g : G) (f : String) (F : Fn) : Prop where
  fd : ∃ fd, FnData g (g.addr f) F.names F.body fd ∧ ∀ cargs : List Value, cargs.length = F.params → bindArgs fd ⟨cargs, []⟩ = pure (((F.names.take F.params).map (·.1)).zip cargs)
  pk : F.params ≤ F.names.length
  kd : ∀ p ∈ F.names.take F.params, p.2 = .local ∨ p.2 = .cell

theorem zip_get {α β : Type} : ∀ {l : List α} {r : List β} {i : Nat} {a : α} {b : β}, l[i]? = some a → r[i]? = some b → (a, b) ∈ l.zip r
  | a :: l, b :: r, 0, _, _, h1, h2 => by cases h1; cases h2; exact .head _
  | a :: l, b :: r, i + 1, _, _, h1, h2 => .tail _ (zip_get (l := l) (r := r) (i := i) h1 h2)
  | [], _, _, _, _, h1, _ => by simp at h1
  | _ :: _, [], _, _, _, _, h2 => by simp at h2

theorem call_intro (G : GOk g) (D : DieOk g) {f : String} {F : Fn} (FO : FnOk g f F) {args : List V} {Q : V → AHeap → Prop} {X : AHeap → Prop} (ha : args.length = F.params)
    (w : wpS g n F.body (fp Q) X (initLoc F args) H) : CallSem g (n + 1) f args H Q X := by
  intro Γ loc s cargs Q' E' hΓ x ht r hQ hE
  obtain ⟨fd, FD, hb⟩ := FO.fd
  have hlen := vrels_len r
  have hn := FD.nd
  have htake : ((F.names.take F.params).map (·.1)).length = F.params := by rw [List.length_map, List.length_take]; exact Nat.min_eq_left FO.pk
  have hkeys : ((((F.names.take F.params).map (·.1)).zip cargs).map (·.1)) = (F.names.take F.params).map (·.1) := by
    rw [List.map_fst_zip]; rw [htake, hlen, ha]; exact Nat.le_refl _
  have hnd : ((F.names.take F.params).map (·.1)).Nodup := hn.sublist (List.Sublist.map _ (List.take_sublist _ _))
  refine wpAny_call (call_core G D FD hΓ x ht (BindsTo.of_eq (hb cargs (by rw [hlen, ha]))) (by rw [hkeys]; exact hnd) (fun p hp => ?_) (l0 := initLoc F args) ?_ (fun i y k v h1 h2 => ?_) w (fun v cv H' s' hq rv y => hQ v cv H' s' hq rv y) (fun e H' s' hx ec => hE e H' s' hx ec))
  · have hm : p.1 ∈ (F.names.take F.params).map (·.1) := (List.of_mem_zip hp).1
    obtain ⟨q, hq, e⟩ := List.mem_map.mp hm
    have hl := lookup_nodup F.names hn (List.mem_of_mem_take hq)
    rw [e] at hl
    rcases FO.kd q hq with h | h
    · exact .inl (by rw [hl, h])
    · exact .inr (by rw [hl, h])
  · unfold initLoc
    rw [List.length_append, List.length_map, List.length_replicate, ha]
    have := FO.pk; exact (Nat.add_sub_cancel' (by assumption))
  · unfold initLoc at h2
    by_cases hi : i < args.length
    · rw [List.getElem?_append_left (by rw [List.length_map]; exact hi), List.getElem?_map] at h2
      obtain ⟨v', hv, e⟩ := Option.map_eq_some_iff.mp h2
      cases e
      obtain ⟨cv, hc, rv⟩ := vrels_get r hv
      refine ⟨cv, zip_get (i := i) ?_ hc, rv⟩
      rw [List.getElem?_map, List.getElem?_take, if_pos (by rw [← ha]; exact hi), h1]; rfl
    · rw [List.getElem?_append_right (by rw [List.length_map]; exact (Nat.not_lt.mp (by assumption)))] at h2
      have := List.mem_of_getElem? h2
      rw [List.mem_replicate] at this
      cases this.2

theorem CallSem.mono {f : String} {args : List V} {Q : V → AHeap → Prop} {X : AHeap → Prop} (h : CallSem g n f args H Q X) (hn : n ≤ m) : CallSem g m f args H Q X :=
  fun Γ loc s cargs Q' E' hΓ => h Γ loc s cargs Q' E' ⟨hΓ.fr, hΓ.hd, by have := hΓ.dp; omega, hΓ.kind, hΓ.gl, hΓ.bl, hΓ.lb, hΓ.lc, hΓ.cb, hΓ.cd, hΓ.nd, hΓ.ow, hΓ.lf⟩
theorem CallSem.imp {f : String} {args : List V} {Q Q₁ : V → AHeap → Prop} {X X₁ : AHeap → Prop} (h : CallSem g n f args H Q X) (hQ : ∀ v H', Q v H' → Q₁ v H') (hX : ∀ H', X H' → X₁ H') : CallSem g n f args H Q₁ X₁ :=
  fun Γ loc s cargs Q' E' hΓ x ht r h1 h2 => h Γ loc s cargs Q' E' hΓ x ht r (fun v cv H' s' q => h1 v cv H' s' (hQ _ _ q)) (fun e H' s' q => h2 e H' s' (hX _ q))

theorem tc_weight (C : Addr) (rest : List Value) (kw : List (Str × Value)) : (Code.builtin "type.__call__" ⟨.ref C :: rest, kw⟩).weight = 1 := by rfl
theorem tc_envs (C : Addr) (rest : List Value) (kw : List (Str × Value)) : (Code.builtin "type.__call__" ⟨.ref C :: rest, kw⟩).envs = [] := by rfl

theorem under_frames (A : Around) (c : Code) : (A.under c).frames = pushEnvs c.envs A.frames := rfl

noncomputable def Cx.at (Γ : Cx) (A : Around) : Cx := { Γ with A := A }
theorem CC.at {A : Around} {B h : Heap} (x : CC g Γ loc H B h) : CC g (Γ.at A) loc H B h := ⟨x.stay, x.keepX, x.keepF, x.ff, x.led, x.adr, x.lcs, x.cel, x.cex, x.len⟩
theorem CC.off {A : Around} {B h : Heap} (x : CC g (Γ.at A) loc H B h) : CC g Γ loc H B h := ⟨x.stay, x.keepX, x.keepF, x.ff, x.led, x.adr, x.lcs, x.cel, x.cex, x.len⟩

theorem new_core (G : GOk g) (D : DieOk g) {c : String} {fI : Addr} {names : List (Str × NameKind)} {bdy : Mine.S} {fd : FuncData} (hc : c ∈ clsNames) (FD : FnData g fI names bdy fd)
    (hi : findIn g.K (.ref (g.addr c)) "__init__" = some (some (.ref fI))) (hf : typeIn g.K (.ref fI) = some (.type "function")) {args kvs : List V} {ks : List String} {Q : V → AHeap → Prop} {X : AHeap → Prop} {l0 : Addr → Loc}
    (hb : ∀ s cargs ckvs a, g.base.StaysIn s.heap → vrels cargs args → vrels ckvs kvs → ∃ binds, BindsTo s fd ⟨.ref a :: cargs, (ks.map Str.ofString).zip ckvs⟩ binds ∧ (binds.map (·.1)).Nodup ∧ (∀ p ∈ binds, names.lookup p.1 = some .local ∨ names.lookup p.1 = some .cell) ∧
      ∀ (i : Nat) y k v, names[i]? = some (y, k) → (l0 a)[i]? = some (some v) → ∃ cv, (y, cv) ∈ binds ∧ vrel cv v)
    (hl0 : ∀ a, (l0 a).length = names.length)
    (w : ∀ a d, H a = none → H d = none → a ≠ d → wpS g n bdy (fp fun v H' => v = .none ∧ Q (.ref a) H') X (l0 a) (upd (upd H d (.dict [])) a (.inst c d))) :
    NewSem g (n + 2) c args ks kvs H Q X := by
  intro Γ loc s cargs ckvs Q' E' hΓ x ht r1 r2 hQ hE
  have KX : g.K.In s.heap := G.hK _ x.cc.stay
  have CO := G.cls c hc
  obtain ⟨h, gs, dr, tk, os⟩ := s
  refine wpAny_call (make_core (makes_of KX CO.mks) (looks_findIn KX hi) (fun self => bind_fn KX self hf) (.inl rfl) ?_)
  have hw : (Γ.A.under (.builtin "type.__call__" ⟨.ref (g.addr c) :: cargs, (ks.map Str.ofString).zip ckvs⟩)).depth = Γ.A.depth + 1 := by
    show Γ.A.depth + Code.weight _ = _; rw [tc_weight]
  have hfr : (Γ.A.under (.builtin "type.__call__" ⟨.ref (g.addr c) :: cargs, (ks.map Str.ofString).zip ckvs⟩)).frames = Γ.A.frames := by
    rw [under_frames, tc_envs]; rfl
  generalize hA : Γ.A.under (.builtin "type.__call__" ⟨.ref (g.addr c) :: cargs, (ks.map Str.ofString).zip ckvs⟩) = A' at hw hfr
  have hhd : A'.handled = none := by rw [← hA]; exact hΓ.hd
  have hdp := hΓ.dp
  have OK : (Γ.at A').Ok g (n + 1) := ⟨by show A'.frames = _; rw [hfr]; exact hΓ.fr, hhd, by show A'.depth + _ < _; rw [hw]; omega, hΓ.kind, hΓ.gl, hΓ.bl, hΓ.lb, hΓ.lc, hΓ.cb, hΓ.cd, hΓ.nd, hΓ.ow, hΓ.lf⟩
  have C1 := x.cc.alloc hΓ (ob := emptyDict) (ao := .dict []) rfl (show ORel g _ (.dict []) from ⟨[], 0, rfl, trivial⟩)
  have C2 := C1.alloc hΓ (ob := instObj (g.addr c) h.objs.size) (ao := .inst c h.objs.size) rfl (show ORel g _ (.inst c _) from ⟨rfl, rfl, rfl⟩)
  rw [Heap.size_push] at C2
  have n1 : H h.objs.size = none := x.cc.noH get_size_none
  have n2 : H (h.objs.size + 1) = none := x.cc.noH (Heap.get?_none_of_le (Nat.le_succ _))
  have ne : h.objs.size + 1 ≠ h.objs.size := Nat.succ_ne_self _
  have st : g.base.StaysIn ((h.push emptyDict).push (instObj (g.addr c) h.objs.size)) := C2.stay
  obtain ⟨binds, b1, b2, b3, b4⟩ := hb ⟨(h.push emptyDict).push (instObj (g.addr c) h.objs.size), gs, dr, tk, os⟩ cargs ckvs (h.objs.size + 1) st r1 r2
  have S2 : SC g (Γ.at A') loc (upd (upd H h.objs.size (.dict [])) (h.objs.size + 1) (.inst c h.objs.size)) ⟨(h.push emptyDict).push (instObj (g.addr c) h.objs.size), gs, dr, tk, os⟩ := ⟨C2.at, x.os, x.gens⟩
  refine call_core (Γ := Γ.at A') G D FD OK S2 ht b1 b2 b3 (hl0 _) b4 (QA := fun v H' => v = .none ∧ Q (.ref (h.objs.size + 1)) H') (XA := X) (w _ _ n2 n1 ne) (fun v cv H' s' hq rv y => ?_) (fun e H' s' hx ec => ?_)
  · obtain ⟨rfl, hq⟩ := hq
    exact ⟨vrel_none rv, hQ _ _ _ _ hq rfl ⟨y.cc.off, y.os, y.gens⟩⟩
  · obtain ⟨⟨ea, B, l, e1, e2, e3⟩, e4, e5⟩ := ec
    exact hE e H' s' hx ⟨⟨ea, B, l, e1, e2.off, e3⟩, e4, e5⟩
end Mine
end

section
set_option genSizeOf false
set_option genSizeOfSpec false
open PySem PySem.W PyProof.Rows PySem.Calls
set_option Elab.async false
set_option maxRecDepth 100000
set_option linter.unusedVariables false
set_option linter.unusedSimpArgs false
namespace Mine
variable {g : G} {H : AHeap} {n : Nat}

structure InitOk (g : G) (c : String) (F : Fn) : Prop where
  ex : ∃ fI fd, FnData g fI F.names F.body fd ∧ findIn g.K (.ref (g.addr c)) "__init__" = some (some (.ref fI)) ∧ typeIn g.K (.ref fI) = some (.type "function") ∧
    ∀ cargs : List Value, cargs.length = F.params → bindArgs fd ⟨cargs, []⟩ = pure (((F.names.take F.params).map (·.1)).zip cargs)
  pk : F.params ≤ F.names.length
  kd : ∀ p ∈ F.names.take F.params, p.2 = .local ∨ p.2 = .cell

theorem new_intro (G : GOk g) (D : DieOk g) {c : String} {F : Fn} (hc : c ∈ clsNames) (IO : InitOk g c F) {args : List V} {Q : V → AHeap → Prop} {X : AHeap → Prop} (ha : args.length + 1 = F.params)
    (w : ∀ a d, H a = none → H d = none → a ≠ d → wpS g n F.body (fp fun v H' => v = .none ∧ Q (.ref a) H') X (initLoc F (.ref a :: args)) (upd (upd H d (.dict [])) a (.inst c d))) :
    NewSem g (n + 2) c args [] [] H Q X := by
  obtain ⟨fI, fd, FD, h1, h2, hb⟩ := IO.ex
  have hn := FD.nd
  have htake : ((F.names.take F.params).map (·.1)).length = F.params := by rw [List.length_map, List.length_take]; exact Nat.min_eq_left IO.pk
  have hnd : ((F.names.take F.params).map (·.1)).Nodup := hn.sublist (List.Sublist.map _ (List.take_sublist _ _))
  refine new_core G D hc FD h1 h2 (l0 := fun a => initLoc F (.ref a :: args)) (fun s cargs ckvs a st r1 r2 => ?_) (fun a => ?_) w
  · have hlen := vrels_len r1
    have r : vrels (.ref a :: cargs) (.ref a :: args) := ⟨rfl, r1⟩
    have hkeys : ((((F.names.take F.params).map (·.1)).zip (.ref a :: cargs)).map (·.1)) = (F.names.take F.params).map (·.1) := by
      rw [List.map_fst_zip]; rw [htake, List.length_cons, hlen, ha]; exact Nat.le_refl _
    refine ⟨((F.names.take F.params).map (·.1)).zip (.ref a :: cargs), BindsTo.of_eq (hb _ (by rw [List.length_cons, hlen, ha])), by rw [hkeys]; exact hnd, fun p hp => ?_, fun i y k v q1 q2 => ?_⟩
    · have hm : p.1 ∈ (F.names.take F.params).map (·.1) := (List.of_mem_zip hp).1
      obtain ⟨q, hq, e⟩ := List.mem_map.mp hm
      have hl := lookup_nodup F.names hn (List.mem_of_mem_take hq)
      rw [e] at hl
      rcases IO.kd q hq with h | h
      · exact .inl (by rw [hl, h])
      · exact .inr (by rw [hl, h])
    · unfold initLoc at q2
      by_cases hi : i < (V.ref a :: args).length
      · rw [List.getElem?_append_left (by rw [List.length_map]; exact hi), List.getElem?_map] at q2
        obtain ⟨v', hv, e⟩ := Option.map_eq_some_iff.mp q2
        cases e
        obtain ⟨cv, hc, rv⟩ := vrels_get r hv
        refine ⟨cv, zip_get (i := i) ?_ hc, rv⟩
        rw [List.getElem?_map, List.getElem?_take, if_pos (by rw [← ha]; exact hi), q1]; rfl
      · rw [List.getElem?_append_right (by rw [List.length_map]; exact (Nat.not_lt.mp (by assumption)))] at q2
        have := List.mem_of_getElem? q2
        rw [List.mem_replicate] at this
        cases this.2
  · unfold initLoc
    rw [List.length_append, List.length_map, List.length_replicate, List.length_cons, ha]
    have := IO.pk; exact (Nat.add_sub_cancel' (by assumption))

theorem NewSem.mono {m : Nat} {c : String} {args kvs : List V} {ks : List String} {Q : V → AHeap → Prop} {X : AHeap → Prop} (h : NewSem g n c args ks kvs H Q X) (hn : n ≤ m) : NewSem g m c args ks kvs H Q X :=
  fun Γ loc s cargs ckvs Q' E' hΓ => h Γ loc s cargs ckvs Q' E' ⟨hΓ.fr, hΓ.hd, by have := hΓ.dp; omega, hΓ.kind, hΓ.gl, hΓ.bl, hΓ.lb, hΓ.lc, hΓ.cb, hΓ.cd, hΓ.nd, hΓ.ow, hΓ.lf⟩
end Mine
end

section
set_option genSizeOf false
set_option genSizeOfSpec false
open PySem PySem.W PyProof.Rows PySem.Calls
set_option Elab.async false
set_option maxRecDepth 100000
set_option linter.unusedVariables false
namespace Mine
noncomputable abbrev LB : Addr := 243
noncomputable def n_wrap_number : List (Str × NameKind) := [(Str.ofString "n", .local), (Str.ofString "width", .local)]
noncomputable def b_wrap_number : Mine.S :=
  (.seq (.aug (.loc 0) .Mod (.bin .LShift (.lit (.int 1)) (.loc 1)))
  (.seq (.ite (.val (.bin .RShift (.loc 0) (.bin .Sub (.loc 1) (.lit (.int 1)))))
    (.seq (.aug (.loc 0) .Sub (.bin .LShift (.lit (.int 1)) (.loc 1)))
    .nil)
    .nil)
  (.seq (.ret (.loc 0))
  .nil)))
noncomputable def F_wrap_number : Fn := ⟨n_wrap_number, 2, b_wrap_number⟩
noncomputable def n_number_head : List (Str × NameKind) := [(Str.ofString "text", .local), (Str.ofString "at", .local), (Str.ofString "end", .local), (Str.ofString "first", .local), (Str.ofString "len", .globalImplicit), (Str.ofString "SPACES", .globalImplicit), (Str.ofString "FIGURES", .globalImplicit)]
noncomputable def b_number_head : Mine.S :=
  (.seq (.assign (.loc 1) (.lit (.int 0)))
  (.seq (.while (.and (.cons (.cmp .Lt (.loc 1) (.bi "len" (.cons (.loc 0) .nil))) (.cons (.cmp .In (.sub (.loc 0) (.loc 1)) (.lit (.str [32, 9, 10, 13, 12, 11]))) .nil)))
    (.seq (.aug (.loc 1) .Add (.lit (.int 1)))
    .nil))
  (.seq (.assign (.loc 2) (.loc 1))
  (.seq (.ite (.or (.cons (.cmp .Eq (.slice (.loc 0) (.loc 2) (.bin .Add (.loc 2) (.lit (.int 1)))) (.lit (.str [43]))) (.cons (.cmp .Eq (.slice (.loc 0) (.loc 2) (.bin .Add (.loc 2) (.lit (.int 1)))) (.lit (.str [45]))) .nil)))
    (.seq (.aug (.loc 2) .Add (.lit (.int 1)))
    .nil)
    .nil)
  (.seq (.assign (.loc 3) (.loc 2))
  (.seq (.while (.and (.cons (.cmp .Lt (.loc 2) (.bi "len" (.cons (.loc 0) .nil))) (.cons (.cmp .In (.sub (.loc 0) (.loc 2)) (.lit (.str [48, 49, 50, 51, 52, 53, 54, 55, 56, 57]))) .nil)))
    (.seq (.aug (.loc 2) .Add (.lit (.int 1)))
    .nil))
  (.seq (.ite (.cmp .Eq (.loc 2) (.loc 3))
    (.seq (.ret (.tup (.cons (.loc 1) (.cons (.loc 1) .nil))))
    .nil)
    .nil)
  (.seq (.ret (.tup (.cons (.loc 1) (.cons (.loc 2) .nil))))
  .nil))))))))
noncomputable def F_number_head : Fn := ⟨n_number_head, 1, b_number_head⟩
noncomputable def n_numeric_text : List (Str × NameKind) := [(Str.ofString "text", .local), (Str.ofString "width", .local), (Str.ofString "at", .local), (Str.ofString "end", .local), (Str.ofString "n", .local), (Str.ofString "sign", .local), (Str.ofString "number_head", .globalImplicit), (Str.ofString "FIGURES", .globalImplicit), (Str.ofString "wrap_number", .globalImplicit)]
noncomputable def b_numeric_text : Mine.S :=
  (.seq (.assign (.tup (.cons (.loc 2) (.cons (.loc 3) .nil))) (.call "number_head" (.cons (.loc 0) .nil)))
  (.seq (.assign (.loc 4) (.lit (.int 0)))
  (.seq (.for 5 (.val (.slice (.loc 0) (.loc 2) (.loc 3)))
    (.seq (.ite (.cmp .In (.loc 5) (.lit (.str [48, 49, 50, 51, 52, 53, 54, 55, 56, 57])))
      (.seq (.assign (.loc 4) (.bin .Mod (.bin .Add (.bin .Mult (.loc 4) (.lit (.int 10))) (.meth "find" (.lit (.str [48, 49, 50, 51, 52, 53, 54, 55, 56, 57])) (.cons (.loc 5) .nil))) (.bin .LShift (.lit (.int 1)) (.loc 1))))
      .nil)
      .nil)
    .nil))
  (.seq (.ite (.and (.cons (.cmp .Lt (.loc 2) (.loc 3)) (.cons (.cmp .Eq (.sub (.loc 0) (.loc 2)) (.lit (.str [45]))) .nil)))
    (.seq (.assign (.loc 4) (.neg (.loc 4)))
    .nil)
    .nil)
  (.seq (.ret (.call "wrap_number" (.cons (.loc 4) (.cons (.loc 1) .nil))))
  .nil)))))
noncomputable def F_numeric_text : Fn := ⟨n_numeric_text, 2, b_numeric_text⟩
noncomputable def n_number_text : List (Str × NameKind) := [(Str.ofString "n", .local), (Str.ofString "text", .local), (Str.ofString "number_text", .globalImplicit), (Str.ofString "FIGURES", .globalImplicit)]
noncomputable def b_number_text : Mine.S :=
  (.seq (.ite (.cmp .Lt (.loc 0) (.lit (.int 0)))
    (.seq (.ret (.bin .Add (.lit (.str [45])) (.call "number_text" (.cons (.neg (.loc 0)) .nil))))
    .nil)
    .nil)
  (.seq (.assign (.loc 1) (.sub (.lit (.str [48, 49, 50, 51, 52, 53, 54, 55, 56, 57])) (.bin .Mod (.loc 0) (.lit (.int 10)))))
  (.seq (.while (.cmp .Gt (.loc 0) (.lit (.int 9)))
    (.seq (.aug (.loc 0) .FloorDiv (.lit (.int 10)))
    (.seq (.assign (.loc 1) (.bin .Add (.sub (.lit (.str [48, 49, 50, 51, 52, 53, 54, 55, 56, 57])) (.bin .Mod (.loc 0) (.lit (.int 10)))) (.loc 1)))
    .nil)))
  (.seq (.ret (.loc 1))
  .nil))))
noncomputable def F_number_text : Fn := ⟨n_number_text, 1, b_number_text⟩
noncomputable def n_hex_of : List (Str × NameKind) := [(Str.ofString "number", .local), (Str.ofString "text", .local), (Str.ofString "HEX_FIGURES", .globalImplicit)]
noncomputable def b_hex_of : Mine.S :=
  (.seq (.assign (.loc 1) (.sub (.lit (.str [48, 49, 50, 51, 52, 53, 54, 55, 56, 57, 97, 98, 99, 100, 101, 102])) (.bin .Mod (.loc 0) (.lit (.int 16)))))
  (.seq (.while (.cmp .Gt (.loc 0) (.lit (.int 15)))
    (.seq (.aug (.loc 0) .FloorDiv (.lit (.int 16)))
    (.seq (.assign (.loc 1) (.bin .Add (.sub (.lit (.str [48, 49, 50, 51, 52, 53, 54, 55, 56, 57, 97, 98, 99, 100, 101, 102])) (.bin .Mod (.loc 0) (.lit (.int 16)))) (.loc 1)))
    .nil)))
  (.seq (.ret (.loc 1))
  .nil)))
noncomputable def F_hex_of : Fn := ⟨n_hex_of, 1, b_hex_of⟩
noncomputable def n_ref_text : List (Str × NameKind) := [(Str.ofString "ref", .local), (Str.ofString "text", .local), (Str.ofString "thing_word", .globalImplicit), (Str.ofString "hex_of", .globalImplicit)]
noncomputable def b_ref_text : Mine.S :=
  (.seq (.assign (.loc 1) (.bin .Add (.bin .Add (.bin .Add (.call "thing_word" (.cons (.attr (.loc 0) "target") .nil)) (.lit (.str [40, 48, 120]))) (.call "hex_of" (.cons (.attr (.attr (.loc 0) "target") "number") .nil))) (.lit (.str [41]))))
  (.seq (.ite (.cmp .IsNot (.attr (.attr (.loc 0) "target") "blessed") (.lit .none))
    (.seq (.ret (.bin .Add (.bin .Add (.attr (.attr (.loc 0) "target") "blessed") (.lit (.str [61]))) (.loc 1)))
    .nil)
    .nil)
  (.seq (.ret (.loc 1))
  .nil)))
noncomputable def F_ref_text : Fn := ⟨n_ref_text, 1, b_ref_text⟩
noncomputable def n_to_text : List (Str × NameKind) := [(Str.ofString "value", .local), (Str.ofString "isinstance", .globalImplicit), (Str.ofString "int", .globalImplicit), (Str.ofString "number_text", .globalImplicit), (Str.ofString "Ref", .globalImplicit), (Str.ofString "ref_text", .globalImplicit)]
noncomputable def b_to_text : Mine.S :=
  (.seq (.ite (.cmp .Is (.loc 0) (.lit .none))
    (.seq (.ret (.lit (.str [])))
    .nil)
    .nil)
  (.seq (.ite (.val (.isi (.loc 0) "int"))
    (.seq (.ret (.call "number_text" (.cons (.loc 0) .nil)))
    .nil)
    .nil)
  (.seq (.ite (.val (.isi (.loc 0) "Ref"))
    (.seq (.ret (.call "ref_text" (.cons (.loc 0) .nil)))
    .nil)
    .nil)
  (.seq (.ret (.loc 0))
  .nil))))
noncomputable def F_to_text : Fn := ⟨n_to_text, 1, b_to_text⟩
noncomputable def n_to_number : List (Str × NameKind) := [(Str.ofString "value", .local), (Str.ofString "limits", .local), (Str.ofString "isinstance", .globalImplicit), (Str.ofString "int", .globalImplicit), (Str.ofString "Ref", .globalImplicit), (Str.ofString "numeric_text", .globalImplicit)]
noncomputable def b_to_number : Mine.S :=
  (.seq (.ite (.cmp .Is (.loc 0) (.lit .none))
    (.seq (.ret (.lit (.int 0)))
    .nil)
    .nil)
  (.seq (.ite (.val (.isi (.loc 0) "int"))
    (.seq (.ret (.loc 0))
    .nil)
    .nil)
  (.seq (.ite (.val (.isi (.loc 0) "Ref"))
    (.seq (.ret (.attr (.attr (.loc 0) "target") "number"))
    .nil)
    .nil)
  (.seq (.ret (.call "numeric_text" (.cons (.loc 0) (.cons (.attr (.loc 1) "width") .nil))))
  .nil))))
noncomputable def F_to_number : Fn := ⟨n_to_number, 2, b_to_number⟩
noncomputable def n_chr_text : List (Str × NameKind) := [(Str.ofString "code", .local), (Str.ofString "STRANGE_SIGN", .globalImplicit), (Str.ofString "LAST_SIGN_CODE", .globalImplicit), (Str.ofString "Die", .globalImplicit), (Str.ofString "chr", .globalImplicit)]
noncomputable def b_chr_text : Mine.S :=
  (.seq (.ite (.cmp .Lt (.loc 0) (.lit (.int 0)))
    (.seq (.ret (.lit (.str [65533])))
    .nil)
    .nil)
  (.seq (.ite (.cmp .Gt (.loc 0) (.lit (.int 1114111)))
    (.seq (.raise (.lit (.str [97, 32, 99, 111, 100, 101, 32, 98, 101, 121, 111, 110, 100, 32, 116, 104, 101, 32, 108, 97, 115, 116, 32, 115, 105, 103, 110])))
    .nil)
    .nil)
  (.seq (.ret (.bi "chr" (.cons (.loc 0) .nil)))
  .nil)))
noncomputable def F_chr_text : Fn := ⟨n_chr_text, 1, b_chr_text⟩
noncomputable def n_Directive__init : List (Str × NameKind) := [(Str.ofString "self", .local), (Str.ofString "NEXT_VALUE", .globalImplicit)]
noncomputable def b_Directive__init : Mine.S :=
  (.seq (.assign (.attr (.loc 0) "index") (.lit (.int 0)))
  (.seq (.assign (.attr (.loc 0) "flags") (.lit (.str [])))
  (.seq (.assign (.attr (.loc 0) "width") (.lit .none))
  (.seq (.assign (.attr (.loc 0) "width_star") (.lit .none))
  (.seq (.assign (.attr (.loc 0) "precision") (.lit .none))
  (.seq (.assign (.attr (.loc 0) "precision_star") (.lit .none))
  (.seq (.assign (.attr (.loc 0) "letter") (.lit (.str [])))
  .nil)))))))
noncomputable def F_Directive__init : Fn := ⟨n_Directive__init, 1, b_Directive__init⟩
noncomputable def n_ValueRow__init : List (Str × NameKind) := [(Str.ofString "self", .local), (Str.ofString "values", .local)]
noncomputable def b_ValueRow__init : Mine.S :=
  (.seq (.assign (.attr (.loc 0) "values") (.loc 1))
  (.seq (.assign (.attr (.loc 0) "at") (.lit (.int 0)))
  .nil))
noncomputable def F_ValueRow__init : Fn := ⟨n_ValueRow__init, 2, b_ValueRow__init⟩
noncomputable def n_take_value : List (Str × NameKind) := [(Str.ofString "row", .local), (Str.ofString "index", .local), (Str.ofString "place", .local), (Str.ofString "NEXT_VALUE", .globalImplicit), (Str.ofString "len", .globalImplicit)]
noncomputable def b_take_value : Mine.S :=
  (.seq (.assign (.loc 2) (.bin .Sub (.loc 1) (.lit (.int 1))))
  (.seq (.ite (.cmp .Eq (.loc 1) (.lit (.int 0)))
    (.seq (.assign (.loc 2) (.attr (.loc 0) "at"))
    (.seq (.aug (.attr (.loc 0) "at") .Add (.lit (.int 1)))
    .nil))
    .nil)
  (.seq (.ite (.cmp .Lt (.loc 2) (.bi "len" (.cons (.attr (.loc 0) "values") .nil)))
    (.seq (.ret (.sub (.attr (.loc 0) "values") (.loc 2)))
    .nil)
    .nil)
  (.seq (.ret (.lit .none))
  .nil))))
noncomputable def F_take_value : Fn := ⟨n_take_value, 2, b_take_value⟩
noncomputable def n_figures_at : List (Str × NameKind) := [(Str.ofString "template", .local), (Str.ofString "at", .local), (Str.ofString "number", .local), (Str.ofString "len", .globalImplicit), (Str.ofString "max", .globalImplicit), (Str.ofString "NUMERALS", .globalImplicit)]
noncomputable def b_figures_at : Mine.S :=
  (.seq (.assign (.loc 2) (.neg (.lit (.int 1))))
  (.seq (.while (.and (.cons (.cmp .Lt (.loc 1) (.bi "len" (.cons (.loc 0) .nil))) (.cons (.cmp .In (.sub (.loc 0) (.loc 1)) (.lit (.str [48, 49, 50, 51, 52, 53, 54, 55, 56, 57]))) .nil)))
    (.seq (.assign (.loc 2) (.bin .Add (.bin .Mult (.bi "max" (.cons (.loc 2) (.cons (.lit (.int 0)) .nil))) (.lit (.int 10))) (.meth "find" (.lit (.str [48, 49, 50, 51, 52, 53, 54, 55, 56, 57, 97, 98, 99, 100, 101, 102])) (.cons (.sub (.loc 0) (.loc 1)) .nil))))
    (.seq (.aug (.loc 1) .Add (.lit (.int 1)))
    .nil)))
  (.seq (.ret (.tup (.cons (.loc 2) (.cons (.loc 1) .nil))))
  .nil)))
noncomputable def F_figures_at : Fn := ⟨n_figures_at, 2, b_figures_at⟩
noncomputable def n_index_at : List (Str × NameKind) := [(Str.ofString "template", .local), (Str.ofString "at", .local), (Str.ofString "number", .local), (Str.ofString "end", .local), (Str.ofString "figures_at", .globalImplicit), (Str.ofString "NEXT_VALUE", .globalImplicit)]
noncomputable def b_index_at : Mine.S :=
  (.seq (.assign (.tup (.cons (.loc 2) (.cons (.loc 3) .nil))) (.call "figures_at" (.cons (.loc 0) (.cons (.loc 1) .nil))))
  (.seq (.ite (.and (.cons (.cmp .Gt (.loc 2) (.lit (.int 0))) (.cons (.cmp .Eq (.slice (.loc 0) (.loc 3) (.bin .Add (.loc 3) (.lit (.int 1)))) (.lit (.str [36]))) .nil)))
    (.seq (.ret (.tup (.cons (.loc 2) (.cons (.bin .Add (.loc 3) (.lit (.int 1))) .nil))))
    .nil)
    .nil)
  (.seq (.ret (.tup (.cons (.lit (.int 0)) (.cons (.loc 1) .nil))))
  .nil)))
noncomputable def F_index_at : Fn := ⟨n_index_at, 2, b_index_at⟩
noncomputable def n_read_flags : List (Str × NameKind) := [(Str.ofString "template", .local), (Str.ofString "at", .local), (Str.ofString "end", .local), (Str.ofString "len", .globalImplicit), (Str.ofString "FLAG_SIGNS", .globalImplicit)]
noncomputable def b_read_flags : Mine.S :=
  (.seq (.assign (.loc 2) (.loc 1))
  (.seq (.while (.and (.cons (.cmp .Lt (.loc 2) (.bi "len" (.cons (.loc 0) .nil))) (.cons (.cmp .In (.sub (.loc 0) (.loc 2)) (.lit (.str [32, 43, 45, 48, 35]))) .nil)))
    (.seq (.aug (.loc 2) .Add (.lit (.int 1)))
    .nil))
  (.seq (.ret (.tup (.cons (.slice (.loc 0) (.loc 1) (.loc 2)) (.cons (.loc 2) .nil))))
  .nil)))
noncomputable def F_read_flags : Fn := ⟨n_read_flags, 2, b_read_flags⟩
noncomputable def n_read_size : List (Str × NameKind) := [(Str.ofString "template", .local), (Str.ofString "at", .local), (Str.ofString "index", .local), (Str.ofString "number", .local), (Str.ofString "end", .local), (Str.ofString "index_at", .globalImplicit), (Str.ofString "figures_at", .globalImplicit)]
noncomputable def b_read_size : Mine.S :=
  (.seq (.ite (.cmp .Eq (.slice (.loc 0) (.loc 1) (.bin .Add (.loc 1) (.lit (.int 1)))) (.lit (.str [42])))
    (.seq (.assign (.tup (.cons (.loc 2) (.cons (.loc 1) .nil))) (.call "index_at" (.cons (.loc 0) (.cons (.bin .Add (.loc 1) (.lit (.int 1))) .nil))))
    (.seq (.ret (.tup (.cons (.lit .none) (.cons (.loc 2) (.cons (.loc 1) .nil)))))
    .nil))
    .nil)
  (.seq (.assign (.tup (.cons (.loc 3) (.cons (.loc 4) .nil))) (.call "figures_at" (.cons (.loc 0) (.cons (.loc 1) .nil))))
  (.seq (.ite (.cmp .Lt (.loc 3) (.lit (.int 0)))
    (.seq (.ret (.tup (.cons (.lit .none) (.cons (.lit .none) (.cons (.loc 1) .nil)))))
    .nil)
    .nil)
  (.seq (.ret (.tup (.cons (.loc 3) (.cons (.lit .none) (.cons (.loc 4) .nil)))))
  .nil))))
noncomputable def F_read_size : Fn := ⟨n_read_size, 2, b_read_size⟩
noncomputable def n_read_directive : List (Str × NameKind) := [(Str.ofString "template", .local), (Str.ofString "at", .local), (Str.ofString "found", .local), (Str.ofString "letter", .local), (Str.ofString "Directive", .globalImplicit), (Str.ofString "index_at", .globalImplicit), (Str.ofString "read_flags", .globalImplicit), (Str.ofString "read_size", .globalImplicit), (Str.ofString "SIZE_SIGNS", .globalImplicit), (Str.ofString "SIGNED_LETTERS", .globalImplicit), (Str.ofString "UNSIGNED_LETTERS", .globalImplicit), (Str.ofString "min", .globalImplicit), (Str.ofString "len", .globalImplicit)]
noncomputable def b_read_directive : Mine.S :=
  (.seq (.assign (.loc 2) (.new "Directive" .nil [] .nil))
  (.seq (.assign (.tup (.cons (.attr (.loc 2) "index") (.cons (.loc 1) .nil))) (.call "index_at" (.cons (.loc 0) (.cons (.loc 1) .nil))))
  (.seq (.assign (.tup (.cons (.attr (.loc 2) "flags") (.cons (.loc 1) .nil))) (.call "read_flags" (.cons (.loc 0) (.cons (.loc 1) .nil))))
  (.seq (.assign (.tup (.cons (.attr (.loc 2) "width") (.cons (.attr (.loc 2) "width_star") (.cons (.loc 1) .nil)))) (.call "read_size" (.cons (.loc 0) (.cons (.loc 1) .nil))))
  (.seq (.ite (.cmp .Eq (.slice (.loc 0) (.loc 1) (.bin .Add (.loc 1) (.lit (.int 1)))) (.lit (.str [46])))
    (.seq (.assign (.tup (.cons (.attr (.loc 2) "precision") (.cons (.attr (.loc 2) "precision_star") (.cons (.loc 1) .nil)))) (.call "read_size" (.cons (.loc 0) (.cons (.bin .Add (.loc 1) (.lit (.int 1))) .nil))))
    (.seq (.ite (.and (.cons (.cmp .Is (.attr (.loc 2) "precision") (.lit .none)) (.cons (.cmp .Is (.attr (.loc 2) "precision_star") (.lit .none)) .nil)))
      (.seq (.assign (.attr (.loc 2) "precision") (.lit (.int 0)))
      .nil)
      .nil)
    .nil))
    .nil)
  (.seq (.while (.and (.cons (.cmp .NotEq (.slice (.loc 0) (.loc 1) (.bin .Add (.loc 1) (.lit (.int 1)))) (.lit (.str []))) (.cons (.cmp .In (.sub (.loc 0) (.loc 1)) (.lit (.str [104, 108, 113, 76, 86, 122, 116, 106]))) .nil)))
    (.seq (.aug (.loc 1) .Add (.lit (.int 1)))
    .nil))
  (.seq (.assign (.loc 3) (.slice (.loc 0) (.loc 1) (.bin .Add (.loc 1) (.lit (.int 1)))))
  (.seq (.ite (.and (.cons (.cmp .NotEq (.loc 3) (.lit (.str []))) (.cons (.cmp .In (.loc 3) (.bin .Add (.bin .Add (.lit (.str [99, 115])) (.lit (.str [100, 105, 68]))) (.lit (.str [117, 85, 111, 79, 120, 88, 98, 66])))) .nil)))
    (.seq (.assign (.attr (.loc 2) "letter") (.loc 3))
    .nil)
    .nil)
  (.seq (.ret (.tup (.cons (.loc 2) (.cons (.bi "min" (.cons (.bin .Add (.loc 1) (.lit (.int 1))) (.cons (.bi "len" (.cons (.loc 0) .nil)) .nil))) .nil))))
  .nil)))))))))
noncomputable def F_read_directive : Fn := ⟨n_read_directive, 2, b_read_directive⟩
noncomputable def n_check_size : List (Str × NameKind) := [(Str.ofString "number", .local), (Str.ofString "limits", .local), (Str.ofString "Die", .globalImplicit)]
noncomputable def b_check_size : Mine.S :=
  (.seq (.ite (.and (.cons (.cmp .IsNot (.loc 0) (.lit .none)) (.cons (.cmp .Gt (.loc 0) (.attr (.loc 1) "text")) .nil)))
    (.seq (.raise (.lit (.str [73, 110, 116, 101, 103, 101, 114, 32, 111, 118, 101, 114, 102, 108, 111, 119, 32, 105, 110, 32, 102, 111, 114, 109, 97, 116, 32, 115, 116, 114, 105, 110, 103, 32, 102, 111, 114, 32, 115, 112, 114, 105, 110, 116, 102, 32])))
    .nil)
    .nil)
  .nil)
noncomputable def F_check_size : Fn := ⟨n_check_size, 2, b_check_size⟩
noncomputable def n_settle_stars : List (Str × NameKind) := [(Str.ofString "found", .local), (Str.ofString "row", .local), (Str.ofString "limits", .local), (Str.ofString "to_number", .globalImplicit), (Str.ofString "take_value", .globalImplicit), (Str.ofString "check_size", .globalImplicit)]
noncomputable def b_settle_stars : Mine.S :=
  (.seq (.ite (.cmp .IsNot (.attr (.loc 0) "width_star") (.lit .none))
    (.seq (.assign (.attr (.loc 0) "width") (.call "to_number" (.cons (.call "take_value" (.cons (.loc 1) (.cons (.attr (.loc 0) "width_star") .nil))) (.cons (.loc 2) .nil))))
    (.seq (.ite (.cmp .Lt (.attr (.loc 0) "width") (.lit (.int 0)))
      (.seq (.assign (.attr (.loc 0) "width") (.neg (.attr (.loc 0) "width")))
      (.seq (.aug (.attr (.loc 0) "flags") .Add (.lit (.str [45])))
      .nil))
      .nil)
    .nil))
    .nil)
  (.seq (.ite (.cmp .IsNot (.attr (.loc 0) "precision_star") (.lit .none))
    (.seq (.assign (.attr (.loc 0) "precision") (.call "to_number" (.cons (.call "take_value" (.cons (.loc 1) (.cons (.attr (.loc 0) "precision_star") .nil))) (.cons (.loc 2) .nil))))
    (.seq (.ite (.cmp .Lt (.attr (.loc 0) "precision") (.lit (.int 0)))
      (.seq (.assign (.attr (.loc 0) "precision") (.lit .none))
      .nil)
      .nil)
    .nil))
    .nil)
  (.seq (.expr (.call "check_size" (.cons (.attr (.loc 0) "width") (.cons (.loc 2) .nil))))
  (.seq (.expr (.call "check_size" (.cons (.attr (.loc 0) "precision") (.cons (.loc 2) .nil))))
  .nil))))
noncomputable def F_settle_stars : Fn := ⟨n_settle_stars, 3, b_settle_stars⟩
noncomputable def n_base_text : List (Str × NameKind) := [(Str.ofString "number", .local), (Str.ofString "base", .local), (Str.ofString "text", .local), (Str.ofString "NUMERALS", .globalImplicit)]
noncomputable def b_base_text : Mine.S :=
  (.seq (.assign (.loc 2) (.sub (.lit (.str [48, 49, 50, 51, 52, 53, 54, 55, 56, 57, 97, 98, 99, 100, 101, 102])) (.bin .Mod (.loc 0) (.loc 1))))
  (.seq (.while (.cmp .GtE (.loc 0) (.loc 1))
    (.seq (.aug (.loc 0) .FloorDiv (.loc 1))
    (.seq (.assign (.loc 2) (.bin .Add (.sub (.lit (.str [48, 49, 50, 51, 52, 53, 54, 55, 56, 57, 97, 98, 99, 100, 101, 102])) (.bin .Mod (.loc 0) (.loc 1))) (.loc 2)))
    .nil)))
  (.seq (.ret (.loc 2))
  .nil)))
noncomputable def F_base_text : Fn := ⟨n_base_text, 2, b_base_text⟩
noncomputable def n_sign_ahead : List (Str × NameKind) := [(Str.ofString "number", .local), (Str.ofString "flags", .local)]
noncomputable def b_sign_ahead : Mine.S :=
  (.seq (.ite (.cmp .Lt (.loc 0) (.lit (.int 0)))
    (.seq (.ret (.lit (.str [45])))
    .nil)
    .nil)
  (.seq (.ite (.cmp .In (.lit (.str [43])) (.loc 1))
    (.seq (.ret (.lit (.str [43])))
    .nil)
    .nil)
  (.seq (.ite (.cmp .In (.lit (.str [32])) (.loc 1))
    (.seq (.ret (.lit (.str [32])))
    .nil)
    .nil)
  (.seq (.ret (.lit (.str [])))
  .nil))))
noncomputable def F_sign_ahead : Fn := ⟨n_sign_ahead, 2, b_sign_ahead⟩
noncomputable def n_prefix_of : List (Str × NameKind) := [(Str.ofString "letter", .local), (Str.ofString "number", .local)]
noncomputable def b_prefix_of : Mine.S :=
  (.seq (.ite (.or (.cons (.cmp .Eq (.loc 1) (.lit (.int 0))) (.cons (.cmp .NotIn (.loc 0) (.lit (.str [120, 88, 98, 66]))) .nil)))
    (.seq (.ret (.lit (.str [])))
    .nil)
    .nil)
  (.seq (.ret (.bin .Add (.lit (.str [48])) (.loc 0)))
  .nil))
noncomputable def F_prefix_of : Fn := ⟨n_prefix_of, 2, b_prefix_of⟩
noncomputable def n_with_precision : List (Str × NameKind) := [(Str.ofString "figures", .local), (Str.ofString "precision", .local), (Str.ofString "keeps_nought", .local), (Str.ofString "len", .globalImplicit)]
noncomputable def b_with_precision : Mine.S :=
  (.seq (.ite (.cmp .Is (.loc 1) (.lit .none))
    (.seq (.ret (.loc 0))
    .nil)
    .nil)
  (.seq (.ite (.and (.cons (.cmp .Eq (.loc 1) (.lit (.int 0))) (.cons (.cmp .Eq (.loc 0) (.lit (.str [48]))) (.cons (.not (.val (.loc 2))) .nil))))
    (.seq (.ret (.lit (.str [])))
    .nil)
    .nil)
  (.seq (.ret (.bin .Add (.bin .Mult (.lit (.str [48])) (.bin .Sub (.loc 1) (.bi "len" (.cons (.loc 0) .nil)))) (.loc 0)))
  .nil)))
noncomputable def F_with_precision : Fn := ⟨n_with_precision, 3, b_with_precision⟩
noncomputable def n_signed_parts : List (Str × NameKind) := [(Str.ofString "found", .local), (Str.ofString "number", .local), (Str.ofString "sign_ahead", .globalImplicit), (Str.ofString "with_precision", .globalImplicit), (Str.ofString "number_text", .globalImplicit), (Str.ofString "abs", .globalImplicit)]
noncomputable def b_signed_parts : Mine.S :=
  (.seq (.ret (.tup (.cons (.call "sign_ahead" (.cons (.loc 1) (.cons (.attr (.loc 0) "flags") .nil))) (.cons (.call "with_precision" (.cons (.call "number_text" (.cons (.bi "abs" (.cons (.loc 1) .nil)) .nil)) (.cons (.attr (.loc 0) "precision") (.cons (.lit (.bool false)) .nil)))) .nil))))
  .nil)
noncomputable def F_signed_parts : Fn := ⟨n_signed_parts, 2, b_signed_parts⟩
noncomputable def n_unsigned_parts : List (Str × NameKind) := [(Str.ofString "found", .local), (Str.ofString "number", .local), (Str.ofString "width", .local), (Str.ofString "letter", .local), (Str.ofString "is_alternate", .local), (Str.ofString "figures", .local), (Str.ofString "is_eight", .local), (Str.ofString "base_text", .globalImplicit), (Str.ofString "LETTER_BASES", .globalImplicit), (Str.ofString "with_precision", .globalImplicit), (Str.ofString "prefix_of", .globalImplicit)]
noncomputable def b_unsigned_parts : Mine.S :=
  (.seq (.aug (.loc 1) .Mod (.bin .LShift (.lit (.int 1)) (.loc 2)))
  (.seq (.assign (.loc 3) (.attr (.loc 0) "letter"))
  (.seq (.assign (.loc 4) (.cmp .In (.lit (.str [35])) (.attr (.loc 0) "flags")))
  (.seq (.assign (.loc 5) (.call "base_text" (.cons (.loc 1) (.cons (.sub (.lit (.ref LB)) (.loc 3)) .nil))))
  (.seq (.ite (.cmp .Eq (.loc 3) (.lit (.str [88])))
    (.seq (.assign (.loc 5) (.meth "join" (.lit (.str [])) (.cons (.comp [none, none] 1 (.meth "upper" (.loc 1) .nil) (.val (.loc 5))) .nil)))
    .nil)
    .nil)
  (.seq (.assign (.loc 6) (.andv (.cmp .Eq (.sub (.lit (.ref LB)) (.loc 3)) (.lit (.int 8))) (.loc 4)))
  (.seq (.ite (.and (.cons (.val (.loc 6)) (.cons (.cmp .NotEq (.sub (.loc 5) (.lit (.int 0))) (.lit (.str [48]))) .nil)))
    (.seq (.assign (.loc 5) (.bin .Add (.lit (.str [48])) (.loc 5)))
    .nil)
    .nil)
  (.seq (.assign (.loc 5) (.call "with_precision" (.cons (.loc 5) (.cons (.attr (.loc 0) "precision") (.cons (.loc 6) .nil)))))
  (.seq (.ite (.val (.loc 4))
    (.seq (.ret (.tup (.cons (.call "prefix_of" (.cons (.loc 3) (.cons (.loc 1) .nil))) (.cons (.loc 5) .nil))))
    .nil)
    .nil)
  (.seq (.ret (.tup (.cons (.lit (.str [])) (.cons (.loc 5) .nil))))
  .nil))))))))))
noncomputable def F_unsigned_parts : Fn := ⟨n_unsigned_parts, 3, b_unsigned_parts⟩
noncomputable def n_text_part : List (Str × NameKind) := [(Str.ofString "found", .local), (Str.ofString "value", .local), (Str.ofString "limits", .local), (Str.ofString "text", .local), (Str.ofString "chr_text", .globalImplicit), (Str.ofString "to_number", .globalImplicit), (Str.ofString "to_text", .globalImplicit)]
noncomputable def b_text_part : Mine.S :=
  (.seq (.ite (.cmp .Eq (.attr (.loc 0) "letter") (.lit (.str [99])))
    (.seq (.ret (.call "chr_text" (.cons (.call "to_number" (.cons (.loc 1) (.cons (.loc 2) .nil))) .nil)))
    .nil)
    .nil)
  (.seq (.assign (.loc 3) (.call "to_text" (.cons (.loc 1) .nil)))
  (.seq (.ite (.cmp .IsNot (.attr (.loc 0) "precision") (.lit .none))
    (.seq (.assign (.loc 3) (.slice (.loc 3) (.lit .none) (.attr (.loc 0) "precision")))
    .nil)
    .nil)
  (.seq (.ret (.loc 3))
  .nil))))
noncomputable def F_text_part : Fn := ⟨n_text_part, 3, b_text_part⟩
noncomputable def n_laid_out : List (Str × NameKind) := [(Str.ofString "found", .local), (Str.ofString "ahead", .local), (Str.ofString "body", .local), (Str.ofString "may_fill", .local), (Str.ofString "gap", .local), (Str.ofString "max", .globalImplicit), (Str.ofString "len", .globalImplicit)]
noncomputable def b_laid_out : Mine.S :=
  (.seq (.assign (.loc 4) (.lit (.int 0)))
  (.seq (.ite (.cmp .IsNot (.attr (.loc 0) "width") (.lit .none))
    (.seq (.assign (.loc 4) (.bi "max" (.cons (.bin .Sub (.bin .Sub (.attr (.loc 0) "width") (.bi "len" (.cons (.loc 1) .nil))) (.bi "len" (.cons (.loc 2) .nil))) (.cons (.lit (.int 0)) .nil))))
    .nil)
    .nil)
  (.seq (.ite (.cmp .In (.lit (.str [45])) (.attr (.loc 0) "flags"))
    (.seq (.ret (.bin .Add (.bin .Add (.loc 1) (.loc 2)) (.bin .Mult (.lit (.str [32])) (.loc 4))))
    .nil)
    .nil)
  (.seq (.ite (.and (.cons (.cmp .In (.lit (.str [48])) (.attr (.loc 0) "flags")) (.cons (.val (.loc 3)) .nil)))
    (.seq (.ret (.bin .Add (.bin .Add (.loc 1) (.bin .Mult (.lit (.str [48])) (.loc 4))) (.loc 2)))
    .nil)
    .nil)
  (.seq (.ret (.bin .Add (.bin .Add (.bin .Mult (.lit (.str [32])) (.loc 4)) (.loc 1)) (.loc 2)))
  .nil)))))
noncomputable def F_laid_out : Fn := ⟨n_laid_out, 4, b_laid_out⟩
noncomputable def n_directive_text : List (Str × NameKind) := [(Str.ofString "found", .local), (Str.ofString "value", .local), (Str.ofString "limits", .local), (Str.ofString "number", .local), (Str.ofString "ahead", .local), (Str.ofString "body", .local), (Str.ofString "laid_out", .globalImplicit), (Str.ofString "text_part", .globalImplicit), (Str.ofString "to_number", .globalImplicit), (Str.ofString "SIGNED_LETTERS", .globalImplicit), (Str.ofString "signed_parts", .globalImplicit), (Str.ofString "unsigned_parts", .globalImplicit)]
noncomputable def b_directive_text : Mine.S :=
  (.seq (.ite (.cmp .In (.attr (.loc 0) "letter") (.lit (.str [99, 115])))
    (.seq (.ret (.call "laid_out" (.cons (.loc 0) (.cons (.lit (.str [])) (.cons (.call "text_part" (.cons (.loc 0) (.cons (.loc 1) (.cons (.loc 2) .nil)))) (.cons (.lit (.bool true)) .nil))))))
    .nil)
    .nil)
  (.seq (.assign (.loc 3) (.call "to_number" (.cons (.loc 1) (.cons (.loc 2) .nil))))
  (.seq (.ite (.cmp .In (.attr (.loc 0) "letter") (.lit (.str [100, 105, 68])))
    (.seq (.assign (.tup (.cons (.loc 4) (.cons (.loc 5) .nil))) (.call "signed_parts" (.cons (.loc 0) (.cons (.loc 3) .nil))))
    .nil)
    (.seq (.assign (.tup (.cons (.loc 4) (.cons (.loc 5) .nil))) (.call "unsigned_parts" (.cons (.loc 0) (.cons (.loc 3) (.cons (.attr (.loc 2) "width") .nil)))))
    .nil))
  (.seq (.ret (.call "laid_out" (.cons (.loc 0) (.cons (.loc 4) (.cons (.loc 5) (.cons (.cmp .Is (.attr (.loc 0) "precision") (.lit .none)) .nil))))))
  .nil))))
noncomputable def F_directive_text : Fn := ⟨n_directive_text, 3, b_directive_text⟩
noncomputable def n_format_text : List (Str × NameKind) := [(Str.ofString "template", .local), (Str.ofString "values", .local), (Str.ofString "limits", .local), (Str.ofString "row", .local), (Str.ofString "out", .local), (Str.ofString "size", .local), (Str.ofString "at", .local), (Str.ofString "part", .local), (Str.ofString "end", .local), (Str.ofString "found", .local), (Str.ofString "ValueRow", .globalImplicit), (Str.ofString "len", .globalImplicit), (Str.ofString "read_directive", .globalImplicit), (Str.ofString "settle_stars", .globalImplicit), (Str.ofString "directive_text", .globalImplicit), (Str.ofString "take_value", .globalImplicit), (Str.ofString "Die", .globalImplicit)]
noncomputable def b_format_text : Mine.S :=
  (.seq (.assign (.loc 3) (.new "ValueRow" (.cons (.loc 1) .nil) [] .nil))
  (.seq (.assign (.loc 4) (.list .nil))
  (.seq (.assign (.loc 5) (.lit (.int 0)))
  (.seq (.assign (.loc 6) (.lit (.int 0)))
  (.seq (.while (.cmp .Lt (.loc 6) (.bi "len" (.cons (.loc 0) .nil)))
    (.seq (.assign (.loc 7) (.sub (.loc 0) (.loc 6)))
    (.seq (.assign (.loc 8) (.bin .Add (.loc 6) (.lit (.int 1))))
    (.seq (.ite (.and (.cons (.cmp .Eq (.loc 7) (.lit (.str [37]))) (.cons (.cmp .Eq (.slice (.loc 0) (.bin .Add (.loc 6) (.lit (.int 1))) (.bin .Add (.loc 6) (.lit (.int 2)))) (.lit (.str [37]))) .nil)))
      (.seq (.assign (.loc 8) (.bin .Add (.loc 6) (.lit (.int 2))))
      .nil)
      (.seq (.ite (.cmp .Eq (.loc 7) (.lit (.str [37])))
        (.seq (.assign (.tup (.cons (.loc 9) (.cons (.loc 8) .nil))) (.call "read_directive" (.cons (.loc 0) (.cons (.bin .Add (.loc 6) (.lit (.int 1))) .nil))))
        (.seq (.assign (.loc 7) (.slice (.loc 0) (.loc 6) (.loc 8)))
        (.seq (.ite (.cmp .NotEq (.attr (.loc 9) "letter") (.lit (.str [])))
          (.seq (.expr (.call "settle_stars" (.cons (.loc 9) (.cons (.loc 3) (.cons (.loc 2) .nil)))))
          (.seq (.assign (.loc 7) (.call "directive_text" (.cons (.loc 9) (.cons (.call "take_value" (.cons (.loc 3) (.cons (.attr (.loc 9) "index") .nil))) (.cons (.loc 2) .nil)))))
          .nil))
          .nil)
        .nil)))
        .nil)
      .nil))
    (.seq (.expr (.meth "append" (.loc 4) (.cons (.loc 7) .nil)))
    (.seq (.aug (.loc 5) .Add (.bi "len" (.cons (.loc 7) .nil)))
    (.seq (.ite (.cmp .Gt (.loc 5) (.attr (.loc 2) "text"))
      (.seq (.raise (.lit (.str [79, 117, 116, 32, 111, 102, 32, 109, 101, 109, 111, 114, 121, 33])))
      .nil)
      .nil)
    (.seq (.assign (.loc 6) (.loc 8))
    .nil))))))))
  (.seq (.ret (.meth "join" (.lit (.str [])) (.cons (.loc 4) .nil)))
  .nil))))))
noncomputable def F_format_text : Fn := ⟨n_format_text, 3, b_format_text⟩
noncomputable def n_Limits__init : List (Str × NameKind) := [(Str.ofString "self", .local), (Str.ofString "width", .local), (Str.ofString "depth", .local), (Str.ofString "steps", .local), (Str.ofString "text", .local), (Str.ofString "items", .local)]
noncomputable def b_Limits__init : Mine.S :=
  (.seq (.assign (.attr (.loc 0) "width") (.loc 1))
  (.seq (.assign (.attr (.loc 0) "depth") (.loc 2))
  (.seq (.assign (.attr (.loc 0) "steps") (.loc 3))
  (.seq (.assign (.attr (.loc 0) "text") (.loc 4))
  (.seq (.assign (.attr (.loc 0) "items") (.loc 5))
  .nil)))))
noncomputable def F_Limits__init : Fn := ⟨n_Limits__init, 6, b_Limits__init⟩
end Mine
end

section
set_option genSizeOf false
set_option genSizeOfSpec false
open PySem PySem.W PyProof.Rows PySem.Calls
set_option Elab.async false
set_option maxRecDepth 100000
set_option linter.unusedVariables false
namespace Mine
noncomputable def gvTab : List (Str × V) := [(Str.ofString "STRANGE_SIGN", (.str [65533])), (Str.ofString "LETTER_BASES", (.ref LB)), (Str.ofString "FIGURES", (.str [48, 49, 50, 51, 52, 53, 54, 55, 56, 57])), (Str.ofString "SPACES", (.str [32, 9, 10, 13, 12, 11])), (Str.ofString "HEX_FIGURES", (.str [48, 49, 50, 51, 52, 53, 54, 55, 56, 57, 97, 98, 99, 100, 101, 102])), (Str.ofString "LAST_SIGN_CODE", (.int 1114111)), (Str.ofString "FLAG_SIGNS", (.str [32, 43, 45, 48, 35])), (Str.ofString "SIZE_SIGNS", (.str [104, 108, 113, 76, 86, 122, 116, 106])), (Str.ofString "SIGNED_LETTERS", (.str [100, 105, 68])), (Str.ofString "UNSIGNED_LETTERS", (.str [117, 85, 111, 79, 120, 88, 98, 66])), (Str.ofString "NUMERALS", (.str [48, 49, 50, 51, 52, 53, 54, 55, 56, 57, 97, 98, 99, 100, 101, 102])), (Str.ofString "NEXT_VALUE", (.int 0)), (Str.ofString "_law_signs", (.str [37, 36, 42, 46, 48, 49, 51, 45, 43, 35, 32, 108, 100, 115, 120, 99, 121, 102]))]
noncomputable def fnTab : List (Str × String) := [(Str.ofString "wrap_number", "wrap_number"), (Str.ofString "number_head", "number_head"), (Str.ofString "numeric_text", "numeric_text"), (Str.ofString "number_text", "number_text"), (Str.ofString "thing_word", "thing_word"), (Str.ofString "hex_of", "hex_of"), (Str.ofString "ref_text", "ref_text"), (Str.ofString "to_text", "to_text"), (Str.ofString "to_number", "to_number"), (Str.ofString "chr_text", "chr_text"), (Str.ofString "take_value", "take_value"), (Str.ofString "figures_at", "figures_at"), (Str.ofString "index_at", "index_at"), (Str.ofString "read_flags", "read_flags"), (Str.ofString "read_size", "read_size"), (Str.ofString "read_directive", "read_directive"), (Str.ofString "check_size", "check_size"), (Str.ofString "settle_stars", "settle_stars"), (Str.ofString "base_text", "base_text"), (Str.ofString "sign_ahead", "sign_ahead"), (Str.ofString "prefix_of", "prefix_of"), (Str.ofString "with_precision", "with_precision"), (Str.ofString "signed_parts", "signed_parts"), (Str.ofString "unsigned_parts", "unsigned_parts"), (Str.ofString "text_part", "text_part"), (Str.ofString "laid_out", "laid_out"), (Str.ofString "directive_text", "directive_text"), (Str.ofString "format_text", "format_text"), (Str.ofString "_law_rest", "_law_rest"), (Str.ofString "_law_draw", "_law_draw"), (Str.ofString "_law_run", "_law_run"), (Str.ofString "_law_place", "_law_place"), (Str.ofString "_law_sized", "_law_sized"), (Str.ofString "_law_cut", "_law_cut"), (Str.ofString "_law_value", "_law_value"), (Str.ofString "_law_number", "_law_number"), (Str.ofString "_law_told", "_law_told"), (Str.ofString "_law_formatted", "_law_formatted"), (Str.ofString "law", "law")]
noncomputable def n__law_rest : List (Str × NameKind) := []
noncomputable def b__law_rest : Mine.S :=
  (.seq (.ret (.list (.cons (.lit (.int 9)) (.cons (.lit (.int 0)) (.cons (.lit (.int 5)) (.cons (.lit (.int 10)) (.cons (.lit (.int 14)) (.cons (.lit (.int 0)) (.cons (.lit (.int 3)) (.cons (.lit (.int 2)) (.cons (.lit (.int 12)) (.cons (.lit (.int 0)) (.cons (.lit (.int 5)) (.cons (.lit (.int 4)) (.cons (.lit (.int 5)) (.cons (.lit (.int 10)) (.cons (.lit (.int 0)) (.cons (.lit (.int 0)) (.cons (.lit (.int 11)) (.cons (.lit (.int 3)) (.cons (.lit (.int 7)) .nil)))))))))))))))))))))
  .nil)
noncomputable def F__law_rest : Fn := ⟨n__law_rest, 0, b__law_rest⟩
noncomputable def n__law_draw : List (Str × NameKind) := [(Str.ofString "pen", .local), (Str.ofString "many", .local), (Str.ofString "at", .local), (Str.ofString "len", .globalImplicit)]
noncomputable def b__law_draw : Mine.S :=
  (.seq (.assign (.loc 2) (.sub (.loc 0) (.lit (.int 1))))
  (.seq (.assign (.sub (.loc 0) (.lit (.int 1))) (.bin .Add (.loc 2) (.lit (.int 1))))
  (.seq (.ret (.bin .Mod (.bin .Add (.sub (.sub (.loc 0) (.lit (.int 0))) (.bin .Mod (.loc 2) (.bi "len" (.cons (.sub (.loc 0) (.lit (.int 0))) .nil)))) (.bin .Mult (.lit (.int 5)) (.bin .FloorDiv (.loc 2) (.bi "len" (.cons (.sub (.loc 0) (.lit (.int 0))) .nil))))) (.loc 1)))
  .nil)))
noncomputable def F__law_draw : Fn := ⟨n__law_draw, 2, b__law_draw⟩
noncomputable def n__law_run : List (Str × NameKind) := [(Str.ofString "text", .local), (Str.ofString "at", .local), (Str.ofString "signs", .local), (Str.ofString "end", .local), (Str.ofString "len", .globalImplicit)]
noncomputable def b__law_run : Mine.S :=
  (.seq (.assign (.loc 3) (.loc 1))
  (.seq (.while (.and (.cons (.cmp .Lt (.loc 3) (.bi "len" (.cons (.loc 0) .nil))) (.cons (.cmp .In (.sub (.loc 0) (.loc 3)) (.loc 2)) .nil)))
    (.seq (.assign (.loc 3) (.bin .Add (.loc 3) (.lit (.int 1))))
    .nil))
  (.seq (.ret (.loc 3))
  .nil)))
noncomputable def F__law_run : Fn := ⟨n__law_run, 3, b__law_run⟩
noncomputable def n__law_place : List (Str × NameKind) := [(Str.ofString "text", .cell), (Str.ofString "at", .local), (Str.ofString "end", .cell), (Str.ofString "number", .local), (Str.ofString "_law_run", .globalImplicit), (Str.ofString "sum", .globalImplicit), (Str.ofString "range", .globalImplicit)]
noncomputable def b__law_place : Mine.S :=
  (.seq (.assign (.loc 2) (.call "_law_run" (.cons (.loc 0) (.cons (.loc 1) (.cons (.lit (.str [48, 49, 51])) .nil)))))
  (.seq (.assign (.loc 3) (.bi "sum" (.cons (.comp [none, none, none, some 2, some 0] 1 (.bin .Mult (.bi "int" (.cons (.sub (.loc 4) (.bin .Sub (.bin .Sub (.loc 3) (.lit (.int 1))) (.loc 1))) .nil)) (.bin .Pow (.lit (.int 10)) (.loc 1))) (.range (.bin .Sub (.loc 2) (.loc 1)))) .nil)))
  (.seq (.ite (.and (.cons (.cmp .Gt (.loc 3) (.lit (.int 0))) (.cons (.cmp .Eq (.slice (.loc 0) (.loc 2) (.bin .Add (.loc 2) (.lit (.int 1)))) (.lit (.str [36]))) .nil)))
    (.seq (.ret (.tup (.cons (.loc 3) (.cons (.bin .Add (.loc 2) (.lit (.int 1))) .nil))))
    .nil)
    .nil)
  (.seq (.ret (.tup (.cons (.lit (.int 0)) (.cons (.loc 1) .nil))))
  .nil))))
noncomputable def F__law_place : Fn := ⟨n__law_place, 2, b__law_place⟩
noncomputable def n__law_sized : List (Str × NameKind) := [(Str.ofString "text", .local), (Str.ofString "at", .local), (Str.ofString "place", .local), (Str.ofString "end", .local), (Str.ofString "_law_place", .globalImplicit), (Str.ofString "_law_run", .globalImplicit)]
noncomputable def b__law_sized : Mine.S :=
  (.seq (.ite (.cmp .Eq (.slice (.loc 0) (.loc 1) (.bin .Add (.loc 1) (.lit (.int 1)))) (.lit (.str [42])))
    (.seq (.assign (.tup (.cons (.loc 2) (.cons (.loc 3) .nil))) (.call "_law_place" (.cons (.loc 0) (.cons (.bin .Add (.loc 1) (.lit (.int 1))) .nil))))
    (.seq (.ret (.tup (.cons (.lit (.str [])) (.cons (.loc 2) (.cons (.loc 3) .nil)))))
    .nil))
    .nil)
  (.seq (.assign (.loc 3) (.call "_law_run" (.cons (.loc 0) (.cons (.loc 1) (.cons (.lit (.str [48, 49, 51])) .nil)))))
  (.seq (.ret (.tup (.cons (.slice (.loc 0) (.loc 1) (.loc 3)) (.cons (.lit .none) (.cons (.loc 3) .nil)))))
  .nil)))
noncomputable def F__law_sized : Fn := ⟨n__law_sized, 2, b__law_sized⟩
noncomputable def n__law_cut : List (Str × NameKind) := [(Str.ofString "text", .local), (Str.ofString "parts", .local), (Str.ofString "at", .local), (Str.ofString "begun", .local), (Str.ofString "place", .local), (Str.ofString "end", .local), (Str.ofString "flags", .local), (Str.ofString "wide", .local), (Str.ofString "star", .local), (Str.ofString "point", .local), (Str.ofString "exact", .local), (Str.ofString "second", .local), (Str.ofString "len", .globalImplicit), (Str.ofString "_law_place", .globalImplicit), (Str.ofString "_law_run", .globalImplicit), (Str.ofString "_law_sized", .globalImplicit)]
noncomputable def b__law_cut : Mine.S :=
  (.seq (.assign (.loc 1) (.list .nil))
  (.seq (.assign (.loc 2) (.lit (.int 0)))
  (.seq (.while (.cmp .Lt (.loc 2) (.bi "len" (.cons (.loc 0) .nil)))
    (.seq (.ite (.cmp .NotEq (.sub (.loc 0) (.loc 2)) (.lit (.str [37])))
      (.seq (.expr (.meth "append" (.loc 1) (.cons (.sub (.loc 0) (.loc 2)) .nil)))
      (.seq (.assign (.loc 2) (.bin .Add (.loc 2) (.lit (.int 1))))
      .nil))
      (.seq (.ite (.cmp .Eq (.slice (.loc 0) (.bin .Add (.loc 2) (.lit (.int 1))) (.bin .Add (.loc 2) (.lit (.int 2)))) (.lit (.str [37])))
        (.seq (.expr (.meth "append" (.loc 1) (.cons (.lit (.str [37])) .nil)))
        (.seq (.assign (.loc 2) (.bin .Add (.loc 2) (.lit (.int 2))))
        .nil))
        (.seq (.assign (.loc 3) (.loc 2))
        (.seq (.assign (.tup (.cons (.loc 4) (.cons (.loc 2) .nil))) (.call "_law_place" (.cons (.loc 0) (.cons (.bin .Add (.loc 2) (.lit (.int 1))) .nil))))
        (.seq (.assign (.loc 5) (.call "_law_run" (.cons (.loc 0) (.cons (.loc 2) (.cons (.lit (.str [32, 43, 45, 48, 35])) .nil)))))
        (.seq (.assign2 6 2 (.slice (.loc 0) (.loc 2) (.loc 5)) (.loc 5))
        (.seq (.assign (.tup (.cons (.loc 7) (.cons (.loc 8) (.cons (.loc 2) .nil)))) (.call "_law_sized" (.cons (.loc 0) (.cons (.loc 2) .nil))))
        (.seq (.assign (.tup (.cons (.loc 9) (.cons (.loc 10) (.cons (.loc 11) .nil)))) (.tup (.cons (.lit (.str [])) (.cons (.lit (.str [])) (.cons (.lit .none) .nil)))))
        (.seq (.ite (.cmp .Eq (.slice (.loc 0) (.loc 2) (.bin .Add (.loc 2) (.lit (.int 1)))) (.lit (.str [46])))
          (.seq (.assign (.loc 9) (.lit (.str [46])))
          (.seq (.assign (.tup (.cons (.loc 10) (.cons (.loc 11) (.cons (.loc 2) .nil)))) (.call "_law_sized" (.cons (.loc 0) (.cons (.bin .Add (.loc 2) (.lit (.int 1))) .nil))))
          .nil))
          .nil)
        (.seq (.assign (.loc 2) (.call "_law_run" (.cons (.loc 0) (.cons (.loc 2) (.cons (.lit (.str [108])) .nil)))))
        (.seq (.ite (.cmp .In (.slice (.loc 0) (.loc 2) (.bin .Add (.loc 2) (.lit (.int 1)))) (.tup (.cons (.lit (.str [100])) (.cons (.lit (.str [115])) (.cons (.lit (.str [120])) (.cons (.lit (.str [99])) .nil))))))
          (.seq (.expr (.meth "append" (.loc 1) (.cons (.tup (.cons (.loc 4) (.cons (.loc 6) (.cons (.loc 7) (.cons (.loc 8) (.cons (.loc 9) (.cons (.loc 10) (.cons (.loc 11) (.cons (.sub (.loc 0) (.loc 2)) .nil))))))))) .nil)))
          .nil)
          (.seq (.expr (.meth "append" (.loc 1) (.cons (.slice (.loc 0) (.loc 3) (.bin .Add (.loc 2) (.lit (.int 1)))) .nil)))
          .nil))
        (.seq (.assign (.loc 2) (.bin .Add (.loc 2) (.lit (.int 1))))
        .nil)))))))))))
      .nil))
    .nil))
  (.seq (.ret (.loc 1))
  .nil))))
noncomputable def F__law_cut : Fn := ⟨n__law_cut, 1, b__law_cut⟩
noncomputable def n__law_value : List (Str × NameKind) := [(Str.ofString "values", .local), (Str.ofString "place", .local), (Str.ofString "seen", .local), (Str.ofString "len", .globalImplicit)]
noncomputable def b__law_value : Mine.S :=
  (.seq (.ite (.cmp .Eq (.loc 1) (.lit (.int 0)))
    (.seq (.assign (.sub (.loc 2) (.lit (.int 0))) (.bin .Add (.sub (.loc 2) (.lit (.int 0))) (.lit (.int 1))))
    (.seq (.assign (.loc 1) (.sub (.loc 2) (.lit (.int 0))))
    .nil))
    .nil)
  (.seq (.ret (.ite (.cmp .LtE (.loc 1) (.bi "len" (.cons (.loc 0) .nil))) (.sub (.loc 0) (.bin .Sub (.loc 1) (.lit (.int 1)))) (.lit .none)))
  .nil))
noncomputable def F__law_value : Fn := ⟨n__law_value, 3, b__law_value⟩
noncomputable def n__law_number : List (Str × NameKind) := [(Str.ofString "value", .local), (Str.ofString "isinstance", .globalImplicit), (Str.ofString "int", .globalImplicit)]
noncomputable def b__law_number : Mine.S :=
  (.seq (.ret (.ite (.val (.isi (.loc 0) "int")) (.loc 0) (.ite (.cmp .Eq (.loc 0) (.lit (.str [51, 120]))) (.lit (.int 3)) (.lit (.int 0)))))
  .nil)
noncomputable def F__law_number : Fn := ⟨n__law_number, 1, b__law_number⟩
noncomputable def n__law_told : List (Str × NameKind) := [(Str.ofString "part", .local), (Str.ofString "values", .local), (Str.ofString "seen", .local), (Str.ofString "place", .local), (Str.ofString "flags", .local), (Str.ofString "wide", .local), (Str.ofString "star", .local), (Str.ofString "point", .local), (Str.ofString "exact", .local), (Str.ofString "second", .local), (Str.ofString "letter", .local), (Str.ofString "number", .local), (Str.ofString "_law_number", .globalImplicit), (Str.ofString "_law_value", .globalImplicit), (Str.ofString "str", .globalImplicit), (Str.ofString "abs", .globalImplicit)]
noncomputable def b__law_told : Mine.S :=
  (.seq (.assign (.tup (.cons (.loc 3) (.cons (.loc 4) (.cons (.loc 5) (.cons (.loc 6) (.cons (.loc 7) (.cons (.loc 8) (.cons (.loc 9) (.cons (.loc 10) .nil))))))))) (.loc 0))
  (.seq (.ite (.cmp .IsNot (.loc 6) (.lit .none))
    (.seq (.assign (.loc 11) (.call "_law_number" (.cons (.call "_law_value" (.cons (.loc 1) (.cons (.loc 6) (.cons (.loc 2) .nil)))) .nil)))
    (.seq (.assign (.loc 4) (.bin .Add (.loc 4) (.ite (.cmp .Lt (.loc 11) (.lit (.int 0))) (.lit (.str [45])) (.lit (.str [])))))
    (.seq (.assign (.loc 5) (.ite (.cmp .NotEq (.loc 11) (.lit (.int 0))) (.bi "str" (.cons (.bi "abs" (.cons (.loc 11) .nil)) .nil)) (.lit (.str []))))
    .nil)))
    .nil)
  (.seq (.ite (.cmp .IsNot (.loc 9) (.lit .none))
    (.seq (.assign (.loc 11) (.call "_law_number" (.cons (.call "_law_value" (.cons (.loc 1) (.cons (.loc 9) (.cons (.loc 2) .nil)))) .nil)))
    (.seq (.assign (.loc 8) (.ite (.cmp .GtE (.loc 11) (.lit (.int 0))) (.bi "str" (.cons (.loc 11) .nil)) (.lit (.str []))))
    (.seq (.assign (.loc 7) (.ite (.cmp .GtE (.loc 11) (.lit (.int 0))) (.lit (.str [46])) (.lit (.str []))))
    .nil)))
    .nil)
  (.seq (.ret (.tup (.cons (.bin .Add (.bin .Add (.bin .Add (.bin .Add (.bin .Add (.lit (.str [37])) (.loc 4)) (.loc 5)) (.loc 7)) (.loc 8)) (.loc 10)) (.cons (.call "_law_value" (.cons (.loc 1) (.cons (.loc 3) (.cons (.loc 2) .nil)))) .nil))))
  .nil))))
noncomputable def F__law_told : Fn := ⟨n__law_told, 3, b__law_told⟩
noncomputable def n__law_formatted : List (Str × NameKind) := [(Str.ofString "template", .local), (Str.ofString "values", .local), (Str.ofString "format_text", .globalImplicit), (Str.ofString "Limits", .globalImplicit), (Str.ofString "Die", .globalImplicit)]
noncomputable def b__law_formatted : Mine.S :=
  (.seq (.tryDie (.seq (.ret (.call "format_text" (.cons (.loc 0) (.cons (.loc 1) (.cons (.new "Limits" .nil ["text"] (.cons (.lit (.int 200)) .nil)) .nil)))))
  .nil))
  .nil)
noncomputable def F__law_formatted : Fn := ⟨n__law_formatted, 2, b__law_formatted⟩
noncomputable def n_law : List (Str × NameKind) := [(Str.ofString "script", .local), (Str.ofString "s", .local), (Str.ofString "pen", .cell), (Str.ofString "values", .local), (Str.ofString "template", .local), (Str.ofString "seen", .local), (Str.ofString "made", .local), (Str.ofString "part", .local), (Str.ofString "alone", .local), (Str.ofString "value", .local), (Str.ofString "due", .local), (Str.ofString "_law_rest", .globalImplicit), (Str.ofString "len", .globalImplicit), (Str.ofString "range", .globalImplicit), (Str.ofString "_law_draw", .globalImplicit), (Str.ofString "_law_cut", .globalImplicit), (Str.ofString "isinstance", .globalImplicit), (Str.ofString "str", .globalImplicit), (Str.ofString "_law_told", .globalImplicit), (Str.ofString "_law_formatted", .globalImplicit)]
noncomputable def b_law : Mine.S :=
  (.seq (.assign (.loc 1) (.slice (.loc 0) (.lit .none) (.lit (.int 40))))
  (.seq (.assign (.loc 2) (.list (.cons (.bin .Add (.loc 1) (.slice (.call "_law_rest" .nil) (.bi "len" (.cons (.loc 1) .nil)) (.lit .none))) (.cons (.lit (.int 0)) .nil))))
  (.seq (.assignC 3 (.comp [none, none, none, some 2] 1 (.sub (.tup (.cons (.lit (.int 0)) (.cons (.lit (.int 5)) (.cons (.neg (.lit (.int 7))) (.cons (.lit (.str [51, 120])) (.cons (.lit .none) (.cons (.lit (.int 12)) (.cons (.lit (.str [97, 98])) (.cons (.neg (.lit (.int 1))) .nil))))))))) (.call "_law_draw" (.cons (.loc 3) (.cons (.lit (.int 8)) .nil)))) (.range (.call "_law_draw" (.cons (.loc 2) (.cons (.lit (.int 6)) .nil))))))
  (.seq (.assign (.loc 4) (.meth "join" (.lit (.str [])) (.cons (.comp [none, none, none, none, some 2] 1 (.sub (.lit (.str [37, 36, 42, 46, 48, 49, 51, 45, 43, 35, 32, 108, 100, 115, 120, 99, 121, 102])) (.call "_law_draw" (.cons (.loc 4) (.cons (.lit (.int 18)) .nil)))) (.range (.call "_law_draw" (.cons (.loc 2) (.cons (.lit (.int 21)) .nil))))) .nil)))
  (.seq (.assign (.loc 5) (.list (.cons (.lit (.int 0)) .nil)))
  (.seq (.assign (.loc 6) (.list .nil))
  (.seq (.for 7 (.val (.call "_law_cut" (.cons (.loc 4) .nil)))
    (.seq (.ite (.val (.isi (.loc 7) "str"))
      (.seq (.expr (.meth "append" (.loc 6) (.cons (.loc 7) .nil)))
      .nil)
      (.seq (.assign (.tup (.cons (.loc 8) (.cons (.loc 9) .nil))) (.call "_law_told" (.cons (.loc 7) (.cons (.loc 3) (.cons (.loc 5) .nil)))))
      (.seq (.expr (.meth "append" (.loc 6) (.cons (.call "_law_formatted" (.cons (.loc 8) (.cons (.list (.cons (.loc 9) .nil)) .nil))) .nil)))
      .nil)))
    .nil))
  (.seq (.assign (.loc 10) (.ite (.cmp .In (.lit .none) (.loc 6)) (.lit .none) (.meth "join" (.lit (.str [])) (.cons (.loc 6) .nil))))
  (.seq (.ite (.and (.cons (.cmp .IsNot (.loc 10) (.lit .none)) (.cons (.cmp .Gt (.bi "len" (.cons (.loc 10) .nil)) (.lit (.int 200))) .nil)))
    (.seq (.assign (.loc 10) (.lit .none))
    .nil)
    .nil)
  (.seq (.ret (.cmp .Eq (.call "_law_formatted" (.cons (.loc 4) (.cons (.loc 3) .nil))) (.loc 10)))
  .nil))))))))))
noncomputable def F_law : Fn := ⟨n_law, 1, b_law⟩
end Mine
end

section
set_option genSizeOf false
set_option genSizeOfSpec false
open PySem PySem.W PyProof.Rows PySem.Calls
set_option Elab.async false
set_option maxRecDepth 100000
set_option linter.unusedVariables false
set_option linter.unusedSimpArgs false
namespace Mine
variable {g : G} {H : AHeap} {n : Nat} {Q : Fl → Loc → AHeap → Prop} {X : AHeap → Prop} {loc : Loc}

noncomputable abbrev T := List Nat
def Ext (H H' : AHeap) : Prop := ∀ b o, H b = some o → H' b = some o
theorem Ext.refl (H : AHeap) : Ext H H := fun _ _ e => e
theorem Ext.trans {A B C : AHeap} (x : Ext A B) (y : Ext B C) : Ext A C := fun b o e => y b o (x b o e)
theorem Ext.upd {H : AHeap} {a : Addr} {o : AObj} (h : H a = none) : Ext H (upd H a o) := fun b ob e => by
  rw [upd_ne _ _ (fun z => by rw [z, h] at e; cases e)]; exact e

theorem S_seq {a b : S} (h : wpS g n a (sq g n b Q X) X loc H) : wpS g n (.seq a b) Q X loc H := h
theorem S_nil (h : Q .next loc H) : wpS g n .nil Q X loc H := h
theorem S_ret {e : C} (h : wpE g n loc e (fun v H₁ => Q (.ret v) loc H₁) X H) : wpS g n (.ret e) Q X loc H := h
theorem S_set {i : Nat} {e : C} (h : wpE g n loc e (fun v H₁ => Q .next (loc.set i (some v)) H₁) X H) : wpS g n (.assign (.loc i) e) Q X loc H := h
theorem S_ite {t : C} {a b : S} (h : wpT g n loc t (fun r H₁ => if r then wpS g n a Q X loc H₁ else wpS g n b Q X loc H₁) X H) : wpS g n (.ite t a b) Q X loc H := h

theorem S_aug {i : Nat} {op : Operator} {e : C} (h : wpE g n loc (.loc i) (fun v H₁ => wpE g n loc e (fun ve H₂ => iopK op v ve H₂ fun r H₃ => Q .next (loc.set i (some r)) H₃) X H₁) X H) : wpS g n (.aug (.loc i) op e) Q X loc H := h
theorem S_augA {o : C} {a : String} {op : Operator} {e : C} (h : wpE g n loc o (fun vo H₁ => attrK vo a H₁ fun v => wpE g n loc e (fun ve H₂ => iopK op v ve H₂ fun r H₃ => setAttrK vo a r H₃ fun H₄ => Q .next loc H₄) X H₁) X H) : wpS g n (.aug (.attr o a) op e) Q X loc H := h
theorem S_setA {o e : C} {a : String} (h : wpE g n loc e (fun v H₁ => wpE g n loc o (fun vo H₂ => setAttrK vo a v H₂ fun H₃ => Q .next loc H₃) X H₁) X H) : wpS g n (.assign (.attr o a) e) Q X loc H := h
theorem S_setS {o i e : C} (h : wpE g n loc e (fun v H₁ => wpE g n loc o (fun vo H₂ => wpE g n loc i (fun vi H₃ => setSubK vo vi v H₃ fun H₄ => Q .next loc H₄) X H₂) X H₁) X H) : wpS g n (.assign (.sub o i) e) Q X loc H := h
theorem S_tup {ts e : C} (h : wpE g n loc e (fun v H₁ => assignT g n (.tup ts) v (fun l H₂ => Q .next l H₂) X loc H₁) X H) : wpS g n (.assign (.tup ts) e) Q X loc H := h
theorem S_expr {e : C} (h : wpE g n loc e (fun v H₁ => v = .none ∧ Q .next loc H₁) X H) : wpS g n (.expr e) Q X loc H := h
theorem S_raise {e : C} (h : wpE g n loc e (fun v H₁ => 2 ≤ n ∧ (∃ s, v = .str s) ∧ X H₁) X H) : wpS g n (.raise e) Q X loc H := h
theorem S_for {i : Nat} {it : C} {b : S} (h : wpI g n loc it (fun items src H₁ => ∃ I : Nat → Loc → AHeap → Prop, I 0 loc H₁ ∧
      (∀ k loc₂ H₂ x, items[k]? = some x → I k loc₂ H₂ → srcOk src items H₂ ∧ wpS g n b (lq (I (k + 1)) Q) X (loc₂.set i (some x)) H₂) ∧
      (∀ loc₂ H₂, I items.length loc₂ H₂ → srcOk src items H₂ ∧ Q .next loc₂ H₂)) X H) : wpS g n (.for i it b) Q X loc H := h
theorem S_while {t : C} {b : S} (I : Loc → AHeap → Prop) (μ : Loc → AHeap → Nat) (h0 : I loc H) (h : ∀ loc₁ H₁, I loc₁ H₁ →
      wpT g n loc₁ t (fun r H₂ => if r then wpS g n b (lq (fun loc₃ H₃ => I loc₃ H₃ ∧ μ loc₃ H₃ < μ loc₁ H₁) Q) X loc₁ H₂
        else Q .next loc₁ H₂) X H₁) : wpS g n (.while t b) Q X loc H := ⟨I, μ, h0, h⟩

theorem set_same {α : Type} : ∀ {l : List α} {i : Nat} {a : α}, l[i]? = some a → l.set i a = l
  | _ :: _, 0, _, h => by cases h; rfl
  | b :: l, i + 1, a, h => by rw [List.set_cons_succ, set_same (l := l) (by simpa using h)]

noncomputable def runL (p : Nat → Bool) (t : T) : T := t.takeWhile p
/-- where a run of signs ends -/
noncomputable def run (p : Nat → Bool) (t : T) (i : Nat) : Nat := i + ((t.drop i).takeWhile p).length

theorem run_ge (p : Nat → Bool) (t : T) (i : Nat) : i ≤ run p t i := Nat.le_add_right _ _
theorem run_le (p : Nat → Bool) (t : T) (i : Nat) (h : i ≤ t.length) : run p t i ≤ t.length := by
  unfold run
  have := List.takeWhile_sublist p (l := t.drop i) |>.length_le
  rw [List.length_drop] at this; omega
theorem run_step {p : Nat → Bool} {t : T} {i c : Nat} (h : t[i]? = some c) (hc : p c = true) : run p t (i + 1) = run p t i := by
  obtain ⟨hi, rfl⟩ := List.getElem?_eq_some_iff.mp h
  unfold run
  rw [List.drop_eq_getElem_cons hi, List.takeWhile_cons, if_pos hc, List.length_cons]
  omega
theorem run_stop {p : Nat → Bool} {t : T} {i : Nat} (h : ∀ c, t[i]? = some c → p c = false) : run p t i = i := by
  unfold run
  by_cases hi : i < t.length
  · rw [List.drop_eq_getElem_cons hi, List.takeWhile_cons, if_neg (by rw [h _ (List.getElem?_eq_getElem hi)]; decide)]; rfl
  · rw [List.drop_of_length_le (by exact (Nat.not_lt.mp (by assumption)))]; rfl

noncomputable def intAt (loc : Loc) (i : Nat) : Int := match loc[i]? with
  | some (some (.int z)) => z
  | _ => 0

/-- the loop that passes over signs -/
theorem wp_scan {i j k : Nat} {cs t : T} (hi : loc[i]? = some (some (.int k))) (hj : loc[j]? = some (some (.str t))) (hij : i ≠ j) (hl : t.length ≤ lim)
    (h : Q .next (loc.set i (some (.int (run (fun c => decide (c ∈ cs)) t k)))) H) :
    wpS g n (.while (.and (.cons (.cmp .Lt (.loc i) (.bi "len" (.cons (.loc j) .nil))) (.cons (.cmp .In (.sub (.loc j) (.loc i)) (.lit (.str cs))) .nil))) (.seq (.aug (.loc i) .Add (.lit (.int 1))) .nil)) Q X loc H := by
  rw [zs10]
  have hil : i < loc.length := (List.getElem?_eq_some_iff.mp hi).1
  refine ⟨fun l H₁ => ∃ m : Nat, l = loc.set i (some (.int m)) ∧ H₁ = H ∧ run (fun c => decide (c ∈ cs)) t m = run (fun c => decide (c ∈ cs)) t k, fun l _ => t.length - (intAt l i).toNat, ⟨k, ?_, rfl, rfl⟩, ?_⟩
  · exact (set_same hi).symm
  · rintro l H₁ ⟨m, rfl, rfl, hm⟩
    have e1 : (loc.set i (some (V.int m)))[i]? = some (some (.int m)) := List.getElem?_set_self hil
    have e2 : (loc.set i (some (V.int m)))[j]? = some (some (.str t)) := by rw [List.getElem?_set_ne hij]; exact hj
    simp only [zt1, zt2, za1, za2, ze1, ze2, ze10, ze14, zl1, zl2, e1, e2, kf1, kc9, kc15, ku1]
    refine ⟨hl, ?_⟩
    by_cases hlt : m < t.length
    · have hc := List.getElem?_eq_getElem hlt
      rw [show decide ((m : Int) < (t.length : Int)) = true from by simpa using hlt, if_pos rfl]
      refine ⟨by exact (Int.natCast_nonneg _), hl, t[m], by simpa using hc, t[m], rfl, ?_⟩
      by_cases hcs : t[m] ∈ cs
      · simp only [hcs, decide_true, if_true, zs1, zs2, zs6, ze1, ze2, e1, ki1]
        refine ⟨⟨m + 1, by rw [List.set_set]; rfl, by trivial, ?_⟩, ?_⟩
        · rw [← hm]; exact run_step hc (by simpa using hcs)
        · have e3 : ((loc.set i (some (V.int m))).set i (some (V.int ((m : Int) + 1))))[i]? = some (some (.int ((m : Int) + 1))) := List.getElem?_set_self (by rw [List.length_set]; exact hil)
          unfold intAt
          rw [e1, e3]
          dsimp only
          exact (Nat.sub_succ_lt_self _ _ (by assumption))
      · simp only [hcs, decide_false, Bool.false_eq_true, if_false]
        rw [show run (fun c => decide (c ∈ cs)) t k = m from by rw [← hm]; exact run_stop (fun c e => by rw [hc] at e; cases e; simpa using hcs)] at h
        exact h
    · rw [show decide ((m : Int) < (t.length : Int)) = false from by simpa using hlt]
      simp only [Bool.false_eq_true, if_false]
      rw [show run (fun c => decide (c ∈ cs)) t k = m from by rw [← hm]; exact run_stop (fun c e => by rw [List.getElem?_eq_none (by exact (Nat.not_lt.mp (by assumption)))] at e; cases e)] at h
      exact h
end Mine
end

section
set_option genSizeOf false
set_option genSizeOfSpec false
open PySem PySem.W PyProof.Rows PySem.Calls
set_option Elab.async false
set_option maxRecDepth 100000
set_option linter.unusedVariables false
set_option linter.unusedSimpArgs false
namespace Mine
variable {g : G} {H : AHeap} {n : Nat} {Q : V → AHeap → Prop} {X : AHeap → Prop} {loc : Loc}

/-- what the text's functions are -/
noncomputable def famList : List (String × Fn) := [("wrap_number", F_wrap_number), ("number_head", F_number_head), ("numeric_text", F_numeric_text), ("number_text", F_number_text), ("to_text", F_to_text), ("to_number", F_to_number), ("chr_text", F_chr_text),
  ("take_value", F_take_value), ("figures_at", F_figures_at), ("index_at", F_index_at), ("read_flags", F_read_flags), ("read_size", F_read_size), ("read_directive", F_read_directive), ("check_size", F_check_size), ("settle_stars", F_settle_stars),
  ("base_text", F_base_text), ("sign_ahead", F_sign_ahead), ("prefix_of", F_prefix_of), ("with_precision", F_with_precision), ("signed_parts", F_signed_parts), ("unsigned_parts", F_unsigned_parts), ("text_part", F_text_part), ("laid_out", F_laid_out),
  ("directive_text", F_directive_text), ("format_text", F_format_text)]

noncomputable def baseTab : List (List Nat × Int) := [([117], 10), ([85], 10), ([111], 8), ([79], 8), ([120], 16), ([88], 16), ([98], 2), ([66], 2)]
structure Fam (g : G) : Prop where
  G : GOk g
  D : DieOk g
  fn : ∀ p ∈ famList, FnOk g p.1 p.2
  dir : InitOk g "Directive" F_Directive__init
  row : InitOk g "ValueRow" F_ValueRow__init
  bases : g.ro LB = some (.sdict baseTab)

noncomputable def wrapN (x : Int) (w : Nat) : Int := if x % 2 ^ w / 2 ^ (w - 1) = 0 then x % 2 ^ w else x % 2 ^ w - 2 ^ w

theorem two_pos (w : Nat) : (0 : Int) < 2 ^ w := Int.pow_pos (by decide)

theorem c_wrap (W : Fam g) {x : Int} {w : Nat} (hn : 1 ≤ n) (h1 : 1 ≤ w) (h2 : w ≤ 64) (hQ : Q (.int (wrapN x w)) H) : CallSem g n "wrap_number" [.int x, .int w] H Q X := by
  refine CallSem.mono (n := 0 + 1) (call_intro W.G W.D (W.fn ("wrap_number", F_wrap_number) (List.mem_of_getElem? (i := 0) rfl)) rfl ?_) hn
  show wpS g 0 b_wrap_number _ X [some (.int x), some (.int w)] H
  have e : ((w : Int) - 1).toNat = w - 1 := by exact (toN_pred (by assumption))
  have e2 : (Int.natAbs 1) < 2 ^ 64 := by decide
  simp only [b_wrap_number, zs1, zs2, zs6, zs9, zs12, ze1, ze2, ze3, zt5, List.getElem?_cons_zero, List.getElem?_cons_succ, List.set_cons_zero, kb4, kb9, kb10, kt2, ki3, ki5, Int.toNat_natCast, Int.one_mul, e]
  refine ⟨⟨by exact (Int.natCast_nonneg _), by exact (Int.ofNat_le.mpr (Nat.le_trans (by assumption) (by decide))), e2⟩, two_pos w, by omega, ?_⟩
  unfold wrapN at hQ
  by_cases hm : x % 2 ^ w / 2 ^ (w - 1) = 0
  · rw [if_pos hm] at hQ
    simp only [hm, ne_eq, not_true_eq_false, decide_false, Bool.false_eq_true, if_false]
    exact hQ
  · rw [if_neg hm] at hQ
    simp only [hm, ne_eq, not_false_eq_true, decide_true, if_true]
    exact ⟨⟨by exact (Int.natCast_nonneg _), by exact (Int.ofNat_le.mpr (Nat.le_trans (by assumption) (by decide))), e2⟩, hQ⟩

/-! ## figures -/
noncomputable def dig (d : Nat) : Nat := if d < 10 then 48 + d else 87 + d
noncomputable def digs (b n : Nat) : T := if h : 2 ≤ b ∧ b ≤ n then digs b (n / b) ++ [dig (n % b)] else [dig n]
termination_by n
decreasing_by exact Nat.div_lt_self (by omega) (by omega)

theorem digs_lt {b n : Nat} (h : n < b) : digs b n = [dig n] := by rw [digs, dif_neg (by omega)]
theorem digs_ge {b n : Nat} (hb : 2 ≤ b) (h : b ≤ n) : digs b n = digs b (n / b) ++ [dig (n % b)] := by rw [digs, dif_pos ⟨hb, h⟩]
theorem digs_len {b : Nat} (hb : 2 ≤ b) : ∀ (k n : Nat), n < 2 ^ k → 1 ≤ k → (digs b n).length ≤ k
  | 0, _, _, h => by omega
  | k + 1, n, h, _ => by
    by_cases hlt : n < b
    · rw [digs_lt hlt]; show 1 ≤ k + 1; exact (by assumption)
    · rw [digs_ge hb (by exact (Nat.not_lt.mp (by assumption))), List.length_append]
      have h1 : n / b ≤ n / 2 := Nat.div_le_div_left hb (by decide)
      have h2 : n / 2 < 2 ^ k := by rw [Nat.pow_succ] at h; omega
      have hk : 1 ≤ k := by
        rcases Nat.eq_zero_or_pos k with rfl | hk
        · rw [Nat.pow_succ] at h; omega
        · exact hk
      have := digs_len hb k (n / b) (by exact (Nat.lt_of_le_of_lt (by assumption) (by assumption))) hk
      show _ + 1 ≤ _; exact (Nat.succ_le_succ (by assumption))
theorem digs_ne (b n : Nat) : digs b n ≠ [] := by
  rw [digs]; split <;> simp
theorem digs_last {b n : Nat} (hb : 2 ≤ b) : ∃ f, digs b n = f ++ [dig (n % b)] := by
  by_cases h : n < b
  · exact ⟨[], by rw [digs_lt h, Nat.mod_eq_of_lt h]; rfl⟩
  · exact ⟨digs b (n / b), digs_ge hb (by exact (Nat.not_lt.mp (by assumption)))⟩

theorem fig10 : ∀ k, k < 10 → ([48, 49, 50, 51, 52, 53, 54, 55, 56, 57] : List Nat)[k]? = some (dig k) := by decide
theorem fig16 : ∀ k, k < 16 → ([48, 49, 50, 51, 52, 53, 54, 55, 56, 57, 97, 98, 99, 100, 101, 102] : List Nat)[k]? = some (dig k) := by decide

/-- how the loop that writes figures goes on -/
def Wrote (b N m : Nat) (text : T) : Prop := ∃ f r, digs b N = f ++ text ∧ digs b m = f ++ [dig (m % b)] ∧ text = dig (m % b) :: r
theorem Wrote.start {b N : Nat} (hb : 2 ≤ b) : Wrote b N N [dig (N % b)] := by
  obtain ⟨f, h⟩ := digs_last (n := N) hb
  exact ⟨f, [], h, h, rfl⟩
theorem Wrote.step {b N m : Nat} {text : T} (hb : 2 ≤ b) (h : Wrote b N m text) (hm : b ≤ m) : Wrote b N (m / b) (dig (m / b % b) :: text) := by
  obtain ⟨f, r, h1, h2, h3⟩ := h
  obtain ⟨f', h'⟩ := digs_last (n := m / b) hb
  rw [digs_ge hb hm] at h2
  have e : f = digs b (m / b) := (List.append_inj_left' h2 rfl).symm
  refine ⟨f', text, ?_, h', rfl⟩
  rw [h1, e, h']; simp
theorem Wrote.done {b N m : Nat} {text : T} (h : Wrote b N m text) (hm : m < b) : text = digs b N := by
  obtain ⟨f, r, h1, h2, h3⟩ := h
  rw [digs_lt hm, Nat.mod_eq_of_lt hm] at h2
  have e : f = [] := by
    cases f with
    | nil => rfl
    | cons a f => simp at h2
  rw [h1, e]; rfl
theorem Wrote.len {b N m : Nat} {text : T} (hb : 2 ≤ b) (h : Wrote b N m text) (hN : N < 2 ^ 70) : text.length ≤ 70 := by
  obtain ⟨f, r, h1, -, -⟩ := h
  have := digs_len hb 70 N hN (by exact (by decide))
  rw [h1, List.length_append] at this; omega

noncomputable def numText (x : Int) : T := if x < 0 then 45 :: digs 10 x.natAbs else digs 10 x.natAbs

theorem lim_val : lim = 1048576 := by rfl

theorem c_number_nn (W : Fam g) {N : Nat} (hn : 1 ≤ n) (hN : N < 2 ^ 70) (hQ : Q (.str (digs 10 N)) H) : CallSem g n "number_text" [.int N] H Q X := by
  refine CallSem.mono (n := 0 + 1) (call_intro W.G W.D (W.fn ("number_text", F_number_text) (List.mem_of_getElem? (i := 3) rfl)) rfl ?_) hn
  show wpS g 0 b_number_text _ X [some (.int N), none, none, none] H
  unfold b_number_text
  have hf : ∀ m : Nat, ([48, 49, 50, 51, 52, 53, 54, 55, 56, 57] : List Nat)[((m : Int) % 10).toNat]? = some (dig (m % 10)) := fun m => by
    have e : ((m : Int) % 10).toNat = m % 10 := by exact (rfl)
    rw [e]; exact fig10 _ (Nat.mod_lt _ (by decide))
  refine S_seq (S_ite ?_)
  simp only [ze1, ze2, zt1, List.getElem?_cons_zero, kc9]
  rw [show decide ((N : Int) < 0) = false from rfl]
  simp only [Bool.false_eq_true, if_false]
  refine S_nil (S_seq (S_set ?_))
  simp only [ze1, ze2, ze3, ze14, List.getElem?_cons_zero, List.set_cons_zero, List.set_cons_succ, kb8, ku1]
  refine ⟨by exact (Int.natCast_nonneg _), by exact (Int.natCast_nonneg _), by rw [lim_val]; decide, _, hf N, S_seq ?_⟩
  rw [zs10]
  refine ⟨fun l H₁ => ∃ (m : Nat) (text : T), l = [some (.int m), some (.str text), none, none] ∧ H₁ = H ∧ Wrote 10 N m text, fun l _ => (intAt l 0).toNat, ⟨N, _, rfl, rfl, Wrote.start (by decide)⟩, ?_⟩
  rintro l H₁ ⟨m, text, rfl, rfl, hw⟩
  simp only [ze1, ze2, zt1, List.getElem?_cons_zero, kc11]
  by_cases hm : (9 : Int) < m
  · simp only [hm, decide_true, if_true, zs1, zs2, zs3, zs6, zs12, ze1, ze2, ze3, ze14, List.getElem?_cons_zero, List.getElem?_cons_succ, List.set_cons_zero, List.set_cons_succ, kb2, kb8, ki4, ku1, assignT, zk1]
    have e : (m : Int) / 10 = ((m / 10 : Nat) : Int) := by exact (rfl)
    have hlen := hw.len (by decide) hN
    refine ⟨⟨by exact (Int.natCast_nonneg _), by exact (Int.natCast_nonneg _)⟩, by exact (Int.natCast_nonneg _), by exact (Int.natCast_nonneg _), by rw [lim_val]; decide, _, by rw [e]; exact hf _, by rw [lim_val]; show 1 + _ ≤ _; omega, ⟨m / 10, _, by rw [e]; rfl, (by trivial), hw.step (by decide) (by omega)⟩, ?_⟩
    show ((m : Int) / 10).toNat < ((m : Int)).toNat
    omega
  · refine ite_f (hm) ?_
    refine S_seq (S_ret ?_)
    simp only [ze2, List.getElem?_cons_zero, List.getElem?_cons_succ]
    rw [hw.done (by omega)]; exact hQ

theorem c_number_text (W : Fam g) {x : Int} (hn : 2 ≤ n) (hN : x.natAbs < 2 ^ 70) (hQ : Q (.str (numText x)) H) : CallSem g n "number_text" [.int x] H Q X := by
  by_cases hx : x < 0
  · refine CallSem.mono (n := 1 + 1) (call_intro W.G W.D (W.fn ("number_text", F_number_text) (List.mem_of_getElem? (i := 3) rfl)) rfl ?_) hn
    show wpS g 1 b_number_text _ X [some (.int x), none, none, none] H
    unfold b_number_text
    refine S_seq (S_ite ?_)
    simp only [ze1, ze2, zt1, List.getElem?_cons_zero, kc9, hx, decide_true, kc9, if_true]
    refine S_seq (S_ret ?_)
    simp only [ze1, ze2, ze3, ze5, ze8, zl1, zl2, List.getElem?_cons_zero]
    have e : -x = (x.natAbs : Int) := by omega
    rw [e]
    refine c_number_nn W (Nat.le_refl _) hN ?_
    have := digs_len (b := 10) (by decide) 70 x.natAbs hN (by exact (by decide))
    unfold numText at hQ
    rw [if_pos hx] at hQ
    exact ⟨by rw [lim_val]; show 1 + _ ≤ _; omega, hQ⟩
  · have e : x = (x.natAbs : Int) := by omega
    unfold numText at hQ
    rw [if_neg hx] at hQ
    rw [e]
    exact c_number_nn W (by exact (Nat.le_of_lt (by assumption))) hN hQ
end Mine
end

section
set_option genSizeOf false
set_option genSizeOfSpec false
open PySem PySem.W PyProof.Rows PySem.Calls
set_option Elab.async false
set_option maxRecDepth 100000
set_option linter.unusedVariables false
set_option linter.unusedSimpArgs false
namespace Mine
variable {g : G} {H : AHeap} {n : Nat} {Q : V → AHeap → Prop} {X : AHeap → Prop} {loc : Loc}

theorem c_base (W : Fam g) {N b : Nat} (hn : 1 ≤ n) (hN : N < 2 ^ 70) (hb : 2 ≤ b) (hb2 : b ≤ 16) (hQ : Q (.str (digs b N)) H) : CallSem g n "base_text" [.int N, .int b] H Q X := by
  refine CallSem.mono (n := 0 + 1) (call_intro W.G W.D (W.fn ("base_text", F_base_text) (List.mem_of_getElem? (i := 15) rfl)) rfl ?_) hn
  show wpS g 0 b_base_text _ X [some (.int N), some (.int b), none, none] H
  unfold b_base_text
  have hf : ∀ m : Nat, ([48, 49, 50, 51, 52, 53, 54, 55, 56, 57, 97, 98, 99, 100, 101, 102] : List Nat)[((m : Int) % b).toNat]? = some (dig (m % b)) := fun m => by
    have e : ((m : Int) % b).toNat = m % b := by
      rw [← Int.natCast_emod]; rfl
    rw [e]; exact fig16 _ (Nat.lt_of_lt_of_le (Nat.mod_lt _ (by exact (Nat.le_of_lt (by assumption)))) hb2)
  have hnn : ∀ m : Nat, (0 : Int) ≤ (m : Int) % b := fun m => Int.emod_nonneg _ (by omega)
  refine S_seq (S_set ?_)
  simp only [ze1, ze2, ze3, ze14, List.getElem?_cons_zero, List.getElem?_cons_succ, List.set_cons_zero, List.set_cons_succ, kb8, ku1]
  refine ⟨by exact (Int.ofNat_le.mpr (Nat.le_of_lt (by assumption))), hnn N, by rw [lim_val]; decide, _, hf N, S_seq ?_⟩
  rw [zs10]
  refine ⟨fun l H₁ => ∃ (m : Nat) (text : T), l = [some (.int m), some (.int b), some (.str text), none] ∧ H₁ = H ∧ Wrote b N m text, fun l _ => (intAt l 0).toNat, ⟨N, _, rfl, rfl, Wrote.start hb⟩, ?_⟩
  rintro l H₁ ⟨m, text, rfl, rfl, hw⟩
  simp only [ze2, zt1, List.getElem?_cons_zero, List.getElem?_cons_succ, kc12]
  by_cases hm : (b : Int) ≤ m
  · simp only [hm, decide_true, if_true, zs1, zs2, zs3, zs6, zs12, ze1, ze2, ze3, ze14, List.getElem?_cons_zero, List.getElem?_cons_succ, List.set_cons_zero, List.set_cons_succ, kb2, kb8, ki4, ku1, assignT, zk1]
    have e : (m : Int) / b = ((m / b : Nat) : Int) := by rw [Int.natCast_ediv]
    have hlen := hw.len hb hN
    have hlt : m / b < m := Nat.div_lt_self (by omega) (by exact (by assumption))
    refine ⟨⟨by exact (Int.ofNat_le.mpr (Nat.le_of_lt (by assumption))), by omega⟩, by exact (Int.ofNat_le.mpr (Nat.le_of_lt (by assumption))), by rw [e]; exact hnn _, by rw [lim_val]; decide, _, by rw [e]; exact hf _, by rw [lim_val]; show 1 + _ ≤ _; omega, ⟨m / b, _, by rw [e]; rfl, (by trivial), hw.step hb (by omega)⟩, ?_⟩
    show ((m : Int) / b).toNat < ((m : Int)).toNat
    rw [e]; exact (by assumption)
  · refine ite_f (hm) ?_
    refine S_seq (S_ret ?_)
    simp only [ze2, List.getElem?_cons_zero, List.getElem?_cons_succ]
    rw [hw.done (by omega)]; exact hQ

noncomputable def signAhead (x : Int) (fl : T) : T := if x < 0 then [45] else if 43 ∈ fl then [43] else if 32 ∈ fl then [32] else []
theorem c_sign (W : Fam g) {x : Int} {fl : T} (hn : 1 ≤ n) (hQ : Q (.str (signAhead x fl)) H) : CallSem g n "sign_ahead" [.int x, .str fl] H Q X := by
  refine CallSem.mono (n := 0 + 1) (call_intro W.G W.D (W.fn ("sign_ahead", F_sign_ahead) (List.mem_of_getElem? (i := 16) rfl)) rfl ?_) hn
  show wpS g 0 b_sign_ahead _ X [some (.int x), some (.str fl)] H
  unfold signAhead at hQ
  simp only [b_sign_ahead, zs1, zs2, zs9, zs12, ze1, ze2, zt1, List.getElem?_cons_zero, List.getElem?_cons_succ, kc9, kc15]
  by_cases h : x < 0
  · simp only [h, decide_true, if_true] at hQ ⊢; exact hQ
  · simp only [h, decide_false, Bool.false_eq_true, if_false] at hQ ⊢
    refine ⟨43, rfl, ?_⟩
    by_cases h2 : 43 ∈ fl
    · simp only [h2, decide_true, if_true] at hQ ⊢; exact hQ
    · simp only [h2, decide_false, Bool.false_eq_true, if_false] at hQ ⊢
      refine ⟨32, rfl, ?_⟩
      by_cases h3 : 32 ∈ fl
      · simp only [h3, decide_true, if_true] at hQ ⊢; exact hQ
      · simp only [h3, decide_false, Bool.false_eq_true, if_false] at hQ ⊢; exact hQ

noncomputable def prefixOf (c : Nat) (x : Int) : T := if x = 0 ∨ c ∉ [120, 88, 98, 66] then [] else [48, c]
theorem c_prefix (W : Fam g) {x : Int} {c : Nat} (hn : 1 ≤ n) (hQ : Q (.str (prefixOf c x)) H) : CallSem g n "prefix_of" [.str [c], .int x] H Q X := by
  refine CallSem.mono (n := 0 + 1) (call_intro W.G W.D (W.fn ("prefix_of", F_prefix_of) (List.mem_of_getElem? (i := 17) rfl)) rfl ?_) hn
  show wpS g 0 b_prefix_of _ X [some (.str [c]), some (.int x)] H
  unfold prefixOf at hQ
  simp only [b_prefix_of, zs1, zs2, zs9, zs12, ze1, ze2, ze3, zt1, zt3, zo1, zo2, List.getElem?_cons_zero, List.getElem?_cons_succ, kb2, kc1, kc16]
  by_cases h : x = 0
  · simp only [h, decide_true, true_or, if_true] at hQ ⊢; exact hQ
  · simp only [h, decide_false, false_or, Bool.false_eq_true, if_false] at hQ ⊢
    refine ⟨c, rfl, ?_⟩
    by_cases h2 : c ∉ [120, 88, 98, 66]
    · rw [if_pos h2] at hQ; rw [decide_eq_true h2]; skip; exact hQ
    · rw [if_neg h2] at hQ; rw [decide_eq_false h2]; skip
      exact ⟨by rw [lim_val]; show 1 + 1 ≤ _; decide, hQ⟩

noncomputable def oV : Option Int → V
  | none => .none
  | some i => .int i

noncomputable def withPrec (f : T) (p : Option Int) (keeps : Bool) : T := match p with
  | none => f
  | some p => if p = 0 ∧ f = [48] ∧ keeps = false then [] else List.replicate (p - f.length).toNat 48 ++ f
theorem c_prec (W : Fam g) {f : T} {p : Option Int} {k : Bool} (hn : 1 ≤ n) (hf : f.length ≤ 100) (hp : ∀ i, p = some i → 0 ≤ i ∧ i ≤ 1000) (hQ : Q (.str (withPrec f p k)) H) : CallSem g n "with_precision" [.str f, oV p, .bool k] H Q X := by
  refine CallSem.mono (n := 0 + 1) (call_intro W.G W.D (W.fn ("with_precision", F_with_precision) (List.mem_of_getElem? (i := 18) rfl)) rfl ?_) hn
  show wpS g 0 b_with_precision _ X [some (.str f), some (oV p), some (.bool k), none] H
  unfold withPrec at hQ
  have hl : f.length ≤ lim := by rw [lim_val]; exact (le_lim (by assumption) (by decide))
  cases p with
  | none =>
    skip; exact hQ
  | some i =>
    obtain ⟨h0, h1⟩ := hp i rfl
    have fin : ¬ (i = 0 ∧ f = [48] ∧ k = false) → (f.length ≤ lim ∧ (([48] : T).length = 1 ∧ i - ↑f.length ≤ ↑lim ∧ -↑lim ≤ i - ↑f.length) ∧ (List.replicate (i - ↑f.length).toNat (([48] : T).headD 0)).length + f.length ≤ lim ∧ Q (V.str (List.replicate (i - ↑f.length).toNat (([48] : T).headD 0) ++ f)) H) := by
      intro hne
      simp only [hne, if_false] at hQ
      refine ⟨hl, ⟨rfl, by rw [lim_val]; omega, by rw [lim_val]; omega⟩, ?_, hQ⟩
      rw [List.length_replicate, lim_val]; omega
    simp only [b_with_precision, zs1, zs2, zs9, zs12, ze1, ze2, ze3, ze10, zl1, zl2, zt1, zt2, zt4, zt5, za1, za2, List.getElem?_cons_zero, List.getElem?_cons_succ, kb2, kb4, kb6, kc1, kc2, kc13, kt1, kf1, oV, reduceCtorEq, decide_false, kc1, kc2, kc13, kt1, Bool.false_eq_true, if_false]
    by_cases hi : i = 0
    · simp only [hi, decide_true, if_true]
      by_cases h4 : f = [48]
      · simp only [h4, decide_true, if_true]
        cases k with
        | false => simp only [hi, h4, and_self, if_true] at hQ; skip; exact hQ
        | true => skip; have := fin (by simp); rw [hi, h4] at this; exact this
      · refine ite_f (h4) ?_; have := fin (by simp [h4]); rw [hi] at this; exact this
    · refine ite_f (hi) ?_; exact fin (by simp [hi])

theorem withPrec_len {f : T} {p : Option Int} {k : Bool} (hf : f.length ≤ 100) (hp : ∀ i, p = some i → 0 ≤ i ∧ i ≤ 1000) : (withPrec f p k).length ≤ 1100 := by
  unfold withPrec
  cases p with
  | none => exact Nat.le_trans hf (by exact (by decide))
  | some i =>
    have := hp i rfl
    dsimp only
    split
    · show 0 ≤ _; exact (Nat.zero_le _)
    · rw [List.length_append, List.length_replicate]; omega

noncomputable def chrText (x : Int) : Option T := if x < 0 then some [65533] else if 1114111 < x then none else some [x.toNat]
theorem c_chr (W : Fam g) {x : Int} (hn : 3 ≤ n) (hQ : ∀ t, chrText x = some t → Q (.str t) H) (hX : chrText x = none → X H) : CallSem g n "chr_text" [.int x] H Q X := by
  refine CallSem.mono (n := 2 + 1) (call_intro W.G W.D (W.fn ("chr_text", F_chr_text) (List.mem_of_getElem? (i := 6) rfl)) rfl ?_) hn
  show wpS g 2 b_chr_text _ X [some (.int x), none, none, none, none] H
  unfold chrText at hQ hX
  simp only [b_chr_text, zs1, zs2, zs9, zs12, zs13, ze1, ze2, ze10, zl1, zl2, zt1, List.getElem?_cons_zero, kc9, kc11, kf6]
  by_cases h : x < 0
  · simp only [h, decide_true, if_true] at hQ ⊢; exact hQ _ rfl
  · simp only [h, decide_false, Bool.false_eq_true, if_false] at hQ hX ⊢
    by_cases h2 : (1114111 : Int) < x
    · simp only [h2, decide_true, if_true] at hX ⊢
      exact ⟨by exact (Nat.le_refl _), ⟨_, rfl⟩, hX (by trivial)⟩
    · simp only [h2, decide_false, Bool.false_eq_true, if_false] at hQ ⊢
      exact ⟨by exact (Int.not_lt.mp (by assumption)), by exact (Int.not_lt.mp (by assumption)), hQ _ rfl⟩
end Mine
end

section
set_option genSizeOf false
set_option genSizeOfSpec false
open PySem PySem.W PyProof.Rows PySem.Calls
set_option Elab.async false
set_option maxRecDepth 100000
set_option linter.unusedVariables false
set_option linter.unusedSimpArgs false
namespace Mine
variable {g : G} {H : AHeap} {n : Nat} {Q : V → AHeap → Prop} {X : AHeap → Prop} {loc : Loc}

noncomputable def figS : T := [48, 49, 50, 51, 52, 53, 54, 55, 56, 57]
noncomputable def spS : T := [32, 9, 10, 13, 12, 11]
noncomputable def isFig (c : Nat) : Bool := decide (c ∈ [48, 49, 50, 51, 52, 53, 54, 55, 56, 57])
noncomputable def isSp (c : Nat) : Bool := decide (c ∈ [32, 9, 10, 13, 12, 11])
theorem idx_fig {c : Nat} (h : c ∈ [48, 49, 50, 51, 52, 53, 54, 55, 56, 57]) : idxOf c [48, 49, 50, 51, 52, 53, 54, 55, 56, 57] = c - 48 := by
  simp only [List.mem_cons, List.not_mem_nil, or_false] at h
  rcases h with rfl | rfl | rfl | rfl | rfl | rfl | rfl | rfl | rfl | rfl <;> rfl
theorem idx_num {c : Nat} (h : c ∈ [48, 49, 50, 51, 52, 53, 54, 55, 56, 57]) : idxOf c [48, 49, 50, 51, 52, 53, 54, 55, 56, 57, 97, 98, 99, 100, 101, 102] = c - 48 := by
  simp only [List.mem_cons, List.not_mem_nil, or_false] at h
  rcases h with rfl | rfl | rfl | rfl | rfl | rfl | rfl | rfl | rfl | rfl <;> rfl

/-- one sign cut out -/
theorem cut1 (t : T) (i : Nat) : (t.take (i + 1)).drop i = (t[i]?).toList := by
  by_cases h : i < t.length
  · rw [List.getElem?_eq_getElem h]
    rw [List.drop_take, show i + 1 - i = 1 from by omega, List.drop_eq_getElem_cons h]
    rfl
  · rw [List.getElem?_eq_none (by exact (Nat.not_lt.mp (by assumption))), List.drop_of_length_le (by rw [List.length_take]; omega)]; rfl
theorem cut1_eq {t : T} {i c : Nat} : (t.take (i + 1)).drop i = [c] ↔ t[i]? = some c := by
  rw [cut1]
  cases t[i]? with
  | none => simp
  | some d => simp

noncomputable def headAt (t : T) : Nat := run isSp t 0
noncomputable def headSign (t : T) : Nat := if t[headAt t]? = some 43 ∨ t[headAt t]? = some 45 then headAt t + 1 else headAt t
noncomputable def headEnd (t : T) : Nat := if run isFig t (headSign t) = headSign t then headAt t else run isFig t (headSign t)

theorem headAt_le (t : T) : headAt t ≤ t.length := run_le _ _ _ (Nat.zero_le _)
theorem headSign_le (t : T) : headSign t ≤ t.length := by
  unfold headSign
  split
  · rename_i h
    rcases h with h | h <;> (have := (List.getElem?_eq_some_iff.mp h).1; exact (by assumption))
  · exact headAt_le t
theorem headEnd_le (t : T) : headEnd t ≤ t.length := by
  unfold headEnd
  split
  · exact headAt_le t
  · exact run_le _ _ _ (headSign_le t)

theorem sl1 {t : T} {i : Nat} {K : V → AHeap → Prop} (hl : t.length + 10 ≤ lim) (hi : i ≤ t.length + 2) (h : K (.str ((t.take (i + 1)).drop i)) H) : sliceK g (.str t) (.int i) (.int ((i : Int) + 1)) H K := by
  refine ⟨by exact (Nat.le_trans (Nat.le_add_right _ _) (by assumption)), _, ?_, h⟩
  show (if (0 : Int) ≤ i ∧ (i : Int) ≤ lim ∧ (0 : Int) ≤ (i : Int) + 1 ∧ (i : Int) + 1 ≤ lim then some ((t.take ((i : Int) + 1).toNat).drop ((i : Int)).toNat) else none) = _
  rw [if_pos ⟨by exact (Int.natCast_nonneg _), by omega, by exact (Int.natCast_nonneg _), by omega⟩]
  rfl
theorem sl2 {t : T} {i j : Nat} {K : V → AHeap → Prop} (hl : t.length + 10 ≤ lim) (hi : i ≤ t.length + 2) (hj : j ≤ t.length + 2) (h : K (.str ((t.take j).drop i)) H) : sliceK g (.str t) (.int i) (.int j) H K := by
  refine ⟨by exact (Nat.le_trans (Nat.le_add_right _ _) (by assumption)), _, ?_, h⟩
  show (if (0 : Int) ≤ i ∧ (i : Int) ≤ lim ∧ (0 : Int) ≤ (j : Int) ∧ (j : Int) ≤ lim then some ((t.take ((j : Int)).toNat).drop ((i : Int)).toNat) else none) = _
  rw [if_pos ⟨by exact (Int.natCast_nonneg _), by omega, by exact (Int.natCast_nonneg _), by omega⟩]
  rfl

theorem c_head (W : Fam g) {t : T} (hn : 1 ≤ n) (hl : t.length + 10 ≤ lim) (hQ : alloc H (.tup [.int (headAt t), .int (headEnd t)]) Q) : CallSem g n "number_head" [.str t] H Q X := by
  refine CallSem.mono (n := 0 + 1) (call_intro W.G W.D (W.fn ("number_head", F_number_head) (List.mem_of_getElem? (i := 1) rfl)) rfl ?_) hn
  show wpS g 0 b_number_head _ X [some (.str t), none, none, none, none, none, none] H
  unfold b_number_head
  refine S_seq (S_set ?_)
  skip
  refine S_seq (wp_scan (k := 0) (t := t) rfl rfl (by decide) (by exact (Nat.le_trans (Nat.le_add_right _ _) (by assumption))) ?_)
  skip
  change wpS g 0 _ _ X [some (.str t), some (.int (headAt t)), none, none, none, none, none] H
  refine S_seq (S_set ?_)
  skip
  refine S_seq (S_ite ?_)
  have ha := headAt_le t
  have hs := headSign_le t
  have tail : wpS g 0 (.seq (.assign (.loc 3) (.loc 2)) (.seq (.while (.and (.cons (.cmp .Lt (.loc 2) (.bi "len" (.cons (.loc 0) .nil))) (.cons (.cmp .In (.sub (.loc 0) (.loc 2)) (.lit (.str [48, 49, 50, 51, 52, 53, 54, 55, 56, 57]))) .nil)))
      (.seq (.aug (.loc 2) .Add (.lit (.int 1))) .nil))
      (.seq (.ite (.cmp .Eq (.loc 2) (.loc 3)) (.seq (.ret (.tup (.cons (.loc 1) (.cons (.loc 1) .nil)))) .nil) .nil) (.seq (.ret (.tup (.cons (.loc 1) (.cons (.loc 2) .nil)))) .nil))))
      (fp Q) X [some (.str t), some (.int (headAt t)), some (.int (headSign t)), none, none, none, none] H := by
    refine S_seq (S_set ?_)
    skip
    refine S_seq (wp_scan (k := headSign t) (t := t) rfl rfl (by decide) (by exact (Nat.le_trans (Nat.le_add_right _ _) (by assumption))) ?_)
    skip
    change wpS g 0 _ _ X [some (.str t), some (.int (headAt t)), some (.int (run isFig t (headSign t))), some (.int (headSign t)), none, none, none] H
    unfold headEnd at hQ
    simp only [zs1, zs2, zs9, zs12, ze2, ze17, zl1, zl2, zt1, List.getElem?_cons_zero, List.getElem?_cons_succ, kc1]
    have e0 : ([.int 0, .int 0] : List V).length ≤ lim := by rw [lim_val]; decide
    by_cases h : run isFig t (headSign t) = headSign t
    · simp only [h, decide_true, if_true] at hQ ⊢
      exact ⟨e0, hQ⟩
    · have h' : ¬ ((run isFig t (headSign t) : Nat) : Int) = (headSign t : Int) := fun z => h (by omega)
      refine ite_f (h') ?_
      rw [if_neg h] at hQ
      exact ⟨e0, hQ⟩
  simp only [ze1, ze2, ze3, ze15, zt1, zt3, zo1, zo2, List.getElem?_cons_zero, List.getElem?_cons_succ, List.set_cons_zero, List.set_cons_succ, kb1]
  refine sl1 hl (by omega) ?_
  by_cases h1 : (t.take (headAt t + 1)).drop (headAt t) = [43]
  · simp only [h1, decide_true, kc2, if_true]
    refine S_seq (S_aug ?_)
    simp only [ze1, ze2, List.getElem?_cons_zero, List.getElem?_cons_succ, List.set_cons_zero, List.set_cons_succ, ki1]
    refine S_nil ?_
    have e : headSign t = headAt t + 1 := by unfold headSign; rw [if_pos (.inl (cut1_eq.mp h1))]
    rw [e] at tail
    exact tail
  · refine ite_f (h1) ?_
    refine sl1 hl (by omega) ?_
    by_cases h2 : (t.take (headAt t + 1)).drop (headAt t) = [45]
    · simp only [h2, decide_true, kc2, if_true]
      refine S_seq (S_aug ?_)
      simp only [ze1, ze2, List.getElem?_cons_zero, List.getElem?_cons_succ, List.set_cons_zero, List.set_cons_succ, ki1]
      refine S_nil ?_
      have e : headSign t = headAt t + 1 := by unfold headSign; rw [if_pos (.inr (cut1_eq.mp h2))]
      rw [e] at tail
      exact tail
    · simp only [h2, decide_false, kc2, Bool.false_eq_true, if_false]
      refine S_nil ?_
      have e : headSign t = headAt t := by
        unfold headSign; rw [if_neg (fun z => z.elim (fun z => h1 (cut1_eq.mpr z)) fun z => h2 (cut1_eq.mpr z))]
      rw [e] at tail
      exact tail
end Mine
end

section
set_option genSizeOf false
set_option genSizeOfSpec false
open PySem PySem.W PyProof.Rows PySem.Calls
set_option Elab.async false
set_option maxRecDepth 100000
set_option linter.unusedVariables false
set_option linter.unusedSimpArgs false
namespace Mine
variable {g : G} {H : AHeap} {n : Nat} {Q : V → AHeap → Prop} {X : AHeap → Prop} {loc : Loc}

def ExtX (S : List Addr) (H H' : AHeap) : Prop := ∀ b o, b ∉ S → H b = some o → H' b = some o
theorem Ext.x {H H' : AHeap} (h : Ext H H') (S : List Addr) : ExtX S H H' := fun b o _ e => h b o e
theorem ExtX.refl (S : List Addr) (H : AHeap) : ExtX S H H := fun _ _ _ e => e
theorem ExtX.trans {S : List Addr} {A B C : AHeap} (x : ExtX S A B) (y : ExtX S B C) : ExtX S A C := fun b o h e => y b o h (x b o h e)
theorem ExtX.upd {S : List Addr} {H : AHeap} {a : Addr} {o : AObj} (h : a ∈ S) : ExtX S H (upd H a o) := fun b ob hb e => by
  have hba : b ≠ a := fun z => hb (by rw [z]; exact h)
  rw [upd_ne _ _ hba]; exact e
theorem ExtX.mono {S S' : List Addr} {H H' : AHeap} (h : ExtX S H H') (hs : ∀ a ∈ S, a ∈ S') : ExtX S' H H' := fun b o hb e => h b o (fun z => hb (hs b z)) e

theorem attr_ok {a d : Addr} {c nm : String} {fs : List (String × V)} {v : V} {K : V → Prop} (h1 : H a = some (.inst c d)) (h2 : H d = some (.dict fs)) (hc : c ∈ clsNames) (hn : nm ∈ attrStrs) (hv : fs.lookup nm = some v) (hK : K v) :
    attrK (.ref a) nm H K := by
  unfold attrK
  simp only [h1, h2, hv]
  exact ⟨hc, hn, hK⟩
theorem setAttr_ok {a d : Addr} {c nm : String} {fs : List (String × V)} {v : V} {K : AHeap → Prop} (h1 : H a = some (.inst c d)) (h2 : H d = some (.dict fs)) (hc : c ∈ clsNames) (hn : nm ∈ attrStrs) (hl : fs.length ≤ 100) (hK : K (upd H d (.dict (putF nm v fs)))) :
    setAttrK (.ref a) nm v H K := by
  unfold setAttrK
  simp only [h1, h2]
  exact ⟨hc, hn, hl, hK⟩

theorem mem_cls : "Directive" ∈ clsNames ∧ "ValueRow" ∈ clsNames ∧ "Limits" ∈ clsNames := by decide

/-- the limits -/
noncomputable def limD (w x y t z : V) : AObj := .dict [("width", w), ("depth", x), ("steps", y), ("text", t), ("items", z)]
structure Lim (H : AHeap) (l : Addr) (w : Nat) (t : Int) : Prop where
  ex : ∃ d x y z, H l = some (.inst "Limits" d) ∧ H d = some (limD (.int w) x y (.int t) z)
theorem Lim.width {l : Addr} {w : Nat} {t : Int} {K : V → Prop} (L : Lim H l w t) (h : K (.int w)) : attrK (.ref l) "width" H K :=
  let ⟨_, _, _, _, h1, h2⟩ := L.ex; attr_ok h1 h2 mem_cls.2.2 (by decide +kernel) rfl h
theorem Lim.text {l : Addr} {w : Nat} {t : Int} {K : V → Prop} (L : Lim H l w t) (h : K (.int t)) : attrK (.ref l) "text" H K :=
  let ⟨_, _, _, _, h1, h2⟩ := L.ex; attr_ok h1 h2 mem_cls.2.2 (by decide +kernel) rfl h
theorem Lim.ext {H' : AHeap} {l : Addr} {w : Nat} {t : Int} (L : Lim H l w t) (h : Ext H H') : Lim H' l w t :=
  let ⟨d, x, y, z, h1, h2⟩ := L.ex; ⟨d, x, y, z, h _ _ h1, h _ _ h2⟩

noncomputable def foldNum (w : Nat) (l : T) : Int := l.foldl (fun acc c => if isFig c then (acc * 10 + ((c - 48 : Nat) : Int)) % 2 ^ w else acc) 0
noncomputable def numericText (t : T) (w : Nat) : Int :=
  wrapN (if headAt t < headEnd t ∧ t[headAt t]? = some 45 then -foldNum w ((t.take (headEnd t)).drop (headAt t)) else foldNum w ((t.take (headEnd t)).drop (headAt t))) w

theorem c_numeric (W : Fam g) {t : T} {w : Nat} (hn : 2 ≤ n) (h1 : 1 ≤ w) (h2 : w ≤ 64) (hl : t.length + 10 ≤ lim) (hQ : ∀ H', Ext H H' → Q (.int (numericText t w)) H') : CallSem g n "numeric_text" [.str t, .int w] H Q X := by
  refine CallSem.mono (n := 1 + 1) (call_intro W.G W.D (W.fn ("numeric_text", F_numeric_text) (List.mem_of_getElem? (i := 2) rfl)) rfl ?_) hn
  show wpS g 1 b_numeric_text _ X [some (.str t), some (.int w), none, none, none, none, none, none, none] H
  unfold b_numeric_text
  have ha := headAt_le t
  have he := headEnd_le t
  refine S_seq (S_tup ?_)
  skip
  refine c_head W (Nat.le_refl _) hl fun a hfr => ?_
  have hE : Ext H (upd H a (.tup [.int (headAt t), .int (headEnd t)])) := Ext.upd hfr
  replace hQ := hQ _ hE
  generalize hH' : upd H a (.tup [.int (headAt t), .int (headEnd t)]) = H' at *
  have hH : H' a = some (.tup [.int (headAt t), .int (headEnd t)]) := by rw [← hH', upd_same]
  refine ⟨_, hH, rfl, by rw [lim_val]; show 2 ≤ _; decide, ?_⟩
  simp only [zL1, zL2, zk1, List.set_cons_zero, List.set_cons_succ]
  refine S_seq (S_set ?_)
  skip
  refine S_seq (S_for ?_)
  simp only [zi2, ze2, ze15, List.getElem?_cons_zero, List.getElem?_cons_succ, List.set_cons_zero, List.set_cons_succ]
  refine sl2 hl (by omega) (by omega) ?_
  generalize hs : (t.take (headEnd t)).drop (headAt t) = s
  have hsl : s.length ≤ lim := by rw [← hs, List.length_drop, List.length_take]; omega
  have e2 : (Int.natAbs 1) < 2 ^ 64 := by decide
  refine ⟨hsl, fun k l H₁ => H₁ = H' ∧ ∃ sg, l = [some (.str t), some (.int w), some (.int (headAt t)), some (.int (headEnd t)), some (.int (foldNum w (s.take k))), sg, none, none, none], ⟨rfl, _, rfl⟩, ?_, ?_⟩
  · rintro k l H₁ x hx ⟨rfl, sg, rfl⟩
    refine ⟨(by trivial), ?_⟩
    rw [List.getElem?_map] at hx
    obtain ⟨c, hc, rfl⟩ := Option.map_eq_some_iff.mp hx
    have hlt := (List.getElem?_eq_some_iff.mp hc).1
    have etk : s.take (k + 1) = s.take k ++ [c] := by rw [List.take_add_one, hc]; rfl
    simp only [List.set_cons_zero, List.set_cons_succ]
    refine S_seq (S_ite ?_)
    simp only [ze1, ze2, zt1, List.getElem?_cons_zero, List.getElem?_cons_succ, kc15]
    refine ⟨c, rfl, ?_⟩
    by_cases hcf : c ∈ [48, 49, 50, 51, 52, 53, 54, 55, 56, 57]
    · refine ite_t (hcf) ?_
      refine S_seq (S_set ?_)
      simp only [ze1, ze2, ze3, ze12, zl1, zl2, List.getElem?_cons_zero, List.getElem?_cons_succ, List.set_cons_zero, List.set_cons_succ, kb1, kb5, kb8, kb9, km1, methOk, Int.toNat_natCast, Int.one_mul]
      refine ⟨.inr ⟨by decide, by decide⟩, .inl (by trivial), c, rfl, hcf, by rw [lim_val]; decide, ⟨by exact (Int.natCast_nonneg _), by exact (Int.ofNat_le.mpr (Nat.le_trans (by assumption) (by decide))), e2⟩, two_pos w, ?_⟩
      refine S_nil (S_nil ⟨rfl, some (.str [c]), ?_⟩)
      rw [etk, idx_fig hcf]
      unfold foldNum
      rw [List.foldl_append]
      simp only [List.foldl_cons, List.foldl_nil, isFig, hcf, decide_true, if_true]
    · refine ite_f (hcf) ?_
      refine S_nil (S_nil ⟨rfl, some (.str [c]), ?_⟩)
      rw [etk]
      unfold foldNum
      rw [List.foldl_append]
      simp only [List.foldl_cons, List.foldl_nil, isFig, hcf, decide_false, Bool.false_eq_true, if_false]
  · rintro l H₁ ⟨rfl, sg, rfl⟩
    rw [List.length_map, List.take_length]
    refine ⟨(by trivial), S_seq (S_ite ?_)⟩
    simp only [ze1, ze2, ze14, zt1, zt2, za1, za2, List.getElem?_cons_zero, List.getElem?_cons_succ, kc9]
    have tail : ∀ z, wrapN z w = numericText t w → wpS g 1 (.seq (.ret (.call "wrap_number" (.cons (.loc 4) (.cons (.loc 1) .nil)))) .nil)
        (fp Q) X [some (.str t), some (.int w), some (.int (headAt t)), some (.int (headEnd t)), some (.int z), sg, none, none, none] H₁ := by
      intro z hz
      refine S_seq (S_ret ?_)
      skip
      refine c_wrap W (Nat.le_refl _) h1 h2 ?_
      rw [hz]; exact hQ
    unfold numericText at tail
    rw [hs] at tail
    by_cases hlt : headAt t < headEnd t
    · have hlt' : (headAt t : Int) < headEnd t := by exact (Int.ofNat_le.mpr (by assumption))
      have hin : headAt t < t.length := by exact (Nat.le_trans (by assumption) (by assumption))
      refine ite_t (hlt') ?_
      refine ⟨by exact (Int.natCast_nonneg _), by exact (Nat.le_trans (Nat.le_add_right _ _) (by assumption)), t[headAt t], by simp only [Int.toNat_natCast]; exact List.getElem?_eq_getElem hin, ?_⟩
      have eg := List.getElem?_eq_getElem hin
      by_cases h45 : t[headAt t] = 45
      · simp only [h45, decide_true, kc2, if_true]
        refine S_seq (S_set ?_)
        simp only [ze2, ze5, List.getElem?_cons_zero, List.getElem?_cons_succ, List.set_cons_zero, List.set_cons_succ]
        refine S_nil (tail _ ?_)
        rw [if_pos ⟨hlt, by rw [eg, h45]⟩]
      · have h45' : ¬ ([t[headAt t]] : T) = [45] := fun z => h45 (by injection z)
        simp only [h45', decide_false, kc2, Bool.false_eq_true, if_false]
        refine S_nil (tail _ ?_)
        rw [if_neg (fun z => h45 (by have := z.2; rw [eg] at this; injection this))]
    · have hlt' : ¬ (headAt t : Int) < headEnd t := by omega
      simp only [hlt', decide_false, Bool.false_eq_true, if_false]
      refine S_nil (tail _ ?_)
      rw [if_neg (fun z => hlt z.1)]

noncomputable def toNum (v : V) (w : Nat) : Int := match v with
  | .int i => i
  | .str t => numericText t w
  | _ => 0
noncomputable def toText (v : V) : T := match v with
  | .int i => numText i
  | .str t => t
  | _ => []
/-- a value of the text's own -/
def Plain (v : V) : Prop := v = .none ∨ (∃ i : Int, v = .int i ∧ i.natAbs < 2 ^ 70) ∨ ∃ t, v = .str t ∧ t.length ≤ 1000

theorem c_to_number (W : Fam g) {v : V} {l : Addr} {w : Nat} {tx : Int} (hn : 3 ≤ n) (hv : Plain v) (L : Lim H l w tx) (h1 : 1 ≤ w) (h2 : w ≤ 64) (hQ : ∀ H', Ext H H' → Q (.int (toNum v w)) H') : CallSem g n "to_number" [v, .ref l] H Q X := by
  refine CallSem.mono (n := 2 + 1) (call_intro W.G W.D (W.fn ("to_number", F_to_number) (List.mem_of_getElem? (i := 5) rfl)) rfl ?_) hn
  show wpS g 2 b_to_number _ X [some v, some (.ref l), none, none, none, none] H
  unfold b_to_number
  refine S_seq (S_ite ?_)
  rcases hv with rfl | ⟨i, rfl, _⟩ | ⟨t, rfl, ht⟩
  · simp only [ze1, ze2, zt1, List.getElem?_cons_zero, kc13, decide_true, kc13, if_true]
    refine S_seq (S_ret ?_)
    skip
    exact hQ _ (Ext.refl _)
  · simp only [ze1, ze2, zt1, List.getElem?_cons_zero, kc13, reduceCtorEq, decide_false, kc13, Bool.false_eq_true, if_false]
    refine S_nil (S_seq (S_ite ?_))
    simp only [ze2, ze11, zt5, List.getElem?_cons_zero, kt1, ky2, if_true]
    refine S_seq (S_ret ?_)
    skip
    exact hQ _ (Ext.refl _)
  · simp only [ze1, ze2, zt1, List.getElem?_cons_zero, kc13, reduceCtorEq, decide_false, kc13, Bool.false_eq_true, if_false]
    refine S_nil (S_seq (S_ite ?_))
    simp only [ze2, ze11, zt5, List.getElem?_cons_zero, kt1, ky3, Bool.false_eq_true, if_false]
    refine S_nil (S_seq (S_ite ?_))
    simp only [ze2, ze11, zt5, List.getElem?_cons_zero, kt1, ky8, Bool.false_eq_true, if_false]
    refine S_nil (S_seq (S_ret ?_))
    simp only [ze2, ze8, ze13, zl1, zl2, List.getElem?_cons_zero, List.getElem?_cons_succ]
    exact L.width (c_numeric W (Nat.le_refl _) h1 h2 (by rw [lim_val]; omega) hQ)

theorem c_to_text (W : Fam g) {v : V} (hn : 3 ≤ n) (hv : Plain v) (hQ : Q (.str (toText v)) H) : CallSem g n "to_text" [v] H Q X := by
  refine CallSem.mono (n := 2 + 1) (call_intro W.G W.D (W.fn ("to_text", F_to_text) (List.mem_of_getElem? (i := 4) rfl)) rfl ?_) hn
  show wpS g 2 b_to_text _ X [some v, none, none, none, none, none] H
  unfold b_to_text
  refine S_seq (S_ite ?_)
  rcases hv with rfl | ⟨i, rfl, hi⟩ | ⟨t, rfl, ht⟩
  · simp only [ze1, ze2, zt1, List.getElem?_cons_zero, kc13, decide_true, kc13, if_true]
    refine S_seq (S_ret ?_)
    skip
    exact hQ
  · simp only [ze1, ze2, zt1, List.getElem?_cons_zero, kc13, reduceCtorEq, decide_false, kc13, Bool.false_eq_true, if_false]
    refine S_nil (S_seq (S_ite ?_))
    simp only [ze2, ze11, zt5, List.getElem?_cons_zero, kt1, ky2, if_true]
    refine S_seq (S_ret ?_)
    skip
    exact c_number_text W (Nat.le_refl _) hi hQ
  · simp only [ze1, ze2, zt1, List.getElem?_cons_zero, kc13, reduceCtorEq, decide_false, kc13, Bool.false_eq_true, if_false]
    refine S_nil (S_seq (S_ite ?_))
    simp only [ze2, ze11, zt5, List.getElem?_cons_zero, kt1, ky3, Bool.false_eq_true, if_false]
    refine S_nil (S_seq (S_ite ?_))
    simp only [ze2, ze11, zt5, List.getElem?_cons_zero, kt1, ky8, Bool.false_eq_true, if_false]
    refine S_nil (S_seq (S_ret ?_))
    skip
    exact hQ
end Mine
end

section
set_option genSizeOf false
set_option genSizeOfSpec false
open PySem PySem.W PyProof.Rows PySem.Calls
set_option Elab.async false
set_option maxRecDepth 100000
set_option linter.unusedVariables false
set_option linter.unusedSimpArgs false
namespace Mine
variable {g : G} {H : AHeap} {n : Nat} {Q : V → AHeap → Prop} {X : AHeap → Prop} {loc : Loc}

/-- the row of values -/
noncomputable def rowD (vl : Addr) (k : Nat) : AObj := .dict [("values", .ref vl), ("at", .int k)]
structure Row (H : AHeap) (r rd vl : Addr) (vs : List V) (k : Nat) : Prop where
  i : H r = some (.inst "ValueRow" rd)
  d : H rd = some (rowD vl k)
  v : H vl = some (.list vs)
  len : vs.length ≤ 1000

theorem upd_self {a : Addr} {o : AObj} (h : H a = some o) : upd H a o = H := by
  funext b
  by_cases e : b = a
  · subst e; rw [upd_same, h]
  · rw [upd_ne _ _ e]
theorem Row.upd {r rd vl : Addr} {vs : List V} {k k' : Nat} (R : Row H r rd vl vs k) : Row (Mine.upd H rd (rowD vl k')) r rd vl vs k' := by
  have h1 : r ≠ rd := fun e => by have := R.i; rw [e, R.d] at this; cases this
  have h2 : vl ≠ rd := fun e => by have := R.v; rw [e, R.d] at this; cases this
  exact ⟨by rw [upd_ne _ _ h1]; exact R.i, upd_same _ _ _, by rw [upd_ne _ _ h2]; exact R.v, R.len⟩
theorem Row.ext {H' : AHeap} {r rd vl : Addr} {vs : List V} {k : Nat} (R : Row H r rd vl vs k) (h : Ext H H') : Row H' r rd vl vs k := ⟨h _ _ R.i, h _ _ R.d, h _ _ R.v, R.len⟩

noncomputable def takeAt (k : Nat) (ix : Nat) : Nat := if ix = 0 then k else ix - 1
noncomputable def takeV (vs : List V) (k ix : Nat) : V := (vs[takeAt k ix]?).getD .none
noncomputable def nextK (k ix : Nat) : Nat := if ix = 0 then k + 1 else k

theorem c_take (W : Fam g) {r rd vl : Addr} {vs : List V} {k ix : Nat} (hn : 1 ≤ n) (R : Row H r rd vl vs k) (hQ : Q (takeV vs k ix) (upd H rd (rowD vl (nextK k ix)))) : CallSem g n "take_value" [.ref r, .int ix] H Q X := by
  refine CallSem.mono (n := 0 + 1) (call_intro W.G W.D (W.fn ("take_value", F_take_value) (List.mem_of_getElem? (i := 7) rfl)) rfl ?_) hn
  show wpS g 0 b_take_value _ X [some (.ref r), some (.int ix), none, none, none] H
  unfold b_take_value
  have hl : vs.length ≤ lim := Nat.le_trans R.len (by rw [lim_val]; decide)
  have tail : ∀ {H₁ : AHeap} {k₁ : Nat} {p : Int}, Row H₁ r rd vl vs k₁ → p = takeAt k ix → Q (takeV vs k ix) H₁ → wpS g 0 (.seq (.ite (.cmp .Lt (.loc 2) (.bi "len" (.cons (.attr (.loc 0) "values") .nil)))
      (.seq (.ret (.sub (.attr (.loc 0) "values") (.loc 2))) .nil) .nil) (.seq (.ret (.lit .none)) .nil))
      (fp Q) X [some (.ref r), some (.int ix), some (.int p), none, none] H₁ := by
    intro H₁ k₁ p R₁ hp hq
    refine S_seq (S_ite ?_)
    simp only [ze2, ze10, ze13, zl1, zl2, zt1, List.getElem?_cons_zero, List.getElem?_cons_succ]
    refine attr_ok R₁.i R₁.d mem_cls.2.1 (by decide +kernel) (v := .ref vl) rfl ?_
    have eo : Ob g H₁ vl (.list vs) := .inl R₁.v
    skip
    refine ⟨vs, eo, hl, ?_⟩
    rw [hp]
    by_cases h : takeAt k ix < vs.length
    · have h' : ((takeAt k ix : Nat) : Int) < vs.length := by exact (Int.ofNat_le.mpr (by assumption))
      refine ite_t (h') ?_
      refine S_seq (S_ret ?_)
      simp only [ze2, ze13, ze14, List.getElem?_cons_zero, List.getElem?_cons_succ]
      refine attr_ok R₁.i R₁.d mem_cls.2.1 (by decide +kernel) (v := .ref vl) rfl ?_
      refine ⟨by exact (Int.natCast_nonneg _), vs, .inl eo, hl, vs[takeAt k ix], by simp only [Int.toNat_natCast]; exact List.getElem?_eq_getElem h, ?_⟩
      unfold takeV at hq
      rw [List.getElem?_eq_getElem h] at hq; exact hq
    · have h' : ¬ ((takeAt k ix : Nat) : Int) < vs.length := by omega
      refine ite_f (h') ?_
      refine S_nil (S_seq (S_ret ?_))
      skip
      unfold takeV at hq
      rw [List.getElem?_eq_none (by exact (Nat.not_lt.mp (by assumption)))] at hq; exact hq
  refine S_seq (S_set ?_)
  skip
  refine S_seq (S_ite ?_)
  simp only [ze1, ze2, zt1, List.getElem?_cons_zero, List.getElem?_cons_succ, List.set_cons_zero, List.set_cons_succ, kc1]
  by_cases h0 : ix = 0
  · subst h0
    refine ite_t (show ((0 : Nat) : Int) = 0 from rfl) ?_
    refine S_seq (S_set ?_)
    skip
    refine attr_ok R.i R.d mem_cls.2.1 (by decide +kernel) (v := .int k) rfl ?_
    refine S_seq (S_augA ?_)
    simp only [ze1, ze2, List.getElem?_cons_zero, List.set_cons_zero, List.set_cons_succ]
    refine attr_ok R.i R.d mem_cls.2.1 (by decide +kernel) (v := .int k) rfl ?_
    skip
    refine setAttr_ok R.i R.d mem_cls.2.1 (by decide +kernel) (by show 2 ≤ 100; decide) ?_
    refine S_nil (tail (R.upd (k' := k + 1)) rfl hQ)
  · have h0' : ¬ (ix : Int) = 0 := by omega
    refine ite_f (h0') ?_
    have ek : nextK k ix = k := if_neg h0
    rw [ek, upd_self R.d] at hQ
    refine S_nil (tail R ?_ hQ)
    unfold takeAt
    rw [if_neg h0]; omega

/-! ## reading a template -/
noncomputable def figV (ds : T) : Int := ds.foldl (fun acc c => max acc 0 * 10 + ((c - 48 : Nat) : Int)) (-1)
noncomputable def figs (t : T) (i : Nat) : T := (t.drop i).takeWhile isFig
theorem figs_len (t : T) (i : Nat) : run isFig t i = i + (figs t i).length := rfl

theorem c_figures (W : Fam g) {t : T} {i : Nat} (hn : 1 ≤ n) (hl : t.length + 10 ≤ lim) (hi : i ≤ t.length + 2) (hQ : alloc H (.tup [.int (figV (figs t i)), .int (run isFig t i)]) Q) : CallSem g n "figures_at" [.str t, .int i] H Q X := by
  refine CallSem.mono (n := 0 + 1) (call_intro W.G W.D (W.fn ("figures_at", F_figures_at) (List.mem_of_getElem? (i := 8) rfl)) rfl ?_) hn
  show wpS g 0 b_figures_at _ X [some (.str t), some (.int i), none, none, none, none] H
  unfold b_figures_at
  refine S_seq (S_set ?_)
  skip
  refine S_seq (S_while (fun l H₁ => H₁ = H ∧ ∃ m : Nat, l = [some (.str t), some (.int ((i : Int) + m)), some (.int (figV ((figs t i).take m))), none, none, none] ∧ m ≤ (figs t i).length) (fun l _ => t.length - (intAt l 1).toNat) ⟨rfl, 0, rfl, Nat.zero_le _⟩ ?_)
  rintro l H₁ ⟨rfl, m, rfl, hm⟩
  skip
  refine ⟨by exact (Nat.le_trans (Nat.le_add_right _ _) (by assumption)), ?_⟩
  have hpre : ∀ k c, (figs t i)[k]? = some c → t[i + k]? = some c ∧ isFig c = true := by
    intro k c h
    have hmem := List.mem_of_getElem? h
    refine ⟨?_, List.all_eq_true.mp List.all_takeWhile c hmem⟩
    obtain ⟨r, hr⟩ : (figs t i) <+: t.drop i := List.takeWhile_prefix _
    rw [← List.getElem?_drop, ← hr, List.getElem?_append_left (List.getElem?_eq_some_iff.mp h).1]
    exact h
  by_cases hlt : m < (figs t i).length
  · obtain ⟨c, hc⟩ : ∃ c, (figs t i)[m]? = some c := ⟨_, List.getElem?_eq_getElem hlt⟩
    obtain ⟨h1, h2⟩ := hpre m c hc
    have hin := (List.getElem?_eq_some_iff.mp h1).1
    have h1' : t[((i : Int) + m).toNat]? = some c := by rw [show ((i : Int) + m).toNat = i + m from by exact (rfl)]; exact h1
    have hcs : c ∈ [48, 49, 50, 51, 52, 53, 54, 55, 56, 57] := of_decide_eq_true h2
    have hlt' : (i : Int) + m < t.length := by exact (Int.ofNat_le.mpr (by assumption))
    refine ite_t (hlt') ?_
    refine ⟨by exact (Int.natCast_nonneg _), by exact (Nat.le_trans (Nat.le_add_right _ _) (by assumption)), c, h1', c, rfl, ?_⟩
    refine ite_t (hcs) ?_
    refine S_seq (S_set ?_)
    skip
    have hcn : c ∈ [48, 49, 50, 51, 52, 53, 54, 55, 56, 57, 97, 98, 99, 100, 101, 102] := List.mem_append_left [97, 98, 99, 100, 101, 102] hcs
    refine ⟨.inr ⟨by decide, by decide⟩, .inl (by trivial), by exact (Int.natCast_nonneg _), by exact (Nat.le_trans (Nat.le_add_right _ _) (by assumption)), c, h1', c, rfl, hcn, by rw [lim_val]; decide, ?_⟩
    refine S_seq (S_aug ?_)
    simp only [ze1, ze2, List.getElem?_cons_zero, List.getElem?_cons_succ, List.set_cons_zero, List.set_cons_succ, ki1]
    refine S_nil ⟨⟨rfl, m + 1, ?_, hlt⟩, ?_⟩
    · rw [List.take_add_one, hc, idx_num hcs]
      unfold figV
      rw [show (some c).toList = [c] from rfl, List.foldl_append]
      simp only [List.foldl_cons, List.foldl_nil]
      rw [show ((i : Int) + ((m + 1 : Nat) : Int)) = (i : Int) + m + 1 from by exact (rfl)]
    · show t.length - ((i : Int) + m + 1).toNat < t.length - ((i : Int) + m).toNat
      exact (Nat.sub_succ_lt_self _ _ (by assumption))
  · have hmm : m = (figs t i).length := by omega
    have hstop : ∀ c, t[i + m]? = some c → c ∉ [48, 49, 50, 51, 52, 53, 54, 55, 56, 57] := by
      intro c h hcs
      have e := run_step (p := isFig) h (decide_eq_true hcs)
      have e2 : run isFig t (i + m) = i + m := by
        have := List.takeWhile_append_dropWhile (p := isFig) (l := t.drop i)
        have hd : (t.drop (i + m)) = (t.drop i).dropWhile isFig := by
          rw [← List.drop_drop]
          conv => lhs; rw [← this]
          rw [hmm]; exact List.drop_left
        unfold run
        rw [hd]
        cases hw : (t.drop i).dropWhile isFig with
        | nil => rfl
        | cons a r =>
          have := List.head?_dropWhile_not isFig (t.drop i)
          rw [hw] at this
          simp only [List.head?_cons] at this
          rw [List.takeWhile_cons, if_neg (by simpa using this)]; rfl
      have := run_ge isFig t (i + m + 1)
      omega
    have tail : wpS g 0 (.seq (.ret (.tup (.cons (.loc 2) (.cons (.loc 1) .nil)))) .nil) (fp Q) X [some (.str t), some (.int ((i : Int) + m)), some (.int (figV ((figs t i).take m))), none, none, none] H₁ := by
      refine S_seq (S_ret ?_)
      skip
      refine ⟨by rw [lim_val]; show 2 ≤ _; decide, ?_⟩
      rw [hmm, List.take_length]
      rw [figs_len] at hQ
      exact hQ
    by_cases hin : (i : Int) + m < t.length
    · have hc := List.getElem?_eq_getElem (l := t) (i := i + m) (by omega)
      have h1' : t[((i : Int) + m).toNat]? = some t[i + m] := by rw [show ((i : Int) + m).toNat = i + m from by exact (rfl)]; exact hc
      refine ite_t (hin) ?_
      refine ⟨by exact (Int.natCast_nonneg _), by exact (Nat.le_trans (Nat.le_add_right _ _) (by assumption)), _, h1', _, rfl, ?_⟩
      refine ite_f (hstop _ hc) ?_
      exact tail
    · refine ite_f (hin) ?_
      exact tail
end Mine
end

section
set_option genSizeOf false
set_option genSizeOfSpec false
open PySem PySem.W PyProof.Rows PySem.Calls
set_option Elab.async false
set_option maxRecDepth 100000
set_option linter.unusedVariables false
set_option linter.unusedSimpArgs false
namespace Mine
variable {g : G} {H : AHeap} {n : Nat} {Q : V → AHeap → Prop} {X : AHeap → Prop} {loc : Loc}

noncomputable abbrev idxOk (t : T) (i : Nat) : Prop := 0 < figV (figs t i) ∧ t[run isFig t i]? = some 36
noncomputable def indexAt (t : T) (i : Nat) : Nat × Nat := if idxOk t i then ((figV (figs t i)).toNat, run isFig t i + 1) else (0, i)
theorem indexAt_le {t : T} {i : Nat} (h : i ≤ t.length) : (indexAt t i).2 ≤ t.length := by
  unfold indexAt
  split
  · rename_i hc; exact (List.getElem?_eq_some_iff.mp hc.2).1
  · exact h

theorem c_index (W : Fam g) {t : T} {i : Nat} (hn : 2 ≤ n) (hl : t.length + 10 ≤ lim) (hi : i ≤ t.length) (hQ : ∀ a H', Ext H H' → H' a = some (.tup [.int (indexAt t i).1, .int (indexAt t i).2]) → Q (.ref a) H') : CallSem g n "index_at" [.str t, .int i] H Q X := by
  refine CallSem.mono (n := 1 + 1) (call_intro W.G W.D (W.fn ("index_at", F_index_at) (List.mem_of_getElem? (i := 9) rfl)) rfl ?_) hn
  show wpS g 1 b_index_at _ X [some (.str t), some (.int i), none, none, none, none] H
  unfold b_index_at
  have hr := run_le isFig t i hi
  refine S_seq (S_tup ?_)
  skip
  refine c_figures W (Nat.le_refl _) hl (by omega) fun a hfr => ?_
  have hE : Ext H (upd H a (.tup [.int (figV (figs t i)), .int (run isFig t i)])) := Ext.upd hfr
  refine ⟨_, upd_same _ _ _, rfl, by rw [lim_val]; show 2 ≤ _; decide, ?_⟩
  generalize upd H a (.tup [.int (figV (figs t i)), .int (run isFig t i)]) = H' at *
  simp only [zL1, zL2, zk1, List.set_cons_zero, List.set_cons_succ]
  have no : ¬ idxOk t i → wpS g 1 (.seq (.ret (.tup (.cons (.lit (.int 0)) (.cons (.loc 1) .nil)))) .nil) (fp Q) X [some (.str t), some (.int i), some (.int (figV (figs t i))), some (.int (run isFig t i)), none, none] H' := by
    intro hno
    refine S_seq (S_ret ?_)
    skip
    refine ⟨by rw [lim_val]; show 2 ≤ _; decide, fun b hb => hQ b _ (hE.trans (Ext.upd hb)) ?_⟩
    unfold indexAt
    rw [if_neg hno]
    exact upd_same _ _ _
  refine S_seq (S_ite ?_)
  simp only [ze1, ze2, ze3, ze15, zt1, zt2, za1, za2, List.getElem?_cons_zero, List.getElem?_cons_succ, kb1, kc11]
  by_cases h1 : 0 < figV (figs t i)
  · refine ite_t (h1) ?_
    refine sl1 hl (by omega) ?_
    by_cases h2 : (t.take (run isFig t i + 1)).drop (run isFig t i) = [36]
    · simp only [h2, decide_true, kc2, if_true]
      have hok : idxOk t i := ⟨h1, cut1_eq.mp h2⟩
      refine S_seq (S_ret ?_)
      skip
      refine ⟨by rw [lim_val]; show 2 ≤ _; decide, fun b hb => hQ b _ (hE.trans (Ext.upd hb)) ?_⟩
      unfold indexAt
      rw [if_pos hok]
      rw [upd_same, show (((figV (figs t i)).toNat : Nat) : Int) = figV (figs t i) from by omega]
      rfl
    · simp only [h2, decide_false, kc2, Bool.false_eq_true, if_false]
      exact S_nil (no fun z => h2 (cut1_eq.mpr z.2))
  · simp only [h1, decide_false, Bool.false_eq_true, if_false]
    exact S_nil (no fun z => h1 z.1)

noncomputable def isFlag (c : Nat) : Bool := decide (c ∈ [32, 43, 45, 48, 35])
theorem c_flags (W : Fam g) {t : T} {i : Nat} (hn : 1 ≤ n) (hl : t.length + 10 ≤ lim) (hi : i ≤ t.length) (hQ : ∀ a H', Ext H H' → H' a = some (.tup [.str ((t.take (run isFlag t i)).drop i), .int (run isFlag t i)]) → Q (.ref a) H') : CallSem g n "read_flags" [.str t, .int i] H Q X := by
  refine CallSem.mono (n := 0 + 1) (call_intro W.G W.D (W.fn ("read_flags", F_read_flags) (List.mem_of_getElem? (i := 10) rfl)) rfl ?_) hn
  show wpS g 0 b_read_flags _ X [some (.str t), some (.int i), none, none, none] H
  unfold b_read_flags
  have hr := run_le isFlag t i hi
  refine S_seq (S_set ?_)
  skip
  refine S_seq (wp_scan (k := i) (t := t) rfl rfl (by decide) (by exact (Nat.le_trans (Nat.le_add_right _ _) (by assumption))) ?_)
  skip
  change wpS g 0 _ _ X [some (.str t), some (.int i), some (.int (run isFlag t i)), none, none] H
  refine S_seq (S_ret ?_)
  simp only [ze2, ze15, ze17, zl1, zl2, List.getElem?_cons_zero, List.getElem?_cons_succ]
  refine sl2 hl (by omega) (by omega) ?_
  exact ⟨by rw [lim_val]; show 2 ≤ _; decide, fun b hb => hQ b _ (Ext.upd hb) (upd_same _ _ _)⟩

noncomputable def oN : Option Nat → V
  | none => .none
  | some i => .int i
noncomputable def readSize (t : T) (i : Nat) : Option Int × Option Nat × Nat :=
  if t[i]? = some 42 then (none, some (indexAt t (i + 1)).1, (indexAt t (i + 1)).2) else if figV (figs t i) < 0 then (none, none, i) else (some (figV (figs t i)), none, run isFig t i)
theorem readSize_le {t : T} {i : Nat} (h : i ≤ t.length) : (readSize t i).2.2 ≤ t.length := by
  unfold readSize
  split
  · rename_i hc
    exact indexAt_le (List.getElem?_eq_some_iff.mp hc).1
  · split
    · exact h
    · exact run_le _ _ _ h

theorem c_size (W : Fam g) {t : T} {i : Nat} (hn : 3 ≤ n) (hl : t.length + 10 ≤ lim) (hi : i ≤ t.length) (hQ : ∀ a H', Ext H H' → H' a = some (.tup [oV (readSize t i).1, oN (readSize t i).2.1, .int (readSize t i).2.2]) → Q (.ref a) H') : CallSem g n "read_size" [.str t, .int i] H Q X := by
  refine CallSem.mono (n := 2 + 1) (call_intro W.G W.D (W.fn ("read_size", F_read_size) (List.mem_of_getElem? (i := 11) rfl)) rfl ?_) hn
  show wpS g 2 b_read_size _ X [some (.str t), some (.int i), none, none, none, none, none] H
  unfold b_read_size
  have hr := run_le isFig t i hi
  refine S_seq (S_ite ?_)
  simp only [ze1, ze2, ze3, ze15, zt1, List.getElem?_cons_zero, List.getElem?_cons_succ, kb1]
  refine sl1 hl (by omega) ?_
  unfold readSize at hQ
  by_cases h1 : (t.take (i + 1)).drop i = [42]
  · refine ite_t (h1) ?_
    have h42 := cut1_eq.mp h1
    have hin : i + 1 ≤ t.length := (List.getElem?_eq_some_iff.mp h42).1
    rw [if_pos h42] at hQ
    refine S_seq (S_tup ?_)
    skip
    refine c_index W (Nat.le_refl _) hl hin fun a H' hE ha => ?_
    refine ⟨_, ha, rfl, by rw [lim_val]; show 2 ≤ _; decide, ?_⟩
    simp only [zL1, zL2, zk1, List.set_cons_zero, List.set_cons_succ]
    refine S_seq (S_ret ?_)
    skip
    exact ⟨by rw [lim_val]; show 3 ≤ _; decide, fun b hb => hQ b _ (hE.trans (Ext.upd hb)) (upd_same _ _ _)⟩
  · refine ite_f (h1) ?_
    rw [if_neg (fun z => h1 (cut1_eq.mpr z))] at hQ
    refine S_nil (S_seq (S_tup ?_))
    skip
    refine c_figures W (by exact (by decide)) hl (by omega) fun a hfr => ?_
    have hE : Ext H (upd H a (.tup [.int (figV (figs t i)), .int (run isFig t i)])) := Ext.upd hfr
    refine ⟨_, upd_same _ _ _, rfl, by rw [lim_val]; show 2 ≤ _; decide, ?_⟩
    generalize upd H a (.tup [.int (figV (figs t i)), .int (run isFig t i)]) = H' at *
    simp only [zL1, zL2, zk1, List.set_cons_zero, List.set_cons_succ]
    refine S_seq (S_ite ?_)
    simp only [ze1, ze2, zt1, List.getElem?_cons_zero, List.getElem?_cons_succ, kc9]
    by_cases h2 : figV (figs t i) < 0
    · simp only [h2, decide_true, if_true] at hQ ⊢
      refine S_seq (S_ret ?_)
      skip
      exact ⟨by rw [lim_val]; show 3 ≤ _; decide, fun b hb => hQ b _ (hE.trans (Ext.upd hb)) (upd_same _ _ _)⟩
    · simp only [h2, decide_false, Bool.false_eq_true, if_false] at hQ ⊢
      refine S_nil (S_seq (S_ret ?_))
      skip
      exact ⟨by rw [lim_val]; show 3 ≤ _; decide, fun b hb => hQ b _ (hE.trans (Ext.upd hb)) (upd_same _ _ _)⟩
end Mine
end

section
set_option genSizeOf false
set_option genSizeOfSpec false
open PySem PySem.W PyProof.Rows PySem.Calls
set_option Elab.async false
set_option maxRecDepth 100000
set_option linter.unusedVariables false
set_option linter.unusedSimpArgs false
namespace Mine
variable {g : G} {H : AHeap} {n : Nat} {Q : V → AHeap → Prop} {X : AHeap → Prop} {loc : Loc}

/-- a directive as it was read -/
structure Dir where
  ix : Nat
  fl : T
  w : Option Int
  ws : Option Nat
  p : Option Int
  ps : Option Nat
  le : T

noncomputable def dirD (d : Dir) : AObj := .dict [("index", .int d.ix), ("flags", .str d.fl), ("width", oV d.w), ("width_star", oN d.ws), ("precision", oV d.p), ("precision_star", oN d.ps), ("letter", .str d.le)]
noncomputable def dir0 : Dir := ⟨0, [], none, none, none, none, []⟩

structure DirAt (H : AHeap) (f fd : Addr) (d : Dir) : Prop where
  i : H f = some (.inst "Directive" fd)
  d : H fd = some (dirD d)

theorem DirAt.ne {f fd : Addr} {d : Dir} (D : DirAt H f fd d) : f ≠ fd := fun e => by have := D.i; rw [e, D.d] at this; cases this
theorem DirAt.upd {f fd : Addr} {d d' : Dir} (D : DirAt H f fd d) : DirAt (Mine.upd H fd (dirD d')) f fd d' := ⟨by rw [upd_ne _ _ D.ne]; exact D.i, upd_same _ _ _⟩
theorem DirAt.ext {H' : AHeap} {f fd : Addr} {d : Dir} (D : DirAt H f fd d) (h : Ext H H') : DirAt H' f fd d := ⟨h _ _ D.i, h _ _ D.d⟩

theorem DirAt.get {f fd : Addr} {d : Dir} (D : DirAt H f fd d) {nm : String} {v : V} {K : V → Prop} (hn : nm ∈ attrStrs)
    (hv : List.lookup nm [("index", V.int d.ix), ("flags", .str d.fl), ("width", oV d.w), ("width_star", oN d.ws), ("precision", oV d.p), ("precision_star", oN d.ps), ("letter", .str d.le)] = some v) (hK : K v) : attrK (.ref f) nm H K :=
  attr_ok D.i D.d mem_cls.1 hn hv hK
theorem DirAt.set {f fd : Addr} {d d' : Dir} (D : DirAt H f fd d) {nm : String} {v : V} {K : AHeap → Prop} (hn : nm ∈ attrStrs)
    (hv : putF nm v [("index", V.int d.ix), ("flags", .str d.fl), ("width", oV d.w), ("width_star", oN d.ws), ("precision", oV d.p), ("precision_star", oN d.ps), ("letter", .str d.le)] = [("index", V.int d'.ix), ("flags", .str d'.fl), ("width", oV d'.w), ("width_star", oN d'.ws), ("precision", oV d'.p), ("precision_star", oN d'.ps), ("letter", .str d'.le)])
    (hK : K (Mine.upd H fd (dirD d'))) : setAttrK (.ref f) nm v H K :=
  setAttr_ok D.i D.d mem_cls.1 hn (by show 7 ≤ 100; decide) (by rw [hv]; exact hK)

theorem upd_upd (H : AHeap) (a : Addr) (o o' : AObj) : upd (upd H a o) a o' = upd H a o' := by
  funext b
  by_cases e : b = a
  · subst e; rw [upd_same, upd_same]
  · rw [upd_ne _ _ e, upd_ne _ _ e, upd_ne _ _ e]
theorem upd_comm (H : AHeap) {a b : Addr} (o o' : AObj) (h : a ≠ b) : upd (upd H a o) b o' = upd (upd H b o') a o := by
  funext c
  by_cases e : c = a
  · subst e; rw [upd_ne _ _ h, upd_same, upd_same]
  · by_cases e' : c = b
    · subst e'; rw [upd_same, upd_ne _ _ e, upd_same]
    · rw [upd_ne _ _ e', upd_ne _ _ e, upd_ne _ _ e, upd_ne _ _ e']

/-- filling a new object's dictionary -/
theorem new_set {a d : Addr} {c nm : String} {fs : List (String × V)} {v : V} {K : AHeap → Prop} {H₀ : AHeap} (had : a ≠ d) (hc : c ∈ clsNames) (hn : nm ∈ attrStrs) (hl : fs.length ≤ 100)
    (hK : K (upd (upd H₀ d (.dict (putF nm v fs))) a (.inst c d))) : setAttrK (.ref a) nm v (upd (upd H₀ d (.dict fs)) a (.inst c d)) K := by
  refine setAttr_ok (c := c) (d := d) (fs := fs) (upd_same _ _ _) (by rw [upd_ne _ _ (Ne.symm had), upd_same]) hc hn hl ?_
  rw [upd_comm _ _ _ had, upd_upd]; exact hK

theorem c_Directive (W : Fam g) (hn : 2 ≤ n) (hQ : ∀ a d H', Ext H H' → H a = none → H d = none → DirAt H' a d dir0 → Q (.ref a) H') : NewSem g n "Directive" [] [] [] H Q X := by
  refine NewSem.mono (new_intro (n := 0) W.G W.D mem_cls.1 W.dir rfl fun a d ha hd had => ?_) hn
  show wpS g 0 b_Directive__init _ X [some (.ref a), none] _
  unfold b_Directive__init
  have ms : ∀ s ∈ ["index", "flags", "width", "width_star", "precision", "precision_star", "letter"], s ∈ attrStrs := by
    intro s hs
    simp only [List.mem_cons, List.not_mem_nil, or_false] at hs
    rcases hs with rfl | rfl | rfl | rfl | rfl | rfl | rfl <;> decide +kernel
  refine S_seq (S_setA ?_); skip
  refine new_set had mem_cls.1 (ms _ (by decide)) (by decide) ?_
  refine S_seq (S_setA ?_); skip
  refine new_set had mem_cls.1 (ms _ (by decide)) (by decide) ?_
  refine S_seq (S_setA ?_); skip
  refine new_set had mem_cls.1 (ms _ (by decide)) (by decide) ?_
  refine S_seq (S_setA ?_); skip
  refine new_set had mem_cls.1 (ms _ (by decide)) (by decide) ?_
  refine S_seq (S_setA ?_); skip
  refine new_set had mem_cls.1 (ms _ (by decide)) (by decide) ?_
  refine S_seq (S_setA ?_); skip
  refine new_set had mem_cls.1 (ms _ (by decide)) (by decide) ?_
  refine S_seq (S_setA ?_); skip
  refine new_set had mem_cls.1 (ms _ (by decide)) (by decide) ?_
  refine S_nil ⟨(by trivial), ?_⟩
  refine hQ a d _ ((Ext.upd hd).trans (Ext.upd (by rw [upd_ne _ _ had]; exact ha))) ha hd ⟨upd_same _ _ _, ?_⟩
  rw [upd_ne _ _ (Ne.symm had), upd_same]; rfl

theorem c_ValueRow (W : Fam g) {vl : Addr} (hn : 2 ≤ n) (hQ : ∀ a d H', Ext H H' → H a = none → H d = none → H' a = some (.inst "ValueRow" d) → H' d = some (rowD vl 0) → Q (.ref a) H') : NewSem g n "ValueRow" [.ref vl] [] [] H Q X := by
  refine NewSem.mono (new_intro (n := 0) W.G W.D mem_cls.2.1 W.row rfl fun a d ha hd had => ?_) hn
  show wpS g 0 b_ValueRow__init _ X [some (.ref a), some (.ref vl)] _
  unfold b_ValueRow__init
  refine S_seq (S_setA ?_); skip
  refine new_set had mem_cls.2.1 (by decide +kernel) (by decide) ?_
  refine S_seq (S_setA ?_); skip
  refine new_set had mem_cls.2.1 (by decide +kernel) (by show 1 ≤ 100; decide) ?_
  refine S_nil ⟨(by trivial), ?_⟩
  refine hQ a d _ ((Ext.upd hd).trans (Ext.upd (by rw [upd_ne _ _ had]; exact ha))) ha hd (upd_same _ _ _) ?_
  rw [upd_ne _ _ (Ne.symm had), upd_same]; rfl

/-! ## a directive is read -/
noncomputable def isSizeS (c : Nat) : Bool := decide (c ∈ [104, 108, 113, 76, 86, 122, 116, 106])
noncomputable def isLetter (c : Nat) : Bool := decide (c ∈ [99, 115, 100, 105, 68, 117, 85, 111, 79, 120, 88, 98, 66])
noncomputable def rdFlags (t : T) (i : Nat) : Nat := (indexAt t i).2
noncomputable def rdWidth (t : T) (i : Nat) : Nat := run isFlag t (rdFlags t i)
noncomputable def rdPoint (t : T) (i : Nat) : Nat := (readSize t (rdWidth t i)).2.2
noncomputable def rdPrec (t : T) (i : Nat) : Option Int × Option Nat × Nat :=
  if t[rdPoint t i]? = some 46 then
    (if (readSize t (rdPoint t i + 1)).1 = none ∧ (readSize t (rdPoint t i + 1)).2.1 = none then some 0 else (readSize t (rdPoint t i + 1)).1, (readSize t (rdPoint t i + 1)).2.1, (readSize t (rdPoint t i + 1)).2.2)
  else (none, none, rdPoint t i)
noncomputable def rdLetter (t : T) (i : Nat) : Nat := run isSizeS t (rdPrec t i).2.2
noncomputable def rdLe (t : T) (i : Nat) : T := match t[rdLetter t i]? with
  | some c => if isLetter c then [c] else []
  | none => []
noncomputable def rdDir (t : T) (i : Nat) : Dir := ⟨(indexAt t i).1, (t.take (rdWidth t i)).drop (rdFlags t i), (readSize t (rdWidth t i)).1, (readSize t (rdWidth t i)).2.1, (rdPrec t i).1, (rdPrec t i).2.1, rdLe t i⟩
noncomputable def rdEnd (t : T) (i : Nat) : Nat := min (rdLetter t i + 1) t.length

theorem rd_none {t : T} {i : Nat} (h : rdLe t i = []) : ({ rdDir t i with le := [] } : Dir) = rdDir t i := by
  show Dir.mk _ _ _ _ _ _ [] = Dir.mk _ _ _ _ _ _ (rdLe t i)
  rw [h]; rfl
theorem rdFlags_le {t : T} {i : Nat} (h : i ≤ t.length) : rdFlags t i ≤ t.length := indexAt_le h
theorem rdWidth_le {t : T} {i : Nat} (h : i ≤ t.length) : rdWidth t i ≤ t.length := run_le _ _ _ (rdFlags_le h)
theorem rdPoint_le {t : T} {i : Nat} (h : i ≤ t.length) : rdPoint t i ≤ t.length := readSize_le (rdWidth_le h)
theorem rdPrec_le {t : T} {i : Nat} (h : i ≤ t.length) : (rdPrec t i).2.2 ≤ t.length := by
  unfold rdPrec
  split
  · rename_i hc
    exact readSize_le (List.getElem?_eq_some_iff.mp hc).1
  · exact rdPoint_le h
theorem rdLetter_le {t : T} {i : Nat} (h : i ≤ t.length) : rdLetter t i ≤ t.length := run_le _ _ _ (rdPrec_le h)

theorem ExtX.out {S : List Addr} {A B C : AHeap} (x : Ext A B) (y : ExtX S B C) (h : ∀ a ∈ S, A a = none) : Ext A C := fun b o e => y b o (fun hb => by rw [h b hb] at e; cases e) (x b o e)

theorem c_directive (W : Fam g) {t : T} {i : Nat} (hn : 4 ≤ n) (hl : t.length + 10 ≤ lim) (hi : i ≤ t.length)
    (hQ : ∀ a f fd H', Ext H H' → H f = none → H fd = none → DirAt H' f fd (rdDir t i) → H' a = some (.tup [.ref f, .int (rdEnd t i)]) → Q (.ref a) H') : CallSem g n "read_directive" [.str t, .int i] H Q X := by
  refine CallSem.mono (n := 3 + 1) (call_intro W.G W.D (W.fn ("read_directive", F_read_directive) (List.mem_of_getElem? (i := 12) rfl)) rfl ?_) hn
  show wpS g 3 b_read_directive _ X [some (.str t), some (.int i), none, none, none, none, none, none, none, none, none, none, none] H
  unfold b_read_directive
  refine S_seq (S_set ?_); skip
  refine c_Directive W (by exact (by decide)) fun f fd H1 hE1 hf hfd D1 => ?_
  -- the told place
  refine S_seq (S_tup ?_); skip
  refine c_index W (by exact (by decide)) hl hi fun a2 H2 hE2 ha2 => ?_
  refine ⟨_, ha2, rfl, by rw [lim_val]; show 2 ≤ _; decide, ?_⟩
  simp only [zL1, zL2, zk1, zk2, ze2, List.getElem?_cons_zero, List.getElem?_cons_succ, List.set_cons_zero, List.set_cons_succ]
  refine (D1.ext hE2).set (d' := { dir0 with ix := (indexAt t i).1 }) (by decide +kernel) rfl ?_
  have X2 : ExtX [fd] H1 (upd H2 fd (dirD { dir0 with ix := (indexAt t i).1 })) := (hE2.x _).trans (ExtX.upd (.head _))
  have D2 := (D1.ext hE2).upd (d' := { dir0 with ix := (indexAt t i).1 })
  generalize upd H2 fd (dirD { dir0 with ix := (indexAt t i).1 }) = G2 at X2 D2 ⊢
  -- the flags
  have l1 := rdFlags_le hi
  change wpS g 3 _ _ X [some (.str t), some (.int (rdFlags t i)), some (.ref f), none, none, none, none, none, none, none, none, none, none] G2
  refine S_seq (S_tup ?_); skip
  refine c_flags W (by exact (by decide)) hl l1 fun a3 H3 hE3 ha3 => ?_
  refine ⟨_, ha3, rfl, by rw [lim_val]; show 2 ≤ _; decide, ?_⟩
  simp only [zL1, zL2, zk1, zk2, ze2, List.getElem?_cons_zero, List.getElem?_cons_succ, List.set_cons_zero, List.set_cons_succ]
  refine (D2.ext hE3).set (d' := { dir0 with ix := (indexAt t i).1, fl := (t.take (rdWidth t i)).drop (rdFlags t i) }) (by decide +kernel) rfl ?_
  have X3 := X2.trans ((hE3.x [fd]).trans (ExtX.upd (o := dirD { dir0 with ix := (indexAt t i).1, fl := (t.take (rdWidth t i)).drop (rdFlags t i) }) (.head _)))
  have D3 := (D2.ext hE3).upd (d' := { dir0 with ix := (indexAt t i).1, fl := (t.take (rdWidth t i)).drop (rdFlags t i) })
  generalize upd H3 fd (dirD { dir0 with ix := (indexAt t i).1, fl := (t.take (rdWidth t i)).drop (rdFlags t i) }) = G3 at X3 D3 ⊢
  -- the width
  have l2 := rdWidth_le hi
  change wpS g 3 _ _ X [some (.str t), some (.int (rdWidth t i)), some (.ref f), none, none, none, none, none, none, none, none, none, none] G3
  refine S_seq (S_tup ?_); skip
  refine c_size W (Nat.le_refl _) hl l2 fun a4 H4 hE4 ha4 => ?_
  refine ⟨_, ha4, rfl, by rw [lim_val]; show 3 ≤ _; decide, ?_⟩
  simp only [zL1, zL2, zk1, zk2, ze2, List.getElem?_cons_zero, List.getElem?_cons_succ, List.set_cons_zero, List.set_cons_succ]
  refine (D3.ext hE4).set (d' := { dir0 with ix := (indexAt t i).1, fl := (t.take (rdWidth t i)).drop (rdFlags t i), w := (readSize t (rdWidth t i)).1 }) (by decide +kernel) rfl ?_
  refine ((D3.ext hE4).upd).set (d' := { dir0 with ix := (indexAt t i).1, fl := (t.take (rdWidth t i)).drop (rdFlags t i), w := (readSize t (rdWidth t i)).1, ws := (readSize t (rdWidth t i)).2.1 }) (by decide +kernel) rfl ?_
  rw [upd_upd]
  have X4 := X3.trans ((hE4.x [fd]).trans (ExtX.upd (o := dirD { dir0 with ix := (indexAt t i).1, fl := (t.take (rdWidth t i)).drop (rdFlags t i), w := (readSize t (rdWidth t i)).1, ws := (readSize t (rdWidth t i)).2.1 }) (.head _)))
  have D4 := (D3.ext hE4).upd (d' := { dir0 with ix := (indexAt t i).1, fl := (t.take (rdWidth t i)).drop (rdFlags t i), w := (readSize t (rdWidth t i)).1, ws := (readSize t (rdWidth t i)).2.1 })
  generalize upd H4 fd (dirD { dir0 with ix := (indexAt t i).1, fl := (t.take (rdWidth t i)).drop (rdFlags t i), w := (readSize t (rdWidth t i)).1, ws := (readSize t (rdWidth t i)).2.1 }) = G4 at X4 D4 ⊢
  clear X2 D2 X3 D3 hE2 hE3 hE4 ha2 ha3 ha4 D1
  -- the precision
  have l3 := rdPoint_le hi
  change wpS g 3 _ _ X [some (.str t), some (.int (rdPoint t i)), some (.ref f), none, none, none, none, none, none, none, none, none, none] G4
  have tail : ∀ G5, ExtX [fd] H1 G5 → DirAt G5 f fd { rdDir t i with le := [] } → wpS g 3
    (.seq (.while (.and (.cons (.cmp .NotEq (.slice (.loc 0) (.loc 1) (.bin .Add (.loc 1) (.lit (.int 1)))) (.lit (.str []))) (.cons (.cmp .In (.sub (.loc 0) (.loc 1)) (.lit (.str [104, 108, 113, 76, 86, 122, 116, 106]))) .nil)))
    (.seq (.aug (.loc 1) .Add (.lit (.int 1)))
    .nil))
  (.seq (.assign (.loc 3) (.slice (.loc 0) (.loc 1) (.bin .Add (.loc 1) (.lit (.int 1)))))
  (.seq (.ite (.and (.cons (.cmp .NotEq (.loc 3) (.lit (.str []))) (.cons (.cmp .In (.loc 3) (.bin .Add (.bin .Add (.lit (.str [99, 115])) (.lit (.str [100, 105, 68]))) (.lit (.str [117, 85, 111, 79, 120, 88, 98, 66])))) .nil)))
    (.seq (.assign (.attr (.loc 2) "letter") (.loc 3))
    .nil)
    .nil)
  (.seq (.ret (.tup (.cons (.loc 2) (.cons (.bi "min" (.cons (.bin .Add (.loc 1) (.lit (.int 1))) (.cons (.bi "len" (.cons (.loc 0) .nil)) .nil))) .nil))))
  .nil)))) (fp Q) X [some (.str t), some (.int (rdPrec t i).2.2), some (.ref f), none, none, none, none, none, none, none, none, none, none] G5 := by
    intro G5 X5 D5
    have l4 := rdPrec_le hi
    have l5 := rdLetter_le hi
    have fin : ∀ G6, ExtX [fd] H1 G6 → DirAt G6 f fd (rdDir t i) → wpS g 3 (.seq (.ret (.tup (.cons (.loc 2) (.cons (.bi "min" (.cons (.bin .Add (.loc 1) (.lit (.int 1))) (.cons (.bi "len" (.cons (.loc 0) .nil)) .nil))) .nil)))) .nil)
        (fp Q) X [some (.str t), some (.int (rdLetter t i)), some (.ref f), some (.str (t[rdLetter t i]?).toList), none, none, none, none, none, none, none, none, none] G6 := by
      intro G6 X6 D6
      refine S_seq (S_ret ?_)
      simp only [ze1, ze2, ze3, ze10, ze17, zl1, zl2, List.getElem?_cons_zero, List.getElem?_cons_succ, kb1, kf1, kf4]
      refine ⟨by exact (Nat.le_trans (Nat.le_add_right _ _) (by assumption)), by rw [lim_val]; show 2 ≤ _; decide, fun b hb => ?_⟩
      refine hQ b f fd _ ((ExtX.out hE1 X6 (by intro a ha; rw [List.mem_singleton.mp ha]; exact hfd)).trans (Ext.upd hb)) hf hfd (D6.ext (Ext.upd hb)) ?_
      rw [upd_same]
      unfold rdEnd
      rw [show (min ((rdLetter t i : Int) + 1) (t.length : Int)) = ((min (rdLetter t i + 1) t.length : Nat) : Int) from by omega]
    refine S_seq (S_while (fun l H₁ => H₁ = G5 ∧ ∃ m : Nat, l = [some (.str t), some (.int m), some (.ref f), none, none, none, none, none, none, none, none, none, none] ∧ run isSizeS t m = rdLetter t i ∧ m ≤ t.length) (fun l _ => t.length - (intAt l 1).toNat) ⟨rfl, _, rfl, rfl, l4⟩ ?_)
    rintro l H₁ ⟨rfl, m, rfl, hm, hml⟩
    have out : (∀ c, t[m]? = some c → isSizeS c = false) → wpS g 3 (.seq (.assign (.loc 3) (.slice (.loc 0) (.loc 1) (.bin .Add (.loc 1) (.lit (.int 1)))))
  (.seq (.ite (.and (.cons (.cmp .NotEq (.loc 3) (.lit (.str []))) (.cons (.cmp .In (.loc 3) (.bin .Add (.bin .Add (.lit (.str [99, 115])) (.lit (.str [100, 105, 68]))) (.lit (.str [117, 85, 111, 79, 120, 88, 98, 66])))) .nil)))
    (.seq (.assign (.attr (.loc 2) "letter") (.loc 3))
    .nil)
    .nil)
  (.seq (.ret (.tup (.cons (.loc 2) (.cons (.bi "min" (.cons (.bin .Add (.loc 1) (.lit (.int 1))) (.cons (.bi "len" (.cons (.loc 0) .nil)) .nil))) .nil))))
  .nil))) (fp Q) X [some (.str t), some (.int m), some (.ref f), none, none, none, none, none, none, none, none, none, none] H₁ := by
      intro hstop
      have e : m = rdLetter t i := by rw [← hm]; exact (run_stop hstop).symm
      subst e
      refine S_seq (S_set ?_)
      simp only [ze1, ze2, ze3, ze15, List.getElem?_cons_zero, List.getElem?_cons_succ, List.set_cons_zero, List.set_cons_succ, kb1]
      refine sl1 hl (by omega) ?_
      rw [cut1]
      refine S_seq (S_ite ?_)
      simp only [ze1, ze2, ze3, zt1, zt2, za1, za2, List.getElem?_cons_zero, List.getElem?_cons_succ, kb2, kc8, kc15]
      have ele : rdLe t i = match t[rdLetter t i]? with | some c => if isLetter c then [c] else [] | none => [] := rfl
      cases hc : t[rdLetter t i]? with
      | none =>
        rw [hc] at ele
        simp only [Option.toList, ne_eq, not_true_eq_false, decide_false, Bool.false_eq_true, if_false]
        have := fin _ X5 (by have D5' := D5; rw [show ({ rdDir t i with le := [] } : Dir) = rdDir t i from rd_none ele] at D5'; exact D5')
        rw [hc] at this
        exact S_nil this
      | some c =>
        rw [hc] at ele
        skip
        refine ⟨by rw [lim_val]; decide, by rw [lim_val]; decide, c, rfl, ?_⟩
        by_cases hcl : isLetter c = true
        · have hcm : c ∈ ([99, 115] ++ [100, 105, 68] ++ [117, 85, 111, 79, 120, 88, 98, 66] : T) := by
            have := of_decide_eq_true hcl
            trivial
          rw [decide_eq_true hcm]
          simp only [if_true]
          refine S_seq (S_setA ?_)
          skip
          have e6 : rdLe t i = [c] := by rw [ele]; exact if_pos hcl
          refine D5.set (d' := rdDir t i) (by decide +kernel) ?_ ?_
          · show putF "letter" (.str [c]) _ = [_, _, _, _, _, _, ("letter", .str (rdLe t i))]
            rw [e6]; rfl
          · have := fin _ (X5.trans (ExtX.upd (.head _))) (D5.upd (d' := rdDir t i))
            rw [hc] at this
            exact S_nil this
        · have hcm : c ∉ ([99, 115] ++ [100, 105, 68] ++ [117, 85, 111, 79, 120, 88, 98, 66] : T) := fun z => hcl (decide_eq_true (by trivial))
          rw [decide_eq_false hcm]
          simp only [Bool.false_eq_true, if_false]
          have := fin _ X5 (by have D5' := D5; rw [show ({ rdDir t i with le := [] } : Dir) = rdDir t i from rd_none (by rw [ele]; exact if_neg hcl)] at D5'; exact D5')
          rw [hc] at this
          exact S_nil this
    simp only [ze1, ze2, ze3, ze14, ze15, zt1, zt2, za1, za2, List.getElem?_cons_zero, List.getElem?_cons_succ, kb1]
    refine sl1 hl (by omega) ?_
    rw [cut1]
    cases hc : t[m]? with
    | none =>
      skip
      exact out (fun c h => by rw [hc] at h; cases h)
    | some c =>
      have hin := (List.getElem?_eq_some_iff.mp hc).1
      skip
      refine ⟨by exact (Int.natCast_nonneg _), by exact (Nat.le_trans (Nat.le_add_right _ _) (by assumption)), c, by simpa using hc, c, rfl, ?_⟩
      by_cases hcs : c ∈ [104, 108, 113, 76, 86, 122, 116, 106]
      · simp only [hcs, decide_true, if_true]
        refine S_seq (S_aug ?_)
        simp only [ze1, ze2, List.getElem?_cons_zero, List.getElem?_cons_succ, List.set_cons_zero, List.set_cons_succ, ki1]
        refine S_nil ⟨⟨rfl, m + 1, rfl, ?_, hin⟩, ?_⟩
        · rw [← hm]; exact run_step hc (decide_eq_true hcs)
        · show t.length - ((m : Int) + 1).toNat < t.length - ((m : Int)).toNat
          exact (Nat.sub_succ_lt_self _ _ (by assumption))
      · simp only [hcs, decide_false, Bool.false_eq_true, if_false]
        exact out (fun c' h => by rw [hc] at h; cases h; exact decide_eq_false hcs)
  refine S_seq (S_ite ?_)
  simp only [ze1, ze2, ze3, ze15, zt1, List.getElem?_cons_zero, List.getElem?_cons_succ, kb1]
  refine sl1 hl (by omega) ?_
  by_cases h46 : (t.take (rdPoint t i + 1)).drop (rdPoint t i) = [46]
  · simp only [h46, decide_true, kc2, if_true]
    have hp := cut1_eq.mp h46
    have l3' : rdPoint t i + 1 ≤ t.length := (List.getElem?_eq_some_iff.mp hp).1
    have eP : rdPrec t i = (if (readSize t (rdPoint t i + 1)).1 = none ∧ (readSize t (rdPoint t i + 1)).2.1 = none then some 0 else (readSize t (rdPoint t i + 1)).1, (readSize t (rdPoint t i + 1)).2.1, (readSize t (rdPoint t i + 1)).2.2) := by
      unfold rdPrec; rw [if_pos hp]
    refine S_seq (S_tup ?_); simp only [ze1, ze2, ze3, ze8, zl1, zl2, List.getElem?_cons_zero, List.getElem?_cons_succ, kb1]
    refine c_size W (Nat.le_refl _) hl l3' fun a5 H5 hE5 ha5 => ?_
    refine ⟨_, ha5, rfl, by rw [lim_val]; show 3 ≤ _; decide, ?_⟩
    simp only [zL1, zL2, zk1, zk2, ze2, List.getElem?_cons_zero, List.getElem?_cons_succ, List.set_cons_zero, List.set_cons_succ]
    generalize hrs : readSize t (rdPoint t i + 1) = rs at *
    obtain ⟨p, ps, e⟩ := rs
    dsimp only at eP ha5 ⊢
    refine (D4.ext hE5).set (d' := ⟨(indexAt t i).1, (t.take (rdWidth t i)).drop (rdFlags t i), (readSize t (rdWidth t i)).1, (readSize t (rdWidth t i)).2.1, p, none, []⟩) (by decide +kernel) rfl ?_
    refine ((D4.ext hE5).upd).set (d' := ⟨(indexAt t i).1, (t.take (rdWidth t i)).drop (rdFlags t i), (readSize t (rdWidth t i)).1, (readSize t (rdWidth t i)).2.1, p, ps, []⟩) (by decide +kernel) rfl ?_
    rw [upd_upd]
    have X5 := X4.trans ((hE5.x [fd]).trans (ExtX.upd (o := dirD ⟨(indexAt t i).1, (t.take (rdWidth t i)).drop (rdFlags t i), (readSize t (rdWidth t i)).1, (readSize t (rdWidth t i)).2.1, p, ps, []⟩) (.head _)))
    have D5 := (D4.ext hE5).upd (d' := ⟨(indexAt t i).1, (t.take (rdWidth t i)).drop (rdFlags t i), (readSize t (rdWidth t i)).1, (readSize t (rdWidth t i)).2.1, p, ps, []⟩)
    generalize upd H5 fd (dirD ⟨(indexAt t i).1, (t.take (rdWidth t i)).drop (rdFlags t i), (readSize t (rdWidth t i)).1, (readSize t (rdWidth t i)).2.1, p, ps, []⟩) = G5 at X5 D5 ⊢
    have t5 := tail
    unfold rdDir at t5
    rw [eP] at t5
    dsimp only at t5
    refine S_seq (S_ite ?_)
    simp only [ze1, ze2, ze13, zt1, zt2, za1, za2, List.getElem?_cons_zero, List.getElem?_cons_succ]
    refine D5.get (by decide +kernel) (v := oV p) rfl ?_
    simp only [kc13]
    cases p with
    | some z =>
      simp only [oV, reduceCtorEq, decide_false, Bool.false_eq_true, if_false]
      refine S_nil (S_nil (t5 G5 X5 ?_))
      simpa using D5
    | none =>
      simp only [oV, decide_true, if_true]
      refine D5.get (by decide +kernel) (v := oN ps) rfl ?_
      cases ps with
      | some z =>
        simp only [oN, reduceCtorEq, decide_false, Bool.false_eq_true, if_false]
        refine S_nil (S_nil (t5 G5 X5 ?_))
        simpa using D5
      | none =>
        simp only [oN, decide_true, if_true]
        refine S_seq (S_setA ?_)
        simp only [ze1, ze2, List.getElem?_cons_zero, List.getElem?_cons_succ]
        refine D5.set (d' := ⟨(indexAt t i).1, (t.take (rdWidth t i)).drop (rdFlags t i), (readSize t (rdWidth t i)).1, (readSize t (rdWidth t i)).2.1, some 0, none, []⟩) (by decide +kernel) rfl ?_
        refine S_nil (S_nil (t5 _ (X5.trans (ExtX.upd (.head _))) ?_))
        have := D5.upd (d' := ⟨(indexAt t i).1, (t.take (rdWidth t i)).drop (rdFlags t i), (readSize t (rdWidth t i)).1, (readSize t (rdWidth t i)).2.1, some 0, none, []⟩)
        simpa using this
  · simp only [h46, decide_false, kc2, Bool.false_eq_true, if_false]
    have hp : ¬ t[rdPoint t i]? = some 46 := fun z => h46 (cut1_eq.mpr z)
    have eP : rdPrec t i = (none, none, rdPoint t i) := by unfold rdPrec; rw [if_neg hp]
    have t5 := tail
    unfold rdDir at t5
    rw [eP] at t5
    exact S_nil (t5 G4 X4 D4)
end Mine
end

section
set_option genSizeOf false
set_option genSizeOfSpec false
open PySem PySem.W PyProof.Rows PySem.Calls
set_option Elab.async false
set_option maxRecDepth 100000
set_option linter.unusedVariables false
set_option linter.unusedSimpArgs false
namespace Mine
variable {g : G} {H : AHeap} {n : Nat} {Q : V → AHeap → Prop} {X : AHeap → Prop} {loc : Loc}

noncomputable def tooBig (x : Option Int) (tx : Int) : Bool := match x with
  | some z => decide (tx < z)
  | none => false

theorem c_check (W : Fam g) {x : Option Int} {l : Addr} {w : Nat} {tx : Int} (hn : 3 ≤ n) (L : Lim H l w tx) (hQ : tooBig x tx = false → Q .none H) (hX : tooBig x tx = true → X H) : CallSem g n "check_size" [oV x, .ref l] H Q X := by
  refine CallSem.mono (n := 2 + 1) (call_intro W.G W.D (W.fn ("check_size", F_check_size) (List.mem_of_getElem? (i := 13) rfl)) rfl ?_) hn
  show wpS g 2 b_check_size _ X [some (oV x), some (.ref l), none] H
  unfold b_check_size
  refine S_seq (S_ite ?_)
  cases x with
  | none =>
    simp only [ze1, ze2, ze13, zt1, zt2, za1, za2, List.getElem?_cons_zero, List.getElem?_cons_succ, kc14, oV, ne_eq, not_true_eq_false, decide_false, kc14, Bool.false_eq_true, if_false]
    exact S_nil (S_nil (hQ rfl))
  | some z =>
    simp only [ze1, ze2, ze13, zt1, zt2, za1, za2, List.getElem?_cons_zero, List.getElem?_cons_succ, kc14, oV, ne_eq, reduceCtorEq, not_false_eq_true, decide_true, kc14, if_true]
    refine L.text ?_
    unfold tooBig at hQ hX
    by_cases h : tx < z
    · simp only [h, decide_true, kc11, if_true] at hX ⊢
      refine S_seq (S_raise ?_)
      skip
      exact ⟨by exact (Nat.le_refl _), ⟨_, rfl⟩, hX (by trivial)⟩
    · simp only [h, decide_false, kc11, Bool.false_eq_true, if_false] at hQ ⊢
      exact S_nil (S_nil (hQ (by trivial)))

/-! ## the places keep apart -/
theorem Lim.keep {H' : AHeap} {l fd rd vl : Addr} {d : Dir} {k : Nat} {w : Nat} {tx : Int} (L : Lim H l w tx) (hd : H fd = some (dirD d)) (hr : H rd = some (rowD vl k)) (h : ExtX [fd, rd] H H') : Lim H' l w tx := by
  obtain ⟨dd, x, y, z, h1, h2⟩ := L.ex
  refine ⟨dd, x, y, z, h _ _ ?_ h1, h _ _ ?_ h2⟩
  · intro hm
    simp only [List.mem_cons, List.not_mem_nil, or_false] at hm
    rcases hm with rfl | rfl
    · rw [hd] at h1; cases h1
    · rw [hr] at h1; cases h1
  · intro hm
    simp only [List.mem_cons, List.not_mem_nil, or_false] at hm
    rcases hm with rfl | rfl
    · rw [hd] at h2
      have e := congrArg (fun o => match o with | some (.dict fs) => fs.length | _ => 0) h2
      exact absurd e (by show ¬ ((7 : Nat) = 5); decide)
    · rw [hr] at h2
      have e := congrArg (fun o => match o with | some (.dict fs) => fs.length | _ => 0) h2
      exact absurd e (by show ¬ ((2 : Nat) = 5); decide)
theorem dir_ne_row {fd rd vl : Addr} {d : Dir} {k : Nat} (hd : H fd = some (dirD d)) (hr : H rd = some (rowD vl k)) : fd ≠ rd := by
  intro e
  rw [e, hr] at hd
  have e := congrArg (fun o => match o with | some (.dict fs) => fs.length | _ => 0) hd
  exact absurd e (by show ¬ ((2 : Nat) = 7); decide)
theorem Row.other {fd r rd vl : Addr} {d d' : Dir} {k : Nat} {vs : List V} (R : Row H r rd vl vs k) (D : H fd = some (dirD d)) : Row (Mine.upd H fd (dirD d')) r rd vl vs k := by
  have h1 : r ≠ fd := fun e => by have := R.i; rw [e, D] at this; cases this
  have h2 : vl ≠ fd := fun e => by have := R.v; rw [e, D] at this; cases this
  have h3 := dir_ne_row D R.d
  exact ⟨by rw [upd_ne _ _ h1]; exact R.i, by rw [upd_ne _ _ (Ne.symm h3)]; exact R.d, by rw [upd_ne _ _ h2]; exact R.v, R.len⟩
theorem DirAt.other {f fd rd vl : Addr} {d : Dir} {k k' : Nat} (D : DirAt H f fd d) (R : H rd = some (rowD vl k)) : DirAt (Mine.upd H rd (rowD vl k')) f fd d := by
  have h1 : f ≠ rd := fun e => by have := D.i; rw [e, R] at this; cases this
  have h3 := dir_ne_row D.d R
  exact ⟨by rw [upd_ne _ _ h1]; exact D.i, by rw [upd_ne _ _ h3]; exact D.d⟩

/-! ## the stars are settled -/
noncomputable def starW (d : Dir) (vs : List V) (k w : Nat) : Dir × Nat := match d.ws with
  | none => (d, k)
  | some ix => (if toNum (takeV vs k ix) w < 0 then { d with w := some (-toNum (takeV vs k ix) w), fl := d.fl ++ [45] } else { d with w := some (toNum (takeV vs k ix) w) }, nextK k ix)
noncomputable def starP (d : Dir) (vs : List V) (k w : Nat) : Dir × Nat := match d.ps with
  | none => (d, k)
  | some ix => ({ d with p := if toNum (takeV vs k ix) w < 0 then none else some (toNum (takeV vs k ix) w) }, nextK k ix)
noncomputable def stars (d : Dir) (vs : List V) (k w : Nat) : Dir × Nat := starP (starW d vs k w).1 vs (starW d vs k w).2 w
noncomputable def bigDir (d : Dir) (tx : Int) : Bool := tooBig d.w tx || tooBig d.p tx

theorem takeV_plain {vs : List V} {k ix : Nat} (h : ∀ v ∈ vs, Plain v) : Plain (takeV vs k ix) := by
  unfold takeV
  cases e : vs[takeAt k ix]? with
  | none => exact .inl rfl
  | some v => exact h _ (List.mem_of_getElem? e)

theorem c_settle (W : Fam g) {f fd r rd vl l : Addr} {d : Dir} {vs : List V} {k w : Nat} {tx : Int} (hn : 4 ≤ n) (h1 : 1 ≤ w) (h2 : w ≤ 64) (hfl : d.fl.length + 1 ≤ lim) (hv : ∀ v ∈ vs, Plain v)
    (D : DirAt H f fd d) (R : Row H r rd vl vs k) (L : Lim H l w tx)
    (hQ : ∀ H', ExtX [fd, rd] H H' → DirAt H' f fd (stars d vs k w).1 → Row H' r rd vl vs (stars d vs k w).2 → Lim H' l w tx → bigDir (stars d vs k w).1 tx = false → Q .none H')
    (hX : ∀ H', ExtX [fd, rd] H H' → bigDir (stars d vs k w).1 tx = true → X H') : CallSem g n "settle_stars" [.ref f, .ref r, .ref l] H Q X := by
  refine CallSem.mono (n := 3 + 1) (call_intro W.G W.D (W.fn ("settle_stars", F_settle_stars) (List.mem_of_getElem? (i := 14) rfl)) rfl ?_) hn
  show wpS g 3 b_settle_stars _ X [some (.ref f), some (.ref r), some (.ref l), none, none, none] H
  unfold b_settle_stars
  have tail2 : ∀ H', ExtX [fd, rd] H H' → DirAt H' f fd (stars d vs k w).1 → Row H' r rd vl vs (stars d vs k w).2 → Lim H' l w tx → wpS g 3 (.seq (.expr (.call "check_size" (.cons (.attr (.loc 0) "width") (.cons (.loc 2) .nil))))
      (.seq (.expr (.call "check_size" (.cons (.attr (.loc 0) "precision") (.cons (.loc 2) .nil)))) .nil)) (fp Q) X [some (.ref f), some (.ref r), some (.ref l), none, none, none] H' := by
    intro H' hE D' R' L'
    refine S_seq (S_expr ?_)
    simp only [ze2, ze8, ze13, zl1, zl2, List.getElem?_cons_zero, List.getElem?_cons_succ]
    refine D'.get (by decide +kernel) (v := oV (stars d vs k w).1.w) rfl ?_
    refine c_check W (Nat.le_refl _) L' (fun hw => ⟨rfl, ?_⟩) (fun hw => hX _ hE (by unfold bigDir; rw [hw]; rfl))
    refine S_seq (S_expr ?_)
    simp only [ze2, ze8, ze13, zl1, zl2, List.getElem?_cons_zero, List.getElem?_cons_succ]
    refine D'.get (by decide +kernel) (v := oV (stars d vs k w).1.p) rfl ?_
    refine c_check W (Nat.le_refl _) L' (fun hp => ⟨rfl, ?_⟩) (fun hp => hX _ hE (by unfold bigDir; rw [hp, Bool.or_true]))
    exact S_nil (hQ _ hE D' R' L' (by unfold bigDir; rw [hw, hp]; rfl))
  have tail1 : ∀ H', ExtX [fd, rd] H H' → DirAt H' f fd (starW d vs k w).1 → Row H' r rd vl vs (starW d vs k w).2 → Lim H' l w tx → wpS g 3   (.seq (.ite (.cmp .IsNot (.attr (.loc 0) "precision_star") (.lit .none))
    (.seq (.assign (.attr (.loc 0) "precision") (.call "to_number" (.cons (.call "take_value" (.cons (.loc 1) (.cons (.attr (.loc 0) "precision_star") .nil))) (.cons (.loc 2) .nil))))
    (.seq (.ite (.cmp .Lt (.attr (.loc 0) "precision") (.lit (.int 0)))
      (.seq (.assign (.attr (.loc 0) "precision") (.lit .none))
      .nil)
      .nil)
    .nil))
    .nil)
  (.seq (.expr (.call "check_size" (.cons (.attr (.loc 0) "width") (.cons (.loc 2) .nil))))
  (.seq (.expr (.call "check_size" (.cons (.attr (.loc 0) "precision") (.cons (.loc 2) .nil))))
  .nil))) (fp Q) X [some (.ref f), some (.ref r), some (.ref l), none, none, none] H' := by
    intro H' hE D' R' L'
    unfold stars at tail2
    generalize hd1 : (starW d vs k w).1 = d1 at *
    generalize hk1 : (starW d vs k w).2 = k1 at *
    refine S_seq (S_ite ?_)
    simp only [ze1, ze2, ze13, zt1, List.getElem?_cons_zero]
    refine D'.get (by decide +kernel) (v := oN d1.ps) rfl ?_
    unfold starP at tail2
    cases hps : d1.ps with
    | none =>
      simp only [hps] at tail2
      simp only [kc14, oN, ne_eq, not_true_eq_false, decide_false, kc14, Bool.false_eq_true, if_false]
      exact S_nil (tail2 _ hE D' R' L')
    | some ix =>
      simp only [hps] at tail2
      rw [← hps] at tail2
      simp only [kc14, oN, ne_eq, reduceCtorEq, not_false_eq_true, decide_true, kc14, if_true]
      refine S_seq (S_setA ?_)
      simp only [ze2, ze8, ze13, zl1, zl2, List.getElem?_cons_zero, List.getElem?_cons_succ]
      refine D'.get (by decide +kernel) (v := oN d1.ps) rfl ?_
      rw [hps]
      refine c_take W (by exact (by decide)) R' ?_
      have R2 := R'.upd (k' := nextK k1 ix)
      have D2 := D'.other (k' := nextK k1 ix) R'.d
      have E2 := hE.trans (ExtX.upd (S := [fd, rd]) (o := rowD vl (nextK k1 ix)) (by simp : rd ∈ [fd, rd]))
      have L2 := L'.keep D'.d R'.d (ExtX.upd (S := [fd, rd]) (o := rowD vl (nextK k1 ix)) (by simp : rd ∈ [fd, rd]))
      generalize upd H' rd (rowD vl (nextK k1 ix)) = G2 at *
      refine c_to_number W (Nat.le_refl _) (takeV_plain hv) L2 h1 h2 fun H3 hE3 => ?_
      replace D2 := D2.ext hE3
      replace R2 := R2.ext hE3
      replace L2 := L2.ext hE3
      replace E2 := E2.trans (hE3.x _)
      generalize toNum (takeV vs k1 ix) w = z at *
      refine D2.set (d' := { d1 with p := some z }) (by decide +kernel) rfl ?_
      have D3 := D2.upd (d' := { d1 with p := some z })
      have R3 := R2.other (d' := { d1 with p := some z }) D2.d
      have E3 := E2.trans (ExtX.upd (S := [fd, rd]) (o := dirD { d1 with p := some z }) (by simp : fd ∈ [fd, rd]))
      have L3 := L2.keep D2.d R2.d (ExtX.upd (S := [fd, rd]) (o := dirD { d1 with p := some z }) (by simp : fd ∈ [fd, rd]))
      generalize upd H3 fd (dirD { d1 with p := some z }) = G3 at *
      refine S_seq (S_ite ?_)
      simp only [ze1, ze2, ze13, zt1, List.getElem?_cons_zero]
      refine D3.get (by decide +kernel) (v := .int z) rfl ?_
      skip
      by_cases hz : z < 0
      · simp only [hz, if_true] at tail2
        refine ite_t (hz) ?_
        refine S_seq (S_setA ?_)
        skip
        refine D3.set (d' := { d1 with p := none }) (by decide +kernel) rfl ?_
        exact S_nil (S_nil (tail2 _ (E3.trans (ExtX.upd (by simp))) (D3.upd (d' := { d1 with p := none })) (R3.other D3.d) (L3.keep D3.d R3.d (ExtX.upd (by simp)))))
      · simp only [hz, if_false] at tail2
        refine ite_f (hz) ?_
        exact S_nil (S_nil (tail2 _ E3 D3 R3 L3))
  refine S_seq (S_ite ?_)
  simp only [ze1, ze2, ze13, zt1, List.getElem?_cons_zero]
  refine D.get (by decide +kernel) (v := oN d.ws) rfl ?_
  clear tail2
  unfold starW at tail1
  cases hws : d.ws with
  | none =>
    simp only [hws] at tail1
    simp only [kc14, oN, ne_eq, not_true_eq_false, decide_false, kc14, Bool.false_eq_true, if_false]
    exact S_nil (tail1 _ (ExtX.refl _ _) D R L)
  | some ix =>
    simp only [hws] at tail1
    rw [← hws] at tail1
    simp only [kc14, oN, ne_eq, reduceCtorEq, not_false_eq_true, decide_true, kc14, if_true]
    refine S_seq (S_setA ?_)
    simp only [ze2, ze8, ze13, zl1, zl2, List.getElem?_cons_zero, List.getElem?_cons_succ]
    refine D.get (by decide +kernel) (v := oN d.ws) rfl ?_
    rw [hws]
    refine c_take W (by exact (by decide)) R ?_
    have R2 := R.upd (k' := nextK k ix)
    have D2 := D.other (k' := nextK k ix) R.d
    have E2 := ExtX.upd (S := [fd, rd]) (H := H) (o := rowD vl (nextK k ix)) (by simp : rd ∈ [fd, rd])
    have L2 := L.keep D.d R.d E2
    generalize upd H rd (rowD vl (nextK k ix)) = G2 at *
    refine c_to_number W (Nat.le_refl _) (takeV_plain hv) L2 h1 h2 fun H3 hE3 => ?_
    replace D2 := D2.ext hE3
    replace R2 := R2.ext hE3
    replace L2 := L2.ext hE3
    replace E2 := E2.trans (hE3.x _)
    generalize toNum (takeV vs k ix) w = z at *
    refine D2.set (d' := { d with w := some z }) (by decide +kernel) rfl ?_
    have D3 := D2.upd (d' := { d with w := some z })
    have R3 := R2.other (d' := { d with w := some z }) D2.d
    have E3 := E2.trans (ExtX.upd (S := [fd, rd]) (o := dirD { d with w := some z }) (by simp : fd ∈ [fd, rd]))
    have L3 := L2.keep D2.d R2.d (ExtX.upd (S := [fd, rd]) (o := dirD { d with w := some z }) (by simp : fd ∈ [fd, rd]))
    generalize upd H3 fd (dirD { d with w := some z }) = G3 at *
    refine S_seq (S_ite ?_)
    simp only [ze1, ze2, ze13, zt1, List.getElem?_cons_zero]
    refine D3.get (by decide +kernel) (v := .int z) rfl ?_
    skip
    by_cases hz : z < 0
    · simp only [hz, if_true] at tail1
      refine ite_t (hz) ?_
      refine S_seq (S_setA ?_)
      skip
      refine D3.get (by decide +kernel) (v := .int z) rfl ?_
      refine D3.set (d' := { d with w := some (-z) }) (by decide +kernel) rfl ?_
      have D4 := D3.upd (d' := { d with w := some (-z) })
      have R4 := R3.other (d' := { d with w := some (-z) }) D3.d
      have E4 := E3.trans (ExtX.upd (S := [fd, rd]) (o := dirD { d with w := some (-z) }) (by simp : fd ∈ [fd, rd]))
      have L4 := L3.keep D3.d R3.d (ExtX.upd (S := [fd, rd]) (o := dirD { d with w := some (-z) }) (by simp : fd ∈ [fd, rd]))
      generalize upd G3 fd (dirD { d with w := some (-z) }) = G4 at *
      refine S_seq (S_augA ?_)
      simp only [ze1, ze2, List.getElem?_cons_zero]
      refine D4.get (by decide +kernel) (v := .str d.fl) rfl ?_
      skip
      refine ⟨hfl, ?_⟩
      refine D4.set (d' := { d with w := some (-z), fl := d.fl ++ [45] }) (by decide +kernel) rfl ?_
      exact S_nil (S_nil (tail1 _ (E4.trans (ExtX.upd (by simp))) (D4.upd (d' := { d with w := some (-z), fl := d.fl ++ [45] })) (R4.other D4.d) (L4.keep D4.d R4.d (ExtX.upd (by simp)))))
    · simp only [hz, if_false] at tail1
      refine ite_f (hz) ?_
      exact S_nil (S_nil (tail1 _ E3 D3 R3 L3))
end Mine
end

section
set_option genSizeOf false
set_option genSizeOfSpec false
open PySem PySem.W PyProof.Rows PySem.Calls
set_option Elab.async false
set_option maxRecDepth 100000
set_option linter.unusedVariables false
set_option linter.unusedSimpArgs false
namespace Mine
variable {g : G} {H : AHeap} {n : Nat} {Q : V → AHeap → Prop} {X : AHeap → Prop} {loc : Loc}

/-- the sizes are small -/
structure DirOk (d : Dir) : Prop where
  w : ∀ i, d.w = some i → 0 ≤ i ∧ i ≤ 1000
  p : ∀ i, d.p = some i → 0 ≤ i ∧ i ≤ 1000

noncomputable def signedB (d : Dir) (x : Int) : T := withPrec (digs 10 x.natAbs) d.p false

theorem c_signed (W : Fam g) {f fd : Addr} {d : Dir} {x : Int} (hn : 2 ≤ n) (D : DirAt H f fd d) (O : DirOk d) (hx : x.natAbs < 2 ^ 70)
    (hQ : ∀ a H', Ext H H' → H' a = some (.tup [.str (signAhead x d.fl), .str (signedB d x)]) → Q (.ref a) H') : CallSem g n "signed_parts" [.ref f, .int x] H Q X := by
  refine CallSem.mono (n := 1 + 1) (call_intro W.G W.D (W.fn ("signed_parts", F_signed_parts) (List.mem_of_getElem? (i := 19) rfl)) rfl ?_) hn
  show wpS g 1 b_signed_parts _ X [some (.ref f), some (.int x), none, none, none, none] H
  unfold b_signed_parts
  refine S_seq (S_ret ?_)
  skip
  refine D.get (by decide +kernel) (v := .str d.fl) rfl ?_
  refine c_sign W (Nat.le_refl _) ?_
  skip
  refine c_number_nn W (Nat.le_refl _) hx ?_
  refine D.get (by decide +kernel) (v := oV d.p) rfl ?_
  refine c_prec W (Nat.le_refl _) ?_ O.p ?_
  · exact Nat.le_trans (digs_len (by decide) 70 _ hx (by decide)) (by decide)
  · exact ⟨by rw [lim_val]; show 2 ≤ _; decide, fun b hb => hQ b _ (Ext.upd hb) (upd_same _ _ _)⟩

/-! ## the unsigned letters -/
noncomputable def baseOf (c : Nat) : Nat := if c = 117 ∨ c = 85 then 10 else if c = 111 ∨ c = 79 then 8 else if c = 120 ∨ c = 88 then 16 else 2
noncomputable def upC (c : Nat) : Nat := if 97 ≤ c ∧ c ≤ 122 then c - 32 else c
noncomputable def unsF (c N : Nat) : T := if c = 88 then (digs (baseOf c) N).map upC else digs (baseOf c) N
noncomputable def unsE (d : Dir) (c : Nat) : Bool := decide (baseOf c = 8) && decide (35 ∈ d.fl)
noncomputable def unsG (d : Dir) (c N : Nat) : T := if unsE d c = true ∧ (unsF c N)[0]? ≠ some 48 then 48 :: unsF c N else unsF c N
noncomputable def unsB (d : Dir) (c N : Nat) : T := withPrec (unsG d c N) d.p (unsE d c)
noncomputable def unsA (d : Dir) (c N : Nat) : T := if 35 ∈ d.fl then prefixOf c N else []

theorem dig_small {k : Nat} (h : k < 16) : dig k < 128 := by unfold dig; split <;> omega
theorem digs_mem {b : Nat} (hb : 2 ≤ b) : ∀ (n : Nat) {c : Nat}, c ∈ digs b n → ∃ k, k < b ∧ c = dig k := by
  intro n
  induction n using Nat.strongRecOn with
  | ind n ih =>
    intro c hc
    by_cases h : n < b
    · rw [digs_lt h] at hc
      exact ⟨n, h, List.mem_singleton.mp hc⟩
    · rw [digs_ge hb (by exact (Nat.not_lt.mp (by assumption)))] at hc
      rcases List.mem_append.mp hc with h1 | h1
      · exact ih _ (Nat.div_lt_self (by omega) (by exact (by assumption))) h1
      · exact ⟨n % b, Nat.mod_lt _ (by exact (Nat.le_of_lt (by assumption))), List.mem_singleton.mp h1⟩
theorem base_ok (c : Nat) : 2 ≤ baseOf c ∧ baseOf c ≤ 16 := by
  unfold baseOf
  split
  · decide
  · split
    · decide
    · split <;> decide
theorem unsF_len {c N : Nat} (hN : N < 2 ^ 70) : (unsF c N).length ≤ 70 := by
  unfold unsF
  split
  · rw [List.length_map]; exact digs_len (base_ok c).1 70 _ hN (by decide)
  · exact digs_len (base_ok c).1 70 _ hN (by decide)
theorem unsF_ne (c N : Nat) : unsF c N ≠ [] := by
  unfold unsF
  split
  · intro h; exact digs_ne _ _ (List.map_eq_nil_iff.mp h)
  · exact digs_ne _ _
theorem strs_single (h : Nat → Nat) : ∀ l : T, strs? (l.map fun c => V.str [h c]) = some (l.map fun c => [h c]) := by
  intro l
  induction l with
  | nil => rfl
  | cons c r ih => simp only [List.map_cons, strs?, ih, Option.map_some]
theorem flat_single (h : Nat → Nat) (l : T) : (l.map fun c => [h c]).flatten = l.map h := by
  induction l with
  | nil => rfl
  | cons c r ih => simp only [List.map_cons, List.flatten_cons, ih, List.cons_append, List.nil_append]
def isUns (c : Nat) : Prop := c ∈ [117, 85, 111, 79, 120, 88, 98, 66]
theorem base_look {c : Nat} (h : isUns c) : baseTab.lookup [c] = some (baseOf c : Int) := by
  unfold isUns at h
  simp only [List.mem_cons, List.not_mem_nil, or_false] at h
  rcases h with rfl | rfl | rfl | rfl | rfl | rfl | rfl | rfl <;> rfl

theorem c_unsigned (W : Fam g) {f fd : Addr} {d : Dir} {x : Int} {w c : Nat} (hn : 2 ≤ n) (D : DirAt H f fd d) (O : DirOk d) (hle : d.le = [c]) (hc : isUns c) (hw : w ≤ 64)
    (hQ : ∀ a H', Ext H H' → H' a = some (.tup [.str (unsA d c (x % 2 ^ w).toNat), .str (unsB d c (x % 2 ^ w).toNat)]) → Q (.ref a) H') : CallSem g n "unsigned_parts" [.ref f, .int x, .int w] H Q X := by
  refine CallSem.mono (n := 1 + 1) (call_intro W.G W.D (W.fn ("unsigned_parts", F_unsigned_parts) (List.mem_of_getElem? (i := 20) rfl)) rfl ?_) hn
  show wpS g 1 b_unsigned_parts _ X [some (.ref f), some (.int x), some (.int w), none, none, none, none, none, none, none, none] H
  unfold b_unsigned_parts
  have hpos : (0 : Int) < 2 ^ w := two_pos w
  have hlt : x % 2 ^ w < 2 ^ w := Int.emod_lt_of_pos _ hpos
  have hge : 0 ≤ x % 2 ^ w := Int.emod_nonneg _ (by exact (Int.ne_of_gt (by assumption)))
  have hle64 : (2 : Int) ^ w ≤ 2 ^ 64 := by
    have : (2 : Nat) ^ w ≤ 2 ^ 64 := Nat.pow_le_pow_right (by decide) hw
    have h2 : ((2 ^ w : Nat) : Int) ≤ ((2 ^ 64 : Nat) : Int) := by exact_mod_cast this
    trivial
  generalize hN : (x % 2 ^ w).toNat = N at hQ
  have eN : x % 2 ^ w = (N : Int) := by omega
  have hN70 : N < 2 ^ 70 := by
    have : (N : Int) < 2 ^ 64 := by omega
    have h3 : N < 2 ^ 64 := by exact_mod_cast this
    exact Nat.lt_trans h3 (by decide)
  refine S_seq (S_aug ?_)
  skip
  refine ⟨⟨by exact (Int.natCast_nonneg _), by omega, by decide⟩, by rw [Int.toNat_natCast, Int.one_mul]; exact hpos, ?_⟩
  rw [Int.toNat_natCast, Int.one_mul, eN]
  refine S_seq (S_set ?_)
  skip
  refine D.get (by decide +kernel) (v := .str [c]) (by rw [hle]; rfl) ?_
  refine S_seq (S_set ?_)
  simp only [ze1, ze2, ze4, ze13, List.getElem?_cons_zero, List.set_cons_zero, List.set_cons_succ]
  refine D.get (by decide +kernel) (v := .str d.fl) rfl ?_
  refine ⟨35, rfl, ?_⟩
  refine S_seq (S_set ?_)
  simp only [ze1, ze2, ze8, ze14, zl1, zl2, List.getElem?_cons_zero, List.getElem?_cons_succ, List.set_cons_zero, List.set_cons_succ, ku3]
  refine ⟨baseTab, _, .inr W.bases, base_look hc, ?_⟩
  refine c_base W (Nat.le_refl _) hN70 (base_ok c).1 (base_ok c).2 ?_
  have rest : ∀ H', Ext H H' → wpS g 1   (.seq (.assign (.loc 6) (.andv (.cmp .Eq (.sub (.lit (.ref LB)) (.loc 3)) (.lit (.int 8))) (.loc 4)))
  (.seq (.ite (.and (.cons (.val (.loc 6)) (.cons (.cmp .NotEq (.sub (.loc 5) (.lit (.int 0))) (.lit (.str [48]))) .nil)))
    (.seq (.assign (.loc 5) (.bin .Add (.lit (.str [48])) (.loc 5)))
    .nil)
    .nil)
  (.seq (.assign (.loc 5) (.call "with_precision" (.cons (.loc 5) (.cons (.attr (.loc 0) "precision") (.cons (.loc 6) .nil)))))
  (.seq (.ite (.val (.loc 4))
    (.seq (.ret (.tup (.cons (.call "prefix_of" (.cons (.loc 3) (.cons (.loc 1) .nil))) (.cons (.loc 5) .nil))))
    .nil)
    .nil)
  (.seq (.ret (.tup (.cons (.lit (.str [])) (.cons (.loc 5) .nil))))
  .nil))))) (fp Q) X [some (.ref f), some (.int N), some (.int w), some (.str [c]), some (.bool (decide (35 ∈ d.fl))), some (.str (unsF c N)), none, none, none, none, none] H' := by
    intro H' hE
    have D' := D.ext hE
    have fin : ∀ b : Bool, b = decide (35 ∈ d.fl) → wpS g 1 (.seq (.assign (.loc 5) (.call "with_precision" (.cons (.loc 5) (.cons (.attr (.loc 0) "precision") (.cons (.loc 6) .nil)))))
  (.seq (.ite (.val (.loc 4))
    (.seq (.ret (.tup (.cons (.call "prefix_of" (.cons (.loc 3) (.cons (.loc 1) .nil))) (.cons (.loc 5) .nil))))
    .nil)
    .nil)
  (.seq (.ret (.tup (.cons (.lit (.str [])) (.cons (.loc 5) .nil))))
  .nil))) (fp Q) X [some (.ref f), some (.int N), some (.int w), some (.str [c]), some (.bool b), some (.str (unsG d c N)), some (.bool (unsE d c)), none, none, none, none] H' := by
      intro b hb
      refine S_seq (S_set ?_)
      simp only [ze2, ze8, ze13, zl1, zl2, List.getElem?_cons_zero, List.getElem?_cons_succ, List.set_cons_zero, List.set_cons_succ]
      refine D'.get (by decide +kernel) (v := oV d.p) rfl ?_
      refine c_prec W (Nat.le_refl _) ?_ O.p ?_
      · have := unsF_len (c := c) hN70
        unfold unsG
        split
        · rw [List.length_cons]; exact (Nat.lt_of_le_of_lt (by assumption) (by decide))
        · exact (Nat.le_trans (by assumption) (by decide))
      refine S_seq (S_ite ?_)
      simp only [ze2, zt5, List.getElem?_cons_zero, List.getElem?_cons_succ, kt1]
      by_cases h35 : 35 ∈ d.fl
      · have : b = true := by rw [hb]; exact decide_eq_true h35
        subst this
        simp only [if_true]
        refine S_seq (S_ret ?_)
        skip
        refine c_prefix W (Nat.le_refl _) ?_
        refine ⟨by rw [lim_val]; show 2 ≤ _; decide, fun a ha => hQ a _ (hE.trans (Ext.upd ha)) ?_⟩
        rw [upd_same]; unfold unsA; rw [if_pos h35]; rfl
      · have : b = false := by rw [hb]; exact decide_eq_false h35
        subst this
        simp only [Bool.false_eq_true, if_false]
        refine S_nil (S_seq (S_ret ?_))
        skip
        refine ⟨by rw [lim_val]; show 2 ≤ _; decide, fun a ha => hQ a _ (hE.trans (Ext.upd ha)) ?_⟩
        rw [upd_same]; unfold unsA; rw [if_neg h35]; rfl
    generalize hb : decide (35 ∈ d.fl) = b
    refine S_seq (S_set ?_)
    simp only [ze1, ze2, ze4, ze6, ze14, List.getElem?_cons_zero, List.getElem?_cons_succ, List.set_cons_zero, List.set_cons_succ, ku3]
    refine ⟨baseTab, _, .inr W.bases, base_look hc, ?_⟩
    simp only [kc1, kt1]
    have hE8 : (if decide ((baseOf c : Int) = 8) = true then V.bool b else V.bool (decide ((baseOf c : Int) = 8))) = V.bool (unsE d c) := by
      unfold unsE
      rw [hb]
      by_cases h8 : baseOf c = 8
      · have : ((baseOf c : Int) = 8) := by omega
        simp [h8]
      · have : ¬ ((baseOf c : Int) = 8) := by omega
        simp [h8, this]
    have step : wpS g 1   (.seq (.ite (.and (.cons (.val (.loc 6)) (.cons (.cmp .NotEq (.sub (.loc 5) (.lit (.int 0))) (.lit (.str [48]))) .nil)))
    (.seq (.assign (.loc 5) (.bin .Add (.lit (.str [48])) (.loc 5)))
    .nil)
    .nil)
  (.seq (.assign (.loc 5) (.call "with_precision" (.cons (.loc 5) (.cons (.attr (.loc 0) "precision") (.cons (.loc 6) .nil)))))
  (.seq (.ite (.val (.loc 4))
    (.seq (.ret (.tup (.cons (.call "prefix_of" (.cons (.loc 3) (.cons (.loc 1) .nil))) (.cons (.loc 5) .nil))))
    .nil)
    .nil)
  (.seq (.ret (.tup (.cons (.lit (.str [])) (.cons (.loc 5) .nil))))
  .nil)))) (fp Q) X [some (.ref f), some (.int N), some (.int w), some (.str [c]), some (.bool b), some (.str (unsF c N)), some (.bool (unsE d c)), none, none, none, none] H' := by
      replace fin := fin b hb.symm
      refine S_seq (S_ite ?_)
      simp only [ze1, ze2, ze14, zt1, zt2, zt5, za1, za2, List.getElem?_cons_zero, List.getElem?_cons_succ, kt1]
      cases hE1 : unsE d c with
      | false =>
        simp only [Bool.false_eq_true, if_false]
        have : unsG d c N = unsF c N := by unfold unsG; rw [if_neg (by rw [hE1]; simp)]
        rw [this, hE1] at fin
        exact S_nil fin
      | true =>
        skip
        have hl := unsF_len (c := c) hN70
        cases hf : unsF c N with
        | nil => exact absurd hf (unsF_ne c N)
        | cons x r =>
          rw [hf] at hl
          refine ⟨by exact (Int.natCast_nonneg _), by rw [lim_val]; exact (le_lim (by assumption) (by decide)), x, rfl, ?_⟩
          by_cases hx : x = 48
          · subst hx
            simp only [ne_eq, not_true_eq_false, decide_false, kc8, Bool.false_eq_true, if_false]
            have : unsG d c N = unsF c N := by unfold unsG; rw [if_neg (by rw [hf]; simp)]
            rw [this, hE1, hf] at fin
            exact S_nil fin
          · have hx' : ([x] : T) ≠ [48] := fun z => hx (by injection z)
            simp only [hx', ne_eq, not_false_eq_true, decide_true, kc8, if_true]
            refine S_seq (S_set ?_)
            skip
            refine ⟨by rw [lim_val]; show 1 + _ ≤ _; omega, ?_⟩
            have : unsG d c N = 48 :: unsF c N := by unfold unsG; rw [if_pos ⟨hE1, by rw [hf]; simpa using hx⟩]
            rw [this, hE1, hf] at fin
            exact S_nil fin
    by_cases h8 : decide ((baseOf c : Int) = 8) = true
    · rw [if_pos h8] at hE8
      simp only [h8, if_true]
      rw [← hE8] at step; exact step
    · rw [if_neg h8] at hE8
      simp only [h8, Bool.false_eq_true, if_false]
      have h8' : decide ((baseOf c : Int) = 8) = false := by simpa using h8
      rw [h8'] at hE8
      rw [← hE8] at step; exact step
  have hl := digs_len (base_ok c).1 70 N hN70 (by decide)
  refine S_seq (S_ite ?_)
  simp only [ze1, ze2, zt1, List.getElem?_cons_zero, List.getElem?_cons_succ, kc2]
  by_cases h88 : c = 88
  · subst h88
    refine ite_t rfl ?_
    refine S_seq (S_set ?_)
    simp only [ze1, ze2, ze12, ze19, zl1, zl2, List.set_cons_zero, List.set_cons_succ]
    refine ⟨by simp [methOk], ?_⟩
    simp only [ze2, zi2]
    skip
    generalize hds : digs (baseOf 88) N = ds at *
    have hll : ds.length ≤ lim := by rw [lim_val]; exact (le_lim (by assumption) (by decide))
    refine ⟨hll, (by trivial), fun k acc H₂ => H₂ = H ∧ acc = (ds.take k).map (fun c => V.str [upC c]), ⟨rfl, rfl⟩, ?_, by rw [List.length_map]; exact hll, ?_⟩
    · rintro k acc H₂ v hv ⟨rfl, rfl⟩
      rw [List.getElem?_map] at hv
      cases hk : ds[k]? with
      | none => rw [hk] at hv; cases hv
      | some c =>
        rw [hk] at hv
        simp only [Option.map_some, Option.some.injEq] at hv
        subst hv
        skip
        refine ⟨by simp [methOk], c, rfl, ?_, rfl, ?_⟩
        · obtain ⟨j, hj, rfl⟩ := digs_mem (base_ok 88).1 N (hds ▸ List.mem_of_getElem? hk)
          exact dig_small (Nat.lt_of_lt_of_le hj (base_ok 88).2)
        · rw [List.take_add_one, hk]
          simp [upC]
    · rintro acc H₂ ⟨rfl, rfl⟩ -
      intro a ha
      rw [List.length_map, List.take_length]
      skip
      refine ⟨_, _, (by trivial), upd_same _ _ _, strs_single upC ds, by rw [List.length_map]; exact hll, by rw [flat_single, List.length_map]; exact hll, ?_⟩
      rw [flat_single]
      have := rest _ (Ext.upd (o := .list (ds.map fun c => V.str [upC c])) ha)
      unfold unsF at this
      rw [if_pos rfl, hds] at this
      exact S_nil this
  · have : ([c] : T) ≠ [88] := fun z => h88 (by injection z)
    refine ite_f (this) ?_
    have := rest H (Ext.refl _)
    unfold unsF at this
    rw [if_neg h88] at this
    exact S_nil this
end Mine
end

section
set_option genSizeOf false
set_option genSizeOfSpec false
open PySem PySem.W PyProof.Rows PySem.Calls
set_option Elab.async false
set_option maxRecDepth 100000
set_option linter.unusedVariables false
set_option linter.unusedSimpArgs false
namespace Mine
variable {g : G} {H : AHeap} {n : Nat} {Q : V → AHeap → Prop} {X : AHeap → Prop} {loc : Loc}

theorem wrapN_abs {x : Int} {w : Nat} (h : w ≤ 64) : (wrapN x w).natAbs < 2 ^ 70 := by
  have hpos : (0 : Int) < 2 ^ w := two_pos w
  have hlt : x % 2 ^ w < 2 ^ w := Int.emod_lt_of_pos _ hpos
  have hge : 0 ≤ x % 2 ^ w := Int.emod_nonneg _ (by exact (Int.ne_of_gt (by assumption)))
  have hle64 : (2 : Int) ^ w ≤ 2 ^ 64 := by
    have : (2 : Nat) ^ w ≤ 2 ^ 64 := Nat.pow_le_pow_right (by decide) h
    have h2 : ((2 ^ w : Nat) : Int) ≤ ((2 ^ 64 : Nat) : Int) := by exact_mod_cast this
    trivial
  unfold wrapN
  split <;> omega
theorem toNum_abs {v : V} {w : Nat} (hv : Plain v) (h : w ≤ 64) : (toNum v w).natAbs < 2 ^ 70 := by
  rcases hv with rfl | ⟨i, rfl, hi⟩ | ⟨t, rfl, ht⟩
  · show (0 : Int).natAbs < 2 ^ 70; decide
  · exact hi
  · exact wrapN_abs h
theorem toText_len {v : V} (hv : Plain v) : (toText v).length ≤ 1000 := by
  rcases hv with rfl | ⟨i, rfl, hi⟩ | ⟨t, rfl, ht⟩
  · show 0 ≤ 1000; decide
  · show (numText i).length ≤ 1000
    have := digs_len (b := 10) (by decide) 70 _ hi (by decide)
    unfold numText
    split
    · rw [List.length_cons]; exact (Nat.lt_of_le_of_lt (by assumption) (by decide))
    · exact (Nat.le_trans (by assumption) (by decide))
  · exact ht

noncomputable def textPart (d : Dir) (v : V) (w : Nat) : Option T :=
  if d.le = [99] then chrText (toNum v w) else some (match d.p with
    | none => toText v
    | some p => (toText v).take p.toNat)

theorem c_part (W : Fam g) {f fd l : Addr} {d : Dir} {v : V} {w : Nat} {tx : Int} (hn : 4 ≤ n) (D : DirAt H f fd d) (O : DirOk d) (hv : Plain v) (L : Lim H l w tx) (h1 : 1 ≤ w) (h2 : w ≤ 64)
    (hQ : ∀ t H', Ext H H' → textPart d v w = some t → Q (.str t) H') (hX : ∀ H', Ext H H' → textPart d v w = none → X H') : CallSem g n "text_part" [.ref f, v, .ref l] H Q X := by
  refine CallSem.mono (n := 3 + 1) (call_intro W.G W.D (W.fn ("text_part", F_text_part) (List.mem_of_getElem? (i := 21) rfl)) rfl ?_) hn
  show wpS g 3 b_text_part _ X [some (.ref f), some v, some (.ref l), none, none, none, none] H
  unfold b_text_part
  unfold textPart at hQ hX
  have htl := toText_len hv
  refine S_seq (S_ite ?_)
  simp only [ze1, ze2, ze13, zt1, List.getElem?_cons_zero]
  refine D.get (by decide +kernel) (v := .str d.le) rfl ?_
  simp only [kc2]
  by_cases hc : d.le = [99]
  · simp only [hc, if_true] at hQ hX
    simp only [hc, decide_true, if_true]
    refine S_seq (S_ret ?_)
    simp only [ze2, ze8, zl1, zl2, List.getElem?_cons_zero, List.getElem?_cons_succ]
    refine c_to_number W (Nat.le_refl _) hv L h1 h2 fun H' hE => ?_
    exact c_chr W (Nat.le_refl _) (fun t ht => hQ t _ hE ht) (fun ht => hX _ hE ht)
  · simp only [hc, if_false] at hQ
    simp only [hc, decide_false, Bool.false_eq_true, if_false]
    refine S_nil (S_seq (S_set ?_))
    simp only [ze2, ze8, zl1, zl2, List.getElem?_cons_zero, List.getElem?_cons_succ, List.set_cons_zero, List.set_cons_succ]
    refine c_to_text W (Nat.le_refl _) hv ?_
    refine S_seq (S_ite ?_)
    simp only [ze1, ze2, ze13, zt1, List.getElem?_cons_zero]
    refine D.get (by decide +kernel) (v := oV d.p) rfl ?_
    cases hp : d.p with
    | none =>
      simp only [kc14, oV, ne_eq, not_true_eq_false, decide_false, kc14, Bool.false_eq_true, if_false]
      refine S_nil (S_seq (S_ret ?_))
      simp only [ze2, List.getElem?_cons_zero, List.getElem?_cons_succ]
      exact hQ _ _ (Ext.refl _) (by rw [hp])
    | some p =>
      have := O.p _ hp
      simp only [kc14, oV, ne_eq, reduceCtorEq, not_false_eq_true, decide_true, kc14, if_true]
      refine S_seq (S_set ?_)
      simp only [ze1, ze2, ze13, ze15, List.getElem?_cons_zero, List.getElem?_cons_succ, List.set_cons_zero, List.set_cons_succ]
      refine D.get (by decide +kernel) (v := .int p) (by rw [hp]; rfl) ?_
      refine ⟨by rw [lim_val]; exact (le_lim (by assumption) (by decide)), (toText v).take p.toNat, ?_, ?_⟩
      · show (if 0 ≤ p ∧ p ≤ 2 ^ 62 then some ((toText v).take p.toNat) else none) = _
        rw [if_pos ⟨by omega, by omega⟩]
      · refine S_nil (S_seq (S_ret ?_))
        simp only [ze2, List.getElem?_cons_zero, List.getElem?_cons_succ]
        exact hQ _ _ (Ext.refl _) (by rw [hp])

/-! ## laid out -/
noncomputable def gapOf (d : Dir) (a b : T) : Nat := match d.w with
  | none => 0
  | some w => (w - a.length - b.length).toNat
noncomputable def laid (d : Dir) (a b : T) (fill : Bool) : T :=
  if 45 ∈ d.fl then a ++ b ++ List.replicate (gapOf d a b) 32 else if 48 ∈ d.fl ∧ fill = true then a ++ List.replicate (gapOf d a b) 48 ++ b else List.replicate (gapOf d a b) 32 ++ a ++ b

theorem gap_le {d : Dir} {a b : T} (O : DirOk d) : gapOf d a b ≤ 1000 := by
  unfold gapOf
  split
  · decide
  · rename_i w hw
    have := O.w _ hw
    omega

theorem c_laid (W : Fam g) {f fd : Addr} {d : Dir} {a b : T} {fill : Bool} (hn : 1 ≤ n) (D : DirAt H f fd d) (O : DirOk d) (ha : a.length ≤ 100) (hb : b.length ≤ 2000)
    (hQ : Q (.str (laid d a b fill)) H) : CallSem g n "laid_out" [.ref f, .str a, .str b, .bool fill] H Q X := by
  refine CallSem.mono (n := 0 + 1) (call_intro W.G W.D (W.fn ("laid_out", F_laid_out) (List.mem_of_getElem? (i := 22) rfl)) rfl ?_) hn
  show wpS g 0 b_laid_out _ X [some (.ref f), some (.str a), some (.str b), some (.bool fill), none, none, none] H
  unfold b_laid_out
  unfold laid at hQ
  have hg := gap_le (a := a) (b := b) O
  have la : a.length ≤ lim := by rw [lim_val]; exact (le_lim (by assumption) (by decide))
  have lb : b.length ≤ lim := by rw [lim_val]; exact (le_lim (by assumption) (by decide))
  refine S_seq (S_set ?_)
  simp only [ze1, List.set_cons_zero, List.set_cons_succ]
  have tail : wpS g 0   (.seq (.ite (.cmp .In (.lit (.str [45])) (.attr (.loc 0) "flags"))
    (.seq (.ret (.bin .Add (.bin .Add (.loc 1) (.loc 2)) (.bin .Mult (.lit (.str [32])) (.loc 4))))
    .nil)
    .nil)
  (.seq (.ite (.and (.cons (.cmp .In (.lit (.str [48])) (.attr (.loc 0) "flags")) (.cons (.val (.loc 3)) .nil)))
    (.seq (.ret (.bin .Add (.bin .Add (.loc 1) (.bin .Mult (.lit (.str [48])) (.loc 4))) (.loc 2)))
    .nil)
    .nil)
  (.seq (.ret (.bin .Add (.bin .Add (.bin .Mult (.lit (.str [32])) (.loc 4)) (.loc 1)) (.loc 2)))
  .nil))) (fp Q) X [some (.ref f), some (.str a), some (.str b), some (.bool fill), some (.int (gapOf d a b)), none, none] H := by
    have m1 : ∀ c : Nat, ([c] : T).length = 1 ∧ ((gapOf d a b : Nat) : Int) ≤ lim ∧ -(lim : Int) ≤ ((gapOf d a b : Nat) : Int) := fun c => ⟨rfl, by rw [lim_val]; exact (Int.ofNat_le.mpr (Nat.le_trans (by assumption) (by decide))), by rw [lim_val]; exact (Int.natCast_nonneg _)⟩
    refine S_seq (S_ite ?_)
    simp only [ze1, ze2, ze13, zt1, List.getElem?_cons_zero]
    refine D.get (by decide +kernel) (v := .str d.fl) rfl ?_
    refine ⟨45, rfl, ?_⟩
    by_cases h45 : 45 ∈ d.fl
    · rw [if_pos h45] at hQ
      simp only [h45, decide_true, if_true]
      refine S_seq (S_ret ?_)
      simp only [ze1, ze2, ze3, List.getElem?_cons_zero, List.getElem?_cons_succ, kb2, kb6, Int.toNat_natCast, List.headD_cons]
      exact ⟨by rw [lim_val]; omega, m1 32, by rw [List.length_append, List.length_replicate, lim_val]; omega, hQ⟩
    · rw [if_neg h45] at hQ
      simp only [h45, decide_false, Bool.false_eq_true, if_false]
      refine S_nil (S_seq (S_ite ?_))
      have last : ¬ (48 ∈ d.fl ∧ fill = true) → wpS g 0 (.seq (.ret (.bin .Add (.bin .Add (.bin .Mult (.lit (.str [32])) (.loc 4)) (.loc 1)) (.loc 2))) .nil)
          (fp Q) X [some (.ref f), some (.str a), some (.str b), some (.bool fill), some (.int (gapOf d a b)), none, none] H := by
        intro h
        rw [if_neg h] at hQ
        refine S_seq (S_ret ?_)
        simp only [ze1, ze2, ze3, List.getElem?_cons_zero, List.getElem?_cons_succ, kb2, kb6, Int.toNat_natCast, List.headD_cons]
        exact ⟨m1 32, by rw [List.length_replicate, lim_val]; omega, by rw [List.length_append, List.length_replicate, lim_val]; omega, hQ⟩
      simp only [ze1, ze2, ze13, zt1, zt2, zt5, za1, za2, List.getElem?_cons_zero, List.getElem?_cons_succ]
      refine D.get (by decide +kernel) (v := .str d.fl) rfl ?_
      refine ⟨48, rfl, ?_⟩
      by_cases h48 : 48 ∈ d.fl
      · simp only [h48, decide_true, kt1, if_true, kt1]
        cases fill with
        | true =>
          rw [if_pos ⟨h48, rfl⟩] at hQ
          simp only [if_true]
          refine S_seq (S_ret ?_)
          simp only [ze1, ze2, ze3, List.getElem?_cons_zero, List.getElem?_cons_succ, kb2, kb6, Int.toNat_natCast, List.headD_cons]
          exact ⟨m1 48, by rw [List.length_replicate, lim_val]; omega, by rw [List.length_append, List.length_replicate, lim_val]; omega, hQ⟩
        | false =>
          simp only [Bool.false_eq_true, if_false]
          exact S_nil (last (by simp))
      · simp only [h48, decide_false, kt1, Bool.false_eq_true, if_false]
        exact S_nil (last (by simp [h48]))
  refine S_seq (S_ite ?_)
  simp only [ze1, ze2, ze13, zt1, List.getElem?_cons_zero]
  refine D.get (by decide +kernel) (v := oV d.w) rfl ?_
  unfold gapOf at tail
  cases hw : d.w with
  | none =>
    simp only [kc14, oV, ne_eq, not_true_eq_false, decide_false, kc14, Bool.false_eq_true, if_false]
    rw [hw] at tail
    exact S_nil tail
  | some w =>
    simp only [kc14, oV, ne_eq, reduceCtorEq, not_false_eq_true, decide_true, kc14, if_true]
    refine S_seq (S_set ?_)
    simp only [ze1, ze2, ze3, ze10, ze13, zl1, zl2, List.getElem?_cons_zero, List.getElem?_cons_succ, List.set_cons_zero, List.set_cons_succ]
    refine D.get (by decide +kernel) (v := .int w) (by rw [hw]; rfl) ?_
    simp only [kb4, kf1, kf3]
    refine ⟨la, lb, ?_⟩
    rw [hw] at tail
    have e : max (w - ↑a.length - ↑b.length) 0 = (((w - ↑a.length - ↑b.length).toNat : Nat) : Int) := by omega
    rw [e]
    exact S_nil tail

/-! ## a directive's text -/
noncomputable def dirText (d : Dir) (v : V) (w : Nat) : Option T :=
  if d.le = [99] ∨ d.le = [115] then (textPart d v w).map fun t => laid d [] t true
  else if d.le = [100] ∨ d.le = [105] ∨ d.le = [68] then some (laid d (signAhead (toNum v w) d.fl) (signedB d (toNum v w)) d.p.isNone)
  else some (laid d (unsA d (d.le.headD 0) (toNum v w % 2 ^ w).toNat) (unsB d (d.le.headD 0) (toNum v w % 2 ^ w).toNat) d.p.isNone)

theorem unsB_len {d : Dir} {c N : Nat} (O : DirOk d) (hN : N < 2 ^ 70) : (unsB d c N).length ≤ 1100 := by
  have := unsF_len (c := c) hN
  unfold unsB
  refine withPrec_len ?_ O.p
  unfold unsG
  split
  · rw [List.length_cons]; exact (Nat.lt_of_le_of_lt (by assumption) (by decide))
  · exact (Nat.le_trans (by assumption) (by decide))
theorem unsA_len {d : Dir} {c N : Nat} : (unsA d c N).length ≤ 100 := by
  unfold unsA prefixOf
  split
  · split
    · decide
    · show 2 ≤ 100; decide
  · decide

theorem c_dirText (W : Fam g) {f fd l : Addr} {d : Dir} {v : V} {w c : Nat} {tx : Int} (hn : 5 ≤ n) (D : DirAt H f fd d) (O : DirOk d) (hv : Plain v) (L : Lim H l w tx) (h1 : 1 ≤ w) (h2 : w ≤ 64)
    (hle : d.le = [c]) (hlet : isLetter c = true)
    (hQ : ∀ t H', Ext H H' → dirText d v w = some t → Q (.str t) H') (hX : ∀ H', Ext H H' → dirText d v w = none → X H') : CallSem g n "directive_text" [.ref f, v, .ref l] H Q X := by
  refine CallSem.mono (n := 4 + 1) (call_intro W.G W.D (W.fn ("directive_text", F_directive_text) (List.mem_of_getElem? (i := 23) rfl)) rfl ?_) hn
  show wpS g 4 b_directive_text _ X [some (.ref f), some v, some (.ref l), none, none, none, none, none, none, none, none, none] H
  unfold b_directive_text
  unfold dirText at hQ hX
  rw [hle] at hQ hX
  have hlc : c ∈ [99, 115, 100, 105, 68, 117, 85, 111, 79, 120, 88, 98, 66] := of_decide_eq_true hlet
  refine S_seq (S_ite ?_)
  simp only [ze1, ze2, ze13, zt1, List.getElem?_cons_zero]
  refine D.get (by decide +kernel) (v := .str d.le) rfl ?_
  rw [hle]
  refine ⟨c, rfl, ?_⟩
  by_cases hcs : c ∈ [99, 115]
  · have hcs' : ([c] : T) = [99] ∨ ([c] : T) = [115] := by
      simp only [List.mem_cons, List.not_mem_nil, or_false] at hcs
      rcases hcs with rfl | rfl
      · exact .inl rfl
      · exact .inr rfl
    rw [if_pos hcs'] at hQ hX
    simp only [hcs, decide_true, if_true]
    refine S_seq (S_ret ?_)
    simp only [ze1, ze2, ze8, zl1, zl2, List.getElem?_cons_zero, List.getElem?_cons_succ]
    refine c_part W (Nat.le_refl _) D O hv L h1 h2 (fun t H' hE ht => ?_) (fun H' hE ht => hX _ hE (by rw [ht]; rfl))
    refine c_laid W (by exact (by decide)) (D.ext hE) O (by decide) ?_ (hQ _ _ hE (by rw [ht]; rfl))
    unfold textPart at ht
    have hl := toText_len hv
    split at ht
    · unfold chrText at ht
      split at ht
      · cases ht; decide
      · split at ht
        · cases ht
        · cases ht; show 1 ≤ 2000; decide
    · cases ht
      split
      · exact (Nat.le_trans (by assumption) (by decide))
      · rw [List.length_take]; omega
  · have hcs' : ¬ (([c] : T) = [99] ∨ ([c] : T) = [115]) := by
      rintro (h | h)
      · injection h with h; exact hcs (by simp [h])
      · injection h with h; exact hcs (by simp [h])
    rw [if_neg hcs'] at hQ hX
    simp only [hcs, decide_false, Bool.false_eq_true, if_false]
    refine S_nil (S_seq (S_set ?_))
    simp only [ze2, ze8, zl1, zl2, List.getElem?_cons_zero, List.getElem?_cons_succ, List.set_cons_zero, List.set_cons_succ]
    refine c_to_number W (by exact (by decide)) hv L h1 h2 fun H1 hE1 => ?_
    have D1 := D.ext hE1
    have L1 := L.ext hE1
    have hxa := toNum_abs hv h2
    generalize toNum v w = x at *
    refine S_seq (S_ite ?_)
    simp only [ze1, ze2, ze13, zt1, List.getElem?_cons_zero]
    refine D1.get (by decide +kernel) (v := .str d.le) rfl ?_
    rw [hle]
    refine ⟨c, rfl, ?_⟩
    by_cases hs : c ∈ [100, 105, 68]
    · have hs' : ([c] : T) = [100] ∨ ([c] : T) = [105] ∨ ([c] : T) = [68] := by
        simp only [List.mem_cons, List.not_mem_nil, or_false] at hs
        rcases hs with rfl | rfl | rfl
        · exact .inl rfl
        · exact .inr (.inl rfl)
        · exact .inr (.inr rfl)
      rw [if_pos hs'] at hQ
      simp only [hs, decide_true, if_true]
      refine S_seq (S_tup ?_)
      simp only [ze2, ze8, zl1, zl2, List.getElem?_cons_zero, List.getElem?_cons_succ]
      refine c_signed W (by exact (by decide)) D1 O hxa fun a H2 hE2 ha => ?_
      refine ⟨_, ha, rfl, by rw [lim_val]; show 2 ≤ _; decide, ?_⟩
      simp only [zL1, zL2, zk1, List.set_cons_zero, List.set_cons_succ]
      have D2 := D1.ext hE2
      refine S_nil (S_seq (S_ret ?_))
      simp only [ze1, ze2, ze4, ze8, ze13, zl1, zl2, List.getElem?_cons_zero, List.getElem?_cons_succ]
      refine D2.get (by decide +kernel) (v := oV d.p) rfl ?_
      have := digs_len (b := 10) (by decide) 70 _ hxa (by decide)
      have hb := withPrec_len (f := digs 10 x.natAbs) (k := false) (by exact (Nat.le_trans (by assumption) (by decide))) O.p
      simp only [kc13]
      refine c_laid W (by exact (by decide)) D2 O ?_ (by unfold signedB; exact (Nat.le_trans (by assumption) (by decide))) ?_
      · unfold signAhead
        split
        · decide
        · split
          · decide
          · split <;> decide
      · refine hQ _ _ (hE1.trans hE2) ?_
        cases d.p <;> simp [oV]
    · have hs' : ¬ (([c] : T) = [100] ∨ ([c] : T) = [105] ∨ ([c] : T) = [68]) := by
        rintro (h | h | h)
        · injection h with h; exact hs (by simp [h])
        · injection h with h; exact hs (by simp [h])
        · injection h with h; exact hs (by simp [h])
      rw [if_neg hs'] at hQ
      simp only [hs, decide_false, Bool.false_eq_true, if_false]
      have hu : isUns c := by
        rcases List.mem_append.mp (show c ∈ [99, 115] ++ ([100, 105, 68] ++ [117, 85, 111, 79, 120, 88, 98, 66]) from hlc) with h | h
        · exact absurd h hcs
        · rcases List.mem_append.mp h with h | h
          · exact absurd h hs
          · exact h
      refine S_seq (S_tup ?_)
      simp only [ze2, ze8, ze13, zl1, zl2, List.getElem?_cons_zero, List.getElem?_cons_succ]
      refine L1.width ?_
      refine c_unsigned W (by exact (by decide)) D1 O hle hu h2 fun a H2 hE2 ha => ?_
      refine ⟨_, ha, rfl, by rw [lim_val]; show 2 ≤ _; decide, ?_⟩
      simp only [zL1, zL2, zk1, List.set_cons_zero, List.set_cons_succ]
      have D2 := D1.ext hE2
      refine S_nil (S_seq (S_ret ?_))
      simp only [ze1, ze2, ze4, ze8, ze13, zl1, zl2, List.getElem?_cons_zero, List.getElem?_cons_succ]
      refine D2.get (by decide +kernel) (v := oV d.p) rfl ?_
      have hN70 : (x % 2 ^ w).toNat < 2 ^ 70 := by
        have hpos : (0 : Int) < 2 ^ w := two_pos w
        have hlt : x % 2 ^ w < 2 ^ w := Int.emod_lt_of_pos _ hpos
        have hle64 : (2 : Int) ^ w ≤ 2 ^ 64 := by
          have : (2 : Nat) ^ w ≤ 2 ^ 64 := Nat.pow_le_pow_right (by decide) h2
          have h2 : ((2 ^ w : Nat) : Int) ≤ ((2 ^ 64 : Nat) : Int) := by exact_mod_cast this
          simpa using h2
        omega
      have hb := unsB_len (c := c) O hN70
      simp only [kc13]
      refine c_laid W (by exact (by decide)) D2 O unsA_len (by exact (Nat.le_trans (by assumption) (by decide))) ?_
      · refine hQ _ _ (hE1.trans hE2) ?_
        cases d.p <;> simp [oV]
end Mine
end

section
set_option genSizeOf false
set_option genSizeOfSpec false
open PySem PySem.W PyProof.Rows PySem.Calls
set_option Elab.async false
set_option maxRecDepth 100000
set_option linter.unusedVariables false
set_option linter.unusedSimpArgs false
namespace Mine
variable {g : G} {H : AHeap} {n : Nat} {Q : V → AHeap → Prop} {X : AHeap → Prop} {loc : Loc}

/-! ## what was read is in order -/
theorem figV_nonneg_or (ds : T) : figV ds = -1 ∨ 0 ≤ figV ds := by
  unfold figV
  have : ∀ (l : T) (a : Int), (a = -1 ∨ 0 ≤ a) → (l.foldl (fun acc c => max acc 0 * 10 + ((c - 48 : Nat) : Int)) a = -1 ∨ 0 ≤ l.foldl (fun acc c => max acc 0 * 10 + ((c - 48 : Nat) : Int)) a) := by
    intro l
    induction l with
    | nil => intro a h; exact h
    | cons c r ih =>
      intro a h
      rw [List.foldl_cons]
      exact ih _ (.inr (by omega))
  exact this ds (-1) (.inl rfl)
theorem readSize_nn {t : T} {i : Nat} {z : Int} (h : (readSize t i).1 = some z) : 0 ≤ z := by
  unfold readSize at h
  split at h
  · cases h
  · split at h
    · cases h
    · cases h; exact (Int.not_lt.mp (by assumption))
theorem readSize_ge (t : T) (i : Nat) : i ≤ (readSize t i).2.2 := by
  unfold readSize
  split
  · show i ≤ (indexAt t (i + 1)).2
    unfold indexAt
    split
    · have := run_ge isFig t (i + 1)
      show i ≤ run isFig t (i + 1) + 1
      omega
    · show i ≤ i + 1; omega
  · split
    · exact Nat.le_refl _
    · exact run_ge _ _ _
theorem indexAt_ge (t : T) (i : Nat) : i ≤ (indexAt t i).2 := by
  unfold indexAt
  split
  · have := run_ge isFig t i
    show i ≤ run isFig t i + 1
    omega
  · exact Nat.le_refl _
theorem rdLetter_ge (t : T) (i : Nat) : i ≤ rdLetter t i := by
  have h1 : i ≤ rdFlags t i := indexAt_ge t i
  have h2 : rdFlags t i ≤ rdWidth t i := run_ge _ _ _
  have h3 : rdWidth t i ≤ rdPoint t i := readSize_ge _ _
  have h4 : rdPoint t i ≤ (rdPrec t i).2.2 := by
    unfold rdPrec
    split
    · have := readSize_ge t (rdPoint t i + 1)
      show rdPoint t i ≤ (readSize t (rdPoint t i + 1)).2.2
      exact (Nat.le_of_lt (by assumption))
    · exact Nat.le_refl _
  have h5 : (rdPrec t i).2.2 ≤ rdLetter t i := run_ge _ _ _
  omega
theorem rdDir_w {t : T} {i : Nat} {z : Int} (h : (rdDir t i).w = some z) : 0 ≤ z := readSize_nn h
theorem rdDir_p {t : T} {i : Nat} {z : Int} (h : (rdDir t i).p = some z) : 0 ≤ z := by
  change (rdPrec t i).1 = some z at h
  unfold rdPrec at h
  split at h
  · dsimp only at h
    split at h
    · cases h; decide
    · exact readSize_nn h
  · cases h
theorem rdLe_cases (t : T) (i : Nat) : (rdDir t i).le = [] ∨ ∃ c, (rdDir t i).le = [c] ∧ isLetter c = true := by
  show rdLe t i = [] ∨ ∃ c, rdLe t i = [c] ∧ isLetter c = true
  unfold rdLe
  split
  · split
    · rename_i c _ h; exact .inr ⟨c, rfl, h⟩
    · exact .inl rfl
  · exact .inl rfl
theorem rdFl_len {t : T} {i : Nat} : (rdDir t i).fl.length ≤ t.length := by
  show ((t.take (rdWidth t i)).drop (rdFlags t i)).length ≤ t.length
  rw [List.length_drop, List.length_take]; omega

theorem stars_le (d : Dir) (vs : List V) (k w : Nat) : (stars d vs k w).1.le = d.le := by
  have h1 : (starW d vs k w).1.le = d.le := by
    unfold starW
    split
    · rfl
    · dsimp only; split <;> rfl
  have h2 : ∀ (d : Dir) (k : Nat), (starP d vs k w).1.le = d.le := by
    intro d k
    unfold starP
    split <;> rfl
  unfold stars
  rw [h2, h1]
theorem stars_ix (d : Dir) (vs : List V) (k w : Nat) : (stars d vs k w).1.ix = d.ix := by
  have h1 : (starW d vs k w).1.ix = d.ix := by
    unfold starW
    split
    · rfl
    · dsimp only; split <;> rfl
  have h2 : ∀ (d : Dir) (k : Nat), (starP d vs k w).1.ix = d.ix := by
    intro d k
    unfold starP
    split <;> rfl
  unfold stars
  rw [h2, h1]
theorem stars_ok {d : Dir} {vs : List V} {k w : Nat} {tx : Int} (hw : ∀ z, d.w = some z → 0 ≤ z) (hp : ∀ z, d.p = some z → 0 ≤ z) (ht : tx ≤ 1000) (hb : bigDir (stars d vs k w).1 tx = false) : DirOk (stars d vs k w).1 := by
  unfold bigDir at hb
  rw [Bool.or_eq_false_iff] at hb
  obtain ⟨b1, b2⟩ := hb
  have n1 : ∀ z, (starW d vs k w).1.w = some z → 0 ≤ z := by
    intro z
    unfold starW
    split
    · exact hw z
    · dsimp only
      split
      · intro h; cases h; omega
      · intro h; cases h; exact (Int.not_lt.mp (by assumption))
  have n1p : ∀ z, (starW d vs k w).1.p = some z → 0 ≤ z := by
    intro z
    unfold starW
    split
    · exact hp z
    · dsimp only
      split <;> exact hp z
  have n2 : ∀ z, (stars d vs k w).1.w = some z → 0 ≤ z := by
    intro z
    unfold stars starP
    split
    · exact n1 z
    · exact n1 z
  have n3 : ∀ z, (stars d vs k w).1.p = some z → 0 ≤ z := by
    intro z
    unfold stars starP
    split
    · exact n1p z
    · dsimp only
      split
      · intro h; cases h
      · intro h; cases h; exact (Int.not_lt.mp (by assumption))
  refine ⟨fun i hi => ⟨n2 i hi, ?_⟩, fun i hi => ⟨n3 i hi, ?_⟩⟩
  · rw [hi] at b1
    have := of_decide_eq_false b1
    omega
  · rw [hi] at b2
    have := of_decide_eq_false b2
    omega

/-! ## the whole -/
noncomputable def dirF (t : T) (vs : List V) (w : Nat) (tx : Int) (i k : Nat) : Option T :=
  if bigDir (stars (rdDir t i) vs k w).1 tx = true then none
  else dirText (stars (rdDir t i) vs k w).1 (takeV vs (stars (rdDir t i) vs k w).2 (rdDir t i).ix) w
noncomputable def stepF (t : T) (vs : List V) (w : Nat) (tx : Int) (i k : Nat) : Option T × Nat × Nat :=
  if t[i]? = some 37 ∧ t[i + 1]? = some 37 then (some [37], i + 2, k)
  else if t[i]? = some 37 then
    (if (rdDir t (i + 1)).le = [] then (some ((t.take (rdEnd t (i + 1))).drop i), rdEnd t (i + 1), k)
     else (dirF t vs w tx (i + 1) k, rdEnd t (i + 1), nextK (stars (rdDir t (i + 1)) vs k w).2 (rdDir t (i + 1)).ix))
  else (some (t[i]?).toList, i + 1, k)
noncomputable def fmtGo (t : T) (vs : List V) (w : Nat) (tx : Int) (i k : Nat) (size : Int) : Option (List T) :=
  if i < t.length then
    match (stepF t vs w tx i k).1 with
    | none => none
    | some p => if tx < size + p.length then none else (fmtGo t vs w tx (max (i + 1) (stepF t vs w tx i k).2.1) (stepF t vs w tx i k).2.2 (size + p.length)).map (p :: ·)
  else some []
termination_by t.length - i
decreasing_by omega
noncomputable def fmt (t : T) (vs : List V) (w : Nat) (tx : Int) : Option T := (fmtGo t vs w tx 0 0 0).map List.flatten

theorem strs_map : ∀ l : List T, strs? (l.map V.str) = some l := by
  intro l
  induction l with
  | nil => rfl
  | cons c r ih => simp only [List.map_cons, strs?, ih, Option.map_some]
theorem Ext.none {H H' : AHeap} (h : Ext H H') {a : Addr} (e : H' a = none) : H a = none := by
  cases hh : H a with
  | none => rfl
  | some o => rw [h _ _ hh] at e; cases e

/-- the state of the walk over the template -/
structure FSt (H : AHeap) (G' : AHeap) (t : T) (vs : List V) (w : Nat) (tx : Int) (vl l r rd o : Addr) (i k : Nat) (size : Int) (parts : List T) : Prop where
  ext : Ext H G'
  row : Row G' r rd vl vs k
  lim : Lim G' l w tx
  out : G' o = some (.list (parts.map V.str))
  sz : size = (parts.flatten.length : Int) ∧ size ≤ tx
  pl : parts.length ≤ i ∧ i ≤ t.length
  res : (fmtGo t vs w tx i k size).map (parts ++ ·) = fmtGo t vs w tx 0 0 0

theorem FSt.die {G' : AHeap} {t : T} {vs : List V} {w : Nat} {tx : Int} {vl l r rd o : Addr} {i k : Nat} {size : Int} {parts : List T} (S : FSt H G' t vs w tx vl l r rd o i k size parts) (h : fmtGo t vs w tx i k size = none) : fmt t vs w tx = none := by
  unfold fmt
  rw [← S.res, h]; rfl
end Mine
end

section
set_option genSizeOf false
set_option genSizeOfSpec false
open PySem PySem.W PyProof.Rows PySem.Calls
set_option Elab.async false
set_option maxRecDepth 100000
set_option linter.unusedVariables false
set_option linter.unusedSimpArgs false
namespace Mine
variable {g : G} {H : AHeap} {n : Nat} {Q : V → AHeap → Prop} {X : AHeap → Prop} {loc : Loc}

theorem FSt.keep {G' : AHeap} {t : T} {vs : List V} {w : Nat} {tx : Int} {vl l r rd o : Addr} {i k : Nat} {size : Int} {parts : List T} (S : FSt H G' t vs w tx vl l r rd o i k size parts) {G'' : AHeap} (h : Ext G' G'') : FSt H G'' t vs w tx vl l r rd o i k size parts :=
  ⟨S.ext.trans h, S.row.ext h, S.lim.ext h, h _ _ S.out, S.sz, S.pl, S.res⟩

theorem flat_len_le {parts : List T} : ∀ p ∈ parts, p.length ≤ parts.flatten.length := by
  induction parts with
  | nil => intro p h; cases h
  | cons a r ih =>
    intro p h
    rw [List.flatten_cons, List.length_append]
    rcases List.mem_cons.mp h with rfl | h
    · omega
    · have := ih p h; omega

theorem Row.keepL {o r rd vl : Addr} {vs : List V} {k : Nat} {q : List V} {x : AObj} (R : Row H r rd vl vs k) (ho : H o = some (.list q)) (hne : vl ≠ o) : Row (Mine.upd H o x) r rd vl vs k := by
  have h1 : r ≠ o := fun e => by have := R.i; rw [e, ho] at this; cases this
  have h2 : rd ≠ o := fun e => by have := R.d; rw [e, ho] at this; cases this
  exact ⟨by rw [upd_ne _ _ h1]; exact R.i, by rw [upd_ne _ _ h2]; exact R.d, by rw [upd_ne _ _ hne]; exact R.v, R.len⟩
theorem Lim.keepL {o l : Addr} {w : Nat} {tx : Int} {q : List V} {x : AObj} (L : Lim H l w tx) (ho : H o = some (.list q)) : Lim (Mine.upd H o x) l w tx := by
  obtain ⟨dd, a, b, c, h1, h2⟩ := L.ex
  refine ⟨dd, a, b, c, ?_, ?_⟩
  · rw [upd_ne]; exact h1
    intro e; rw [e, ho] at h1; cases h1
  · rw [upd_ne]; exact h2
    intro e; rw [e, ho] at h2; cases h2

theorem laid_len {d : Dir} {a b : T} {f : Bool} (O : DirOk d) : (laid d a b f).length ≤ a.length + b.length + 1000 := by
  have := gap_le (a := a) (b := b) O
  unfold laid
  split
  · simp only [List.length_append, List.length_replicate]; exact (Nat.add_le_add_left (by assumption) _)
  · split
    · simp only [List.length_append, List.length_replicate]; omega
    · simp only [List.length_append, List.length_replicate]; omega
theorem textPart_len {d : Dir} {v : V} {w : Nat} {t : T} (hv : Plain v) (h : textPart d v w = some t) : t.length ≤ 1000 := by
  have hl := toText_len hv
  unfold textPart at h
  split at h
  · unfold chrText at h
    split at h
    · cases h; decide
    · split at h
      · cases h
      · cases h; show 1 ≤ 1000; decide
  · cases h
    split
    · exact (by assumption)
    · rw [List.length_take]; exact (Nat.le_trans (Nat.min_le_right _ _) (by assumption))
theorem dirText_len {d : Dir} {v : V} {w : Nat} {t : T} (O : DirOk d) (hv : Plain v) (h2 : w ≤ 64) (h : dirText d v w = some t) : t.length ≤ 5000 := by
  have hxa := toNum_abs hv h2
  unfold dirText at h
  split at h
  · cases e : textPart d v w with
    | none => rw [e] at h; cases h
    | some q =>
      rw [e] at h
      cases h
      have := laid_len (a := []) (b := q) (f := true) O
      have h4 := textPart_len hv e
      have : ([] : T).length = 0 := rfl
      show (laid d [] q true).length ≤ 5000
      omega
  · split at h
    · cases h
      have := laid_len (a := signAhead (toNum v w) d.fl) (b := signedB d (toNum v w)) (f := d.p.isNone) O
      have h5 := digs_len (b := 10) (by decide) 70 _ hxa (by decide)
      have hb : (signedB d (toNum v w)).length ≤ 1100 := withPrec_len (by exact (Nat.le_trans (by assumption) (by decide))) O.p
      have ha : (signAhead (toNum v w) d.fl).length ≤ 1 := by
        unfold signAhead
        split
        · decide
        · split
          · decide
          · split <;> decide
      omega
    · cases h
      have hN70 : (toNum v w % 2 ^ w).toNat < 2 ^ 70 := by
        have hpos : (0 : Int) < 2 ^ w := two_pos w
        have hlt : toNum v w % 2 ^ w < 2 ^ w := Int.emod_lt_of_pos _ hpos
        have hle64 : (2 : Int) ^ w ≤ 2 ^ 64 := by
          have : (2 : Nat) ^ w ≤ 2 ^ 64 := Nat.pow_le_pow_right (by decide) h2
          have h2 : ((2 ^ w : Nat) : Int) ≤ ((2 ^ 64 : Nat) : Int) := by exact_mod_cast this
          trivial
        omega
      have := laid_len (a := unsA d (d.le.headD 0) (toNum v w % 2 ^ w).toNat) (b := unsB d (d.le.headD 0) (toNum v w % 2 ^ w).toNat) (f := d.p.isNone) O
      have hb := unsB_len (c := d.le.headD 0) O hN70
      have ha := unsA_len (d := d) (c := d.le.headD 0) (N := (toNum v w % 2 ^ w).toNat)
      omega

theorem c_format (W : Fam g) {t : T} {vl l : Addr} {vs : List V} {w : Nat} {tx : Int} (hn : 6 ≤ n) (hl : t.length + 20 ≤ lim) (hvl : H vl = some (.list vs)) (hvn : vs.length ≤ 1000) (hv : ∀ v ∈ vs, Plain v)
    (L : Lim H l w tx) (h1 : 1 ≤ w) (h2 : w ≤ 64) (ht0 : 0 ≤ tx) (ht : tx ≤ 1000)
    (hQ : ∀ s H', Ext H H' → fmt t vs w tx = some s → Q (.str s) H') (hX : ∀ H', Ext H H' → fmt t vs w tx = none → X H') : CallSem g n "format_text" [.str t, .ref vl, .ref l] H Q X := by
  refine CallSem.mono (n := 5 + 1) (call_intro W.G W.D (W.fn ("format_text", F_format_text) (List.mem_of_getElem? (i := 24) rfl)) rfl ?_) hn
  show wpS g 5 b_format_text _ X [some (.str t), some (.ref vl), some (.ref l), none, none, none, none, none, none, none, none, none, none, none, none, none, none] H
  unfold b_format_text
  have hlim := lim_val
  refine S_seq (S_set ?_)
  skip
  refine c_ValueRow W (by exact (by decide)) fun r rd H1 hE1 hr hrd hr1 hrd1 => ?_
  refine S_seq (S_set ?_)
  skip
  refine ⟨by rw [lim_val]; decide, fun o ho => ?_⟩
  have E2 : Ext H1 (upd H1 o (.list [])) := Ext.upd ho
  have S0 : FSt H (upd H1 o (.list [])) t vs w tx vl l r rd o 0 0 0 [] := by
    refine ⟨hE1.trans E2, ⟨E2 _ _ hr1, E2 _ _ hrd1, E2 _ _ (hE1 _ _ hvl), hvn⟩, (L.ext hE1).ext E2, upd_same _ _ _, ⟨rfl, ht0⟩, ⟨Nat.le_refl _, Nat.zero_le _⟩, ?_⟩
    cases fmtGo t vs w tx 0 0 0 <;> rfl
  generalize upd H1 o (.list []) = G0 at *
  have hoH : H o = none := hE1.none ho
  have hvo : vl ≠ o := fun e => by rw [e, hoH] at hvl; cases hvl
  refine S_seq (S_set ?_)
  skip
  refine S_seq (S_set ?_)
  simp only [ze1, List.set_cons_zero, List.set_cons_succ]
  refine S_seq (S_while (fun lc G' => ∃ (i k : Nat) (size : Int) (parts : List T) (x7 x8 x9 : Option V), lc = [some (.str t), some (.ref vl), some (.ref l), some (.ref r), some (.ref o), some (.int size), some (.int i), x7, x8, x9, none, none, none, none, none, none, none] ∧ FSt H G' t vs w tx vl l r rd o i k size parts)
    (fun lc _ => t.length - (intAt lc 6).toNat) ⟨0, 0, 0, [], none, none, none, rfl, S0⟩ ?_)
  rintro lc G' ⟨i, k, size, parts, x7, x8, x9, rfl, S⟩
  skip
  refine ⟨by exact (Nat.le_trans (Nat.le_add_right _ _) (by assumption)), ?_⟩
  by_cases hi : i < t.length
  · have hi' : (i : Int) < t.length := by exact (Int.ofNat_le.mpr (by assumption))
    refine ite_t (hi') ?_
    have hgo := fmtGo.eq_1 t vs w tx i k size
    rw [if_pos hi] at hgo
    -- what is done with a part
    have tail : ∀ (p : T) (e k' : Nat) (y9 : Option V) (G2 : AHeap), Ext H G2 → Row G2 r rd vl vs k' → Lim G2 l w tx → G2 o = some (.list (parts.map V.str)) → p.length ≤ 5000 ∨ p.length ≤ t.length → stepF t vs w tx i k = (some p, e, k') → i < e → e ≤ t.length →
        wpS g 5     (.seq (.expr (.meth "append" (.loc 4) (.cons (.loc 7) .nil)))
    (.seq (.aug (.loc 5) .Add (.bi "len" (.cons (.loc 7) .nil)))
    (.seq (.ite (.cmp .Gt (.loc 5) (.attr (.loc 2) "text"))
      (.seq (.raise (.lit (.str [79, 117, 116, 32, 111, 102, 32, 109, 101, 109, 111, 114, 121, 33])))
      .nil)
      .nil)
    (.seq (.assign (.loc 6) (.loc 8))
    .nil)))) (fun f loc₃ H₃ => match f with
          | .next => (∃ (i k : Nat) (size : Int) (parts : List T) (x7 x8 x9 : Option V), loc₃ = [some (.str t), some (.ref vl), some (.ref l), some (.ref r), some (.ref o), some (.int size), some (.int i), x7, x8, x9, none, none, none, none, none, none, none] ∧ FSt H H₃ t vs w tx vl l r rd o i k size parts) ∧ t.length - (intAt loc₃ 6).toNat < t.length - (intAt [some (.str t), some (.ref vl), some (.ref l), some (.ref r), some (.ref o), some (.int size), some (.int i), x7, x8, x9, none, none, none, none, none, none, none] 6).toNat
          | .ret v => Q v H₃) X [some (.str t), some (.ref vl), some (.ref l), some (.ref r), some (.ref o), some (.int size), some (.int i), some (.str p), some (.int e), y9, none, none, none, none, none, none, none] G2 := by
      intro p e k' y9 G2 hE2 R2 L2 ho2 hpl hst hie hel
      have hpl' : p.length ≤ lim := by rcases hpl with h | h <;> omega
      rw [hst] at hgo
      dsimp only at hgo
      rw [Nat.max_eq_right (by exact (by assumption) : i + 1 ≤ e)] at hgo
      have hpn : parts.length ≤ lim := by have := S.pl; omega
      refine S_seq (S_expr ?_)
      skip
      refine ⟨⟨.inl (by trivial), _, ho2⟩, _, ho2, by rw [List.length_map]; exact hpn, (by trivial), ?_⟩
      have ho3 : Mine.upd G2 o (.list (parts.map V.str ++ [V.str p])) o = some (.list ((parts ++ [p]).map V.str)) := by rw [upd_same, List.map_append]; rfl
      have hE3 : Ext H (Mine.upd G2 o (.list (parts.map V.str ++ [V.str p]))) :=
        ExtX.out hE2 (S := [o]) (ExtX.upd (by simp)) (by intro a ha; rw [List.mem_singleton.mp ha]; exact hoH)
      have R3 : Row (Mine.upd G2 o (.list (parts.map V.str ++ [V.str p]))) r rd vl vs k' := R2.keepL ho2 hvo
      have L3 : Lim (Mine.upd G2 o (.list (parts.map V.str ++ [V.str p]))) l w tx := L2.keepL ho2
      generalize Mine.upd G2 o (.list (parts.map V.str ++ [V.str p])) = G3 at *
      refine S_seq (S_aug ?_)
      skip
      refine ⟨hpl', ?_⟩
      refine S_seq (S_ite ?_)
      simp only [ze2, ze13, zt1, List.getElem?_cons_zero, List.getElem?_cons_succ, List.set_cons_zero, List.set_cons_succ]
      refine L3.text ?_
      skip
      by_cases hbig : tx < size + ↑p.length
      · rw [if_pos hbig] at hgo
        refine ite_t (hbig) ?_
        refine S_seq (S_raise ?_)
        skip
        exact ⟨by exact (by decide), ⟨_, rfl⟩, hX _ hE3 (S.die hgo)⟩
      · rw [if_neg hbig] at hgo
        refine ite_f (hbig) ?_
        refine S_nil (S_seq (S_set ?_))
        simp only [ze2, List.getElem?_cons_zero, List.getElem?_cons_succ, List.set_cons_zero, List.set_cons_succ]
        refine S_nil ⟨⟨e, k', _, parts ++ [p], _, _, _, rfl, ⟨hE3, R3, L3, ho3, ⟨?_, by exact (Int.not_lt.mp (by assumption))⟩, ⟨?_, hel⟩, ?_⟩⟩, ?_⟩
        · have := S.sz.1
          simp only [List.flatten_append, List.flatten_cons, List.flatten_nil, List.append_nil, List.length_append]
          omega
        · have := S.pl.1
          rw [List.length_append]; show parts.length + 1 ≤ e; exact (Nat.lt_of_le_of_lt (by assumption) (by assumption))
        · rw [← S.res, hgo]
          cases fmtGo t vs w tx e k' (size + ↑p.length) with
          | none => rfl
          | some q => simp
        · show t.length - ((e : Int)).toNat < t.length - ((i : Int)).toNat
          omega
    obtain ⟨c, hc⟩ : ∃ c, t[i]? = some c := ⟨t[i], List.getElem?_eq_getElem hi⟩
    refine S_seq (S_set ?_)
    skip
    refine ⟨by exact (Int.natCast_nonneg _), by exact (Nat.le_trans (Nat.le_add_right _ _) (by assumption)), c, by trivial, ?_⟩
    refine S_seq (S_set ?_)
    skip
    refine S_seq (S_ite ?_)
    simp only [ze1, ze2, ze3, ze15, zt1, zt2, za1, za2, List.getElem?_cons_zero, List.getElem?_cons_succ, List.set_cons_zero, List.set_cons_succ, kb1, kc2]
    have hl' : t.length + 10 ≤ lim := by omega
    by_cases h37 : c = 37
    · subst h37
      refine ite_t rfl ?_
      refine sl1 (i := i + 1) hl' (by omega) ?_
      by_cases hpp : (t.take (i + 1 + 1)).drop (i + 1) = [37]
      · have hp := cut1_eq.mp hpp
        have hin := (List.getElem?_eq_some_iff.mp hp).1
        simp only [hpp, decide_true, kc2, if_true]
        refine S_seq (S_set ?_)
        simp only [ze1, ze2, ze3, List.getElem?_cons_zero, List.getElem?_cons_succ, List.set_cons_zero, List.set_cons_succ, kb1]
        refine S_nil ?_
        have := tail [37] (i + 2) k x9 G' S.ext S.row S.lim S.out (.inl (by show 1 ≤ 5000; decide)) (by unfold stepF; rw [if_pos ⟨hc, hp⟩]) (by omega) (by exact (by assumption))
        exact this
      · have hp : ¬ (t[i]? = some 37 ∧ t[i + 1]? = some 37) := fun z => hpp (cut1_eq.mpr z.2)
        simp only [hpp, decide_false, kc2, Bool.false_eq_true, if_false]
        refine S_seq (S_ite ?_)
        simp only [ze1, ze2, zt1, List.getElem?_cons_zero, List.getElem?_cons_succ, kc2, decide_true, kc2, if_true]
        have hst := fun (_ : Unit) => show stepF t vs w tx i k = _ from by unfold stepF; rw [if_neg hp, if_pos hc]
        replace hst := hst ()
        refine S_seq (S_tup ?_)
        skip
        refine c_directive W (by exact (by decide)) hl' (i := i + 1) (by exact (by assumption)) fun a f fd G1 hE hf hfd D ha => ?_
        refine ⟨_, ha, rfl, by rw [lim_val]; show 2 ≤ _; decide, ?_⟩
        simp only [zL1, zL2, zk1, List.set_cons_zero, List.set_cons_succ]
        have T1 := S.keep hE
        have e1 : rdEnd t (i + 1) ≤ t.length := by unfold rdEnd; exact (Nat.min_le_right _ _)
        have e2 : i < rdEnd t (i + 1) := by have := rdLetter_ge t (i + 1); unfold rdEnd; omega
        refine S_seq (S_set ?_)
        simp only [ze2, ze15, List.getElem?_cons_zero, List.getElem?_cons_succ, List.set_cons_zero, List.set_cons_succ]
        refine sl2 hl' (by omega) (by omega) ?_
        refine S_seq (S_ite ?_)
        simp only [ze1, ze2, ze13, zt1, List.getElem?_cons_zero, List.getElem?_cons_succ]
        refine D.get (by decide +kernel) (v := .str (rdDir t (i + 1)).le) rfl ?_
        simp only [kc8]
        rcases rdLe_cases t (i + 1) with hle | ⟨c, hle, hlet⟩
        · rw [if_pos hle] at hst
          simp only [hle, ne_eq, not_true_eq_false, decide_false, Bool.false_eq_true, if_false]
          refine S_nil (S_nil (S_nil ?_))
          exact tail _ _ k _ G1 T1.ext T1.row T1.lim T1.out (.inr (by rw [List.length_drop, List.length_take]; omega)) hst e2 e1
        · rw [if_neg (by rw [hle]; simp)] at hst
          have hne : (rdDir t (i + 1)).le ≠ [] := by rw [hle]; simp
          simp only [hne, ne_eq, not_false_eq_true, decide_true, if_true]
          have hfdH : H fd = none := S.ext.none hfd
          have hrdH : H rd = none := hrd
          have hX1 : (stepF t vs w tx i k).1 = none → fmt t vs w tx = none := fun z => by
            refine S.die ?_
            rw [hgo, z]
          rw [hst] at hX1
          have hS : ∀ G, ExtX [fd, rd] G1 G → Ext H G := fun G z => ExtX.out T1.ext z (by
            intro b hb
            simp only [List.mem_cons, List.not_mem_nil, or_false] at hb
            rcases hb with rfl | rfl
            · exact hfdH
            · exact hrdH)
          refine S_seq (S_expr ?_)
          simp only [ze2, ze8, zl1, zl2, List.getElem?_cons_zero, List.getElem?_cons_succ]
          refine c_settle W (by exact (by decide)) h1 h2 (by have := rdFl_len (t := t) (i := i + 1); omega) hv D T1.row T1.lim (fun G2 x2 D2 R2 L2 hb => ⟨rfl, ?_⟩) (fun G2 x2 hb => hX _ (hS _ x2) (hX1 (by unfold dirF; rw [if_pos hb])))
          have O2 := stars_ok (vs := vs) (k := k) (w := w) (fun z => rdDir_w) (fun z => rdDir_p) ht hb
          have hdf : dirF t vs w tx (i + 1) k = dirText (stars (rdDir t (i + 1)) vs k w).1 (takeV vs (stars (rdDir t (i + 1)) vs k w).2 (rdDir t (i + 1)).ix) w := by unfold dirF; rw [if_neg (by rw [hb]; simp)]
          rw [hdf] at hst hX1
          have oo : G2 o = some (.list (parts.map V.str)) := by
            refine x2 _ _ ?_ T1.out
            intro hb
            simp only [List.mem_cons, List.not_mem_nil, or_false] at hb
            rcases hb with rfl | rfl
            · have := D.d; rw [T1.out] at this; cases this
            · have := T1.row.d; rw [T1.out] at this; cases this
          have hle2 := stars_le (rdDir t (i + 1)) vs k w
          have hix2 := stars_ix (rdDir t (i + 1)) vs k w
          rw [hle] at hle2
          generalize (stars (rdDir t (i + 1)) vs k w).2 = k2 at *
          generalize (stars (rdDir t (i + 1)) vs k w).1 = d2 at *
          refine S_seq (S_set ?_)
          simp only [ze2, ze8, ze13, zl1, zl2, List.getElem?_cons_zero, List.getElem?_cons_succ, List.set_cons_zero, List.set_cons_succ]
          refine D2.get (by decide +kernel) (v := .int d2.ix) rfl ?_
          rw [hix2]
          refine c_take W (by exact (by decide)) R2 ?_
          have R3 := R2.upd (k' := nextK k2 (rdDir t (i + 1)).ix)
          have D3 := D2.other (k' := nextK k2 (rdDir t (i + 1)).ix) R2.d
          have x3' := ExtX.upd (S := [fd, rd]) (H := G2) (o := rowD vl (nextK k2 (rdDir t (i + 1)).ix)) (by simp : rd ∈ [fd, rd])
          have x3 := x2.trans x3'
          have L3 := L2.keep D2.d R2.d x3'
          have o3 : Mine.upd G2 rd (rowD vl (nextK k2 (rdDir t (i + 1)).ix)) o = some (.list (parts.map V.str)) := by
            rw [upd_ne]
            · exact oo
            · intro e
              have := R2.d; rw [← e, oo] at this; cases this
          generalize Mine.upd G2 rd (rowD vl (nextK k2 (rdDir t (i + 1)).ix)) = G3 at *
          have hp3 := takeV_plain (k := k2) (ix := (rdDir t (i + 1)).ix) hv
          refine c_dirText W (by exact (Nat.le_refl _)) D3 O2 hp3 L3 h1 h2 hle2 hlet (fun p G4 hE4 hp => ?_) (fun G4 hE4 hp => hX _ ((hS _ x3).trans hE4) (hX1 hp))
          rw [hp] at hst
          refine S_nil (S_nil (S_nil ?_))
          exact tail p _ _ _ G4 ((hS _ x3).trans hE4) (R3.ext hE4) (L3.ext hE4) (hE4 _ _ o3) (.inl (dirText_len O2 hp3 h2 hp)) hst e2 e1
    · have h37' : ¬ ([c] : T) = [37] := fun z => h37 (by injection z)
      simp only [h37', decide_false, Bool.false_eq_true, if_false]
      refine S_seq (S_ite ?_)
      simp only [ze1, ze2, zt1, List.getElem?_cons_zero, List.getElem?_cons_succ, kc2, h37', decide_false, kc2, Bool.false_eq_true, if_false]
      refine S_nil (S_nil ?_)
      have h5 : ¬ t[i]? = some 37 := fun z => h37 (by rw [hc] at z; injection z)
      have := tail [c] (i + 1) k x9 G' S.ext S.row S.lim S.out (.inl (by show 1 ≤ 5000; decide)) (by unfold stepF; rw [if_neg (fun z => h5 z.1), if_neg h5, hc]; rfl) (by exact (Nat.le_refl _)) (by exact (by assumption))
      exact this
  · have hi' : ¬ (i : Int) < t.length := by omega
    simp only [hi', decide_false, kc9, Bool.false_eq_true, if_false]
    have hgo := fmtGo.eq_1 t vs w tx i k size
    rw [if_neg hi] at hgo
    have hres := S.res
    rw [hgo] at hres
    simp only [Option.map_some, List.append_nil] at hres
    refine S_seq (S_ret ?_)
    simp only [ze1, ze2, ze12, zl1, zl2, List.getElem?_cons_zero, List.getElem?_cons_succ]
    refine ⟨by simp [methOk], ?_⟩
    simp only [km4]
    refine ⟨_, parts, (by trivial), S.out, strs_map parts, by rw [List.length_map]; have := S.pl; omega, by have := S.sz; omega, ?_⟩
    refine hQ _ _ S.ext ?_
    unfold fmt
    rw [← hres]; rfl
end Mine
end

section
set_option genSizeOf false
set_option genSizeOfSpec false
open PySem PySem.W PyProof.Rows PySem.Calls
set_option Elab.async false
set_option maxRecDepth 100000
set_option linter.unusedVariables false
set_option linter.unusedSimpArgs false
namespace Mine
variable {g : G} {H : AHeap} {n : Nat} {Q : V → AHeap → Prop} {X : AHeap → Prop} {loc : Loc}

/-! ## the law's own functions: the drawing -/
structure PenAt (H : AHeap) (p sc : Addr) : Prop where
  ex : ∃ (xs : List Int) (k : Nat), H p = some (.list [.ref sc, .int k]) ∧ H sc = some (.list (xs.map V.int)) ∧ 0 < xs.length ∧ xs.length ≤ 1000

theorem PenAt.ext {H' : AHeap} {p sc : Addr} (P : PenAt H p sc) (h : Ext H H') : PenAt H' p sc := by
  obtain ⟨xs, k, h1, h2, h3, h4⟩ := P.ex
  exact ⟨xs, k, h _ _ h1, h _ _ h2, h3, h4⟩
theorem PenAt.x {H' : AHeap} {p sc se : Addr} (P : PenAt H p sc) (h : ExtX [se] H H') (h1 : p ≠ se) (h2 : sc ≠ se) : PenAt H' p sc := by
  obtain ⟨xs, k, e1, e2, h3, h4⟩ := P.ex
  exact ⟨xs, k, h _ _ (by simpa using h1) e1, h _ _ (by simpa using h2) e2, h3, h4⟩

noncomputable def lawL : List (String × Fn) := [("_law_rest", F__law_rest), ("_law_draw", F__law_draw), ("_law_run", F__law_run), ("_law_place", F__law_place), ("_law_sized", F__law_sized), ("_law_cut", F__law_cut), ("_law_value", F__law_value), ("_law_number", F__law_number), ("_law_told", F__law_told), ("_law_formatted", F__law_formatted), ("law", F_law)]
structure LFam (g : G) : Prop extends Fam g where
  lfn : ∀ p ∈ lawL, FnOk g p.1 p.2
  limits : ∀ {n : Nat} {H : AHeap} {Q : V → AHeap → Prop} {X : AHeap → Prop}, 2 ≤ n → (∀ a H', Ext H H' → Lim H' a 64 200 → Q (.ref a) H') → NewSem g n "Limits" [] ["text"] [.int 200] H Q X

theorem c_draw (W : LFam g) {p sc : Addr} {m : Int} (hn : 1 ≤ n) (P : PenAt H p sc) (hm : 0 < m)
    (hQ : ∀ d H', 0 ≤ d → d < m → ExtX [p] H H' → PenAt H' p sc → Q (.int d) H') : CallSem g n "_law_draw" [.ref p, .int m] H Q X := by
  refine CallSem.mono (n := 0 + 1) (call_intro W.G W.D (W.lfn ("_law_draw", F__law_draw) (List.mem_of_getElem? (i := 1) rfl)) rfl ?_) hn
  show wpS g 0 b__law_draw _ X [some (.ref p), some (.int m), none, none] H
  unfold b__law_draw
  obtain ⟨xs, k, h1, h2, h3, h4⟩ := P.ex
  have hl2 : 2 ≤ lim := by rw [lim_val]; decide
  have hne : sc ≠ p := by
    intro e
    rw [e, h1] at h2
    cases xs with
    | nil => cases h2
    | cons x r => cases h2
  refine S_seq (S_set ?_)
  simp only [ze1, ze2, ze14, List.getElem?_cons_zero, List.set_cons_zero, List.set_cons_succ, ku2]
  refine ⟨by decide, _, .inl (.inl h1), hl2, _, rfl, ?_⟩
  refine S_seq (S_setS ?_)
  skip
  refine ⟨_, h1, by decide, by show (1 : Int) < 2; decide, hl2, ?_⟩
  have e1 : Mine.upd H p (.list ([V.ref sc, V.int k].set (1 : Int).toNat (.int ((k : Int) + 1)))) p = some (.list [.ref sc, .int ((k + 1 : Nat) : Int)]) := by
    rw [upd_same]; rfl
  have e2 : Mine.upd H p (.list ([V.ref sc, V.int k].set (1 : Int).toNat (.int ((k : Int) + 1)))) sc = some (.list (xs.map V.int)) := by rw [upd_ne _ _ hne]; exact h2
  have e3 : ExtX [p] H (Mine.upd H p (.list ([V.ref sc, V.int k].set (1 : Int).toNat (.int ((k : Int) + 1))))) := ExtX.upd (by simp)
  generalize Mine.upd H p (.list ([V.ref sc, V.int k].set (1 : Int).toNat (.int ((k : Int) + 1)))) = H' at *
  have hlx : (xs.map V.int).length ≤ lim := by rw [List.length_map, lim_val]; exact (le_lim (by assumption) (by decide))
  have hpos : (0 : Int) < (xs.length : Int) := by exact (Int.ofNat_le.mpr (by assumption))
  have hml : 0 ≤ (k : Int) % (xs.length : Int) := Int.emod_nonneg _ (by exact (Int.ne_of_gt (by assumption)))
  have hmu : (k : Int) % (xs.length : Int) < xs.length := Int.emod_lt_of_pos _ hpos
  have hb : ((k : Int) % (xs.length : Int)).toNat < xs.length := by omega
  refine S_seq (S_ret ?_)
  simp only [ze1, ze2, ze3, ze10, ze14, zl1, zl2, List.getElem?_cons_zero, List.getElem?_cons_succ, ku2]
  refine ⟨by decide, _, .inl (.inl e1), hl2, _, rfl, ?_⟩
  refine ⟨by decide, _, .inl (.inl e1), hl2, _, rfl, ?_⟩
  simp only [kb8, kf2]
  refine ⟨_, .inl e2, hlx, ?_⟩
  rw [List.length_map]
  refine ⟨hpos, hml, _, .inl (.inl e2), hlx, .int (xs[((k : Int) % (xs.length : Int)).toNat]), ?_, ?_⟩
  · rw [List.getElem?_map, List.getElem?_eq_getElem hb]; rfl
  refine ⟨by decide, _, .inl (.inl e1), hl2, _, rfl, ?_⟩
  refine ⟨_, .inl e2, hlx, ?_⟩
  rw [List.length_map]
  refine ⟨⟨hpos, by omega⟩, .inl ⟨by decide, by decide⟩, hm, ?_⟩
  exact hQ _ _ (Int.emod_nonneg _ (by exact (Int.ne_of_gt (by assumption)))) (Int.emod_lt_of_pos _ hm) e3 ⟨xs, k + 1, e1, e2, h3, h4⟩

noncomputable def restL : List Int := [9, 0, 5, 10, 14, 0, 3, 2, 12, 0, 5, 4, 5, 10, 0, 0, 11, 3, 7]
theorem c_rest (W : LFam g) (hn : 1 ≤ n) (hQ : ∀ a, H a = none → Q (.ref a) (upd H a (.list (restL.map V.int)))) : CallSem g n "_law_rest" [] H Q X := by
  refine CallSem.mono (n := 0 + 1) (call_intro W.G W.D (W.lfn ("_law_rest", F__law_rest) (List.mem_of_getElem? (i := 0) rfl)) rfl ?_) hn
  show wpS g 0 b__law_rest _ X [] H
  unfold b__law_rest
  refine S_seq (S_ret ?_)
  simp only [ze1, ze16, zl1, zl2]
  exact ⟨by rw [lim_val]; decide, fun a ha => hQ a ha⟩

/-! ## runs -/
noncomputable def sgn : T := [37, 36, 42, 46, 48, 49, 51, 45, 43, 35, 32, 108, 100, 115, 120, 99, 121, 102]
def Al (t : T) : Prop := ∀ c ∈ t, c ∈ sgn
theorem tw_congr {p q : Nat → Bool} : ∀ {l : T}, (∀ c ∈ l, p c = q c) → l.takeWhile p = l.takeWhile q
  | [], _ => rfl
  | c :: r, h => by rw [List.takeWhile_cons, List.takeWhile_cons, h c (.head _), tw_congr fun d hd => h d (.tail _ hd)]
theorem run_congr {p q : Nat → Bool} {t : T} {i : Nat} (h : ∀ c ∈ t, p c = q c) : run p t i = run q t i := by
  unfold run
  rw [tw_congr fun c hc => h c (List.mem_of_mem_drop hc)]
theorem al_fig {t : T} (h : Al t) (i : Nat) : run (fun c => decide (c ∈ [48, 49, 51])) t i = run isFig t i := run_congr fun c hc => (by decide : ∀ c ∈ sgn, decide (c ∈ [48, 49, 51]) = isFig c) c (h c hc)
theorem al_size {t : T} (h : Al t) (i : Nat) : run (fun c => decide (c ∈ [108])) t i = run isSizeS t i := run_congr fun c hc => (by decide : ∀ c ∈ sgn, decide (c ∈ [108]) = isSizeS c) c (h c hc)

theorem c_run (W : LFam g) {t cs : T} {i : Nat} (hn : 1 ≤ n) (hl : t.length ≤ lim) (hQ : Q (.int (run (fun c => decide (c ∈ cs)) t i)) H) : CallSem g n "_law_run" [.str t, .int i, .str cs] H Q X := by
  refine CallSem.mono (n := 0 + 1) (call_intro W.G W.D (W.lfn ("_law_run", F__law_run) (List.mem_of_getElem? (i := 2) rfl)) rfl ?_) hn
  show wpS g 0 b__law_run _ X [some (.str t), some (.int i), some (.str cs), none, none] H
  unfold b__law_run
  refine S_seq (S_set ?_)
  simp only [ze2, List.getElem?_cons_zero, List.getElem?_cons_succ, List.set_cons_zero, List.set_cons_succ]
  refine S_seq (S_while (fun l H₁ => ∃ m : Nat, l = [some (.str t), some (.int i), some (.str cs), some (.int m), none] ∧ H₁ = H ∧ run (fun c => decide (c ∈ cs)) t m = run (fun c => decide (c ∈ cs)) t i) (fun l _ => t.length - (intAt l 3).toNat) ⟨i, rfl, rfl, rfl⟩ ?_)
  rintro l H₁ ⟨m, rfl, rfl, hm⟩
  simp only [ze2, ze10, ze14, zl1, zl2, zt1, zt2, za1, za2, List.getElem?_cons_zero, List.getElem?_cons_succ, kc9, kc15, kf1, ku1]
  refine ⟨hl, ?_⟩
  by_cases hlt : m < t.length
  · have hc := List.getElem?_eq_getElem hlt
    refine ite_t (Int.ofNat_lt.mpr hlt) ⟨Int.natCast_nonneg _, hl, t[m], hc, t[m], rfl, ?_⟩
    by_cases hcs : t[m] ∈ cs
    · refine ite_t hcs ?_
      refine S_seq (S_set ?_)
      simp only [ze1, ze2, ze3, List.getElem?_cons_zero, List.getElem?_cons_succ, List.set_cons_zero, List.set_cons_succ, kb1]
      exact S_nil ⟨⟨m + 1, rfl, rfl, (run_step hc (decide_eq_true hcs)).trans hm⟩, lt_sub1 hlt⟩
    · refine ite_f hcs ?_
      rw [← hm, run_stop (fun c e => by rw [hc] at e; cases e; exact decide_eq_false hcs)] at hQ
      exact S_seq (S_ret hQ)
  · refine ite_f (fun e => hlt (Int.ofNat_lt.mp e)) ?_
    rw [← hm, run_stop (fun c e => by rw [List.getElem?_eq_none (Nat.le_of_not_lt hlt)] at e; cases e)] at hQ
    exact S_seq (S_ret hQ)
end Mine
end

section
set_option genSizeOf false
set_option genSizeOfSpec false
open PySem PySem.W PyProof.Rows PySem.Calls
set_option Elab.async false
set_option maxRecDepth 100000
set_option linter.unusedVariables false
set_option linter.unusedSimpArgs false
namespace Mine
variable {g : G} {H : AHeap} {n : Nat} {Q : V → AHeap → Prop} {X : AHeap → Prop} {loc : Loc}

/-! ## a told place -/
noncomputable def numG (ds : T) : Int := ds.foldl (fun acc c => acc * 10 + ((c - 48 : Nat) : Int)) 0
theorem fold_max : ∀ (ds : T) (acc : Int), 0 ≤ acc → ds.foldl (fun acc c => max acc 0 * 10 + ((c - 48 : Nat) : Int)) acc = ds.foldl (fun acc c => acc * 10 + ((c - 48 : Nat) : Int)) acc ∧ 0 ≤ ds.foldl (fun acc c => acc * 10 + ((c - 48 : Nat) : Int)) acc
  | [], acc, h => ⟨rfl, h⟩
  | c :: r, acc, h => by
    have := fold_max r (acc * 10 + ((c - 48 : Nat) : Int)) (by omega)
    rw [List.foldl_cons, List.foldl_cons, Int.max_eq_left h]
    exact this
theorem figV_num {ds : T} (h : ds ≠ []) : figV ds = numG ds := by
  cases ds with
  | nil => exact absurd rfl h
  | cons c r =>
    unfold figV numG
    rw [List.foldl_cons, List.foldl_cons]
    exact (fold_max r _ (by exact (Int.natCast_nonneg _))).1
theorem numG_nn (ds : T) : 0 ≤ numG ds := (fold_max ds 0 (Int.le_refl 0)).2
theorem figV_pos (ds : T) : 0 < figV ds ↔ 0 < numG ds := by
  by_cases h : ds = []
  · subst h; decide
  · rw [figV_num h]

noncomputable def dterm (ds : T) (k : Nat) : Int := (((ds[ds.length - 1 - k]?).getD 48 - 48 : Nat) : Int) * 10 ^ k
theorem dterm_snoc {ds : T} {c k : Nat} (h : k < ds.length) : dterm (ds ++ [c]) (k + 1) = 10 * dterm ds k := by
  unfold dterm
  rw [List.length_append, show ds.length + [c].length - 1 - (k + 1) = ds.length - 1 - k from by show ds.length + 1 - 1 - (k + 1) = _; omega, List.getElem?_append_left (by omega), Int.pow_succ, ← Int.mul_assoc, Int.mul_comm]
theorem sum_scale (l : List Nat) (f : Nat → Int) : (l.map fun k => 10 * f k).sum = 10 * (l.map f).sum := by
  induction l with
  | nil => rfl
  | cons a r ih => rw [List.map_cons, List.sum_cons, List.map_cons, List.sum_cons, ih, Int.mul_add]
theorem sum_num (ds : T) : ((List.range ds.length).map (dterm ds)).sum = numG ds := by
  suffices h : ∀ l : T, ((List.range l.reverse.length).map (dterm l.reverse)).sum = numG l.reverse by
    have := h ds.reverse; rwa [List.reverse_reverse] at this
  intro l
  induction l with
  | nil => rfl
  | cons c r ih =>
    rw [List.reverse_cons]
    generalize r.reverse = ds at *
    rw [List.length_append, show ds.length + [c].length = ds.length + 1 from rfl, List.range_succ_eq_map, List.map_cons, List.sum_cons, List.map_map]
    have e : ((List.range ds.length).map (dterm (ds ++ [c]) ∘ Nat.succ)) = (List.range ds.length).map fun k => 10 * dterm ds k :=
      List.map_congr_left fun k hk => dterm_snoc (List.mem_range.mp hk)
    rw [e, sum_scale, ih]
    unfold numG
    rw [List.foldl_append]
    show dterm (ds ++ [c]) 0 + 10 * _ = _ * 10 + ((c - 48 : Nat) : Int)
    have e2 : dterm (ds ++ [c]) 0 = ((c - 48 : Nat) : Int) := by
      unfold dterm
      rw [List.length_append, show ds.length + [c].length - 1 - 0 = ds.length from rfl, List.getElem?_append_right (Nat.le_refl _), Nat.sub_self]
      exact Int.mul_one _
    rw [e2]; omega

theorem figs_get {t : T} {i j : Nat} (h : j < (figs t i).length) : t[i + j]? = (figs t i)[j]? := by
  unfold figs at *
  have e : (t.drop i) = (t.drop i).takeWhile isFig ++ (t.drop i).dropWhile isFig := (List.takeWhile_append_dropWhile).symm
  rw [← List.getElem?_drop]
  conv => lhs; rw [e]
  exact List.getElem?_append_left h
theorem figs_fig {t : T} {i j c : Nat} (h : (figs t i)[j]? = some c) : 48 ≤ c ∧ c ≤ 57 := by
  have hm := List.mem_of_getElem? h
  have hf : isFig c = true := by
    unfold figs at hm
    exact List.all_eq_true.mp List.all_takeWhile _ hm
  have := of_decide_eq_true hf
  simp only [List.mem_cons, List.not_mem_nil, or_false] at this
  omega
theorem ints_map (l : List Nat) (f : Nat → Int) : ints? (l.map fun k => V.int (f k)) = some (l.map f) := by
  induction l with
  | nil => rfl
  | cons a r ih => show (ints? (r.map fun k => V.int (f k))).map (f a :: ·) = _; rw [ih]; rfl

theorem c_place (W : LFam g) {t : T} {i : Nat} (hn : 2 ≤ n) (ha : Al t) (hl : t.length ≤ 64) (hi : i ≤ t.length) (hQ : ∀ a H', Ext H H' → H' a = some (.tup [.int (indexAt t i).1, .int (indexAt t i).2]) → Q (.ref a) H') : CallSem g n "_law_place" [.str t, .int i] H Q X := by
  refine CallSem.mono (n := 1 + 1) (call_intro W.G W.D (W.lfn ("_law_place", F__law_place) (List.mem_of_getElem? (i := 3) rfl)) rfl ?_) hn
  show wpS g 1 b__law_place _ X [some (.str t), some (.int i), none, none, none, none, none] H
  unfold b__law_place
  have hlim : t.length ≤ lim := le_lim hl (by decide)
  have h2 : 2 ≤ lim := by rw [lim_val]; decide
  refine S_seq (S_set ?_)
  simp only [ze1, ze2, ze8, zl1, zl2, List.getElem?_cons_zero, List.getElem?_cons_succ, List.set_cons_zero, List.set_cons_succ]
  refine c_run W (Nat.le_refl _) hlim ?_
  rw [al_fig ha]
  have he : run isFig t i = i + (figs t i).length := rfl
  have hle := run_le isFig t i hi
  refine S_seq (S_set ?_)
  have hsub : ((run isFig t i : Nat) : Int) - (i : Int) = ((figs t i).length : Int) := by omega
  have hN : (((run isFig t i : Nat) : Int) - (i : Int)).toNat = (figs t i).length := by omega
  have hfl : (figs t i).length ≤ lim := by rw [lim_val]; omega
  refine ⟨by rw [hsub]; exact (Int.natCast_nonneg _), by rw [hsub]; exact Int.ofNat_le.mpr hfl, rfl, fun j acc H₂ => H₂ = H ∧ acc = (List.range j).map (fun k => V.int (dterm (figs t i) k)), ⟨rfl, rfl⟩, ?_, ?_, ?_⟩
  · rintro j acc H₂ x hx ⟨rfl, rfl⟩
    rw [hN, List.getElem?_map] at hx
    have hj : j < (figs t i).length := by
      cases e : (List.range (figs t i).length)[j]? with
      | none => rw [e] at hx; cases hx
      | some q => have := (List.getElem?_eq_some_iff.mp e).1; rwa [List.length_range] at this
    rw [List.getElem?_range hj] at hx
    cases hx
    show wpE g 1 [none, some (.int (j : Nat)), none, some (.int ((run isFig t i : Nat) : Int)), some (.str t)] _ _ _ _
    simp only [ze1, ze2, ze3, ze10, ze14, zl1, zl2, List.getElem?_cons_zero, List.getElem?_cons_succ, kb4, kb5, kb11, kf8, ku1]
    have hj2 : (figs t i).length - 1 - j < (figs t i).length := by omega
    have hc := List.getElem?_eq_getElem hj2
    have e3 : (((run isFig t i : Nat) : Int) - 1 - (j : Int)).toNat = i + ((figs t i).length - 1 - j) := by omega
    have hr := figs_fig hc
    refine ⟨by omega, hlim, (figs t i)[(figs t i).length - 1 - j], by rw [e3, figs_get hj2]; exact hc, _, rfl, hr.1, hr.2, ⟨by exact (Int.natCast_nonneg _), by omega, by decide, by decide⟩, .inl ⟨by omega, by omega⟩, (by trivial), ?_⟩
    rw [List.range_succ, List.map_append]
    congr 1
    show [V.int _] = [V.int _]
    unfold dterm
    rw [hc]
    show [V.int (((((figs t i)[(figs t i).length - 1 - j] : Nat) : Int) - 48) * 10 ^ ((j : Int)).toNat)] = _
    rw [Int.toNat_natCast]
    congr 2
    show _ = ((((figs t i)[(figs t i).length - 1 - j]) - 48 : Nat) : Int) * 10 ^ j
    congr 1
    omega
  · rw [List.length_map, List.length_range, hN]; exact hfl
  · rintro acc H₂ ⟨rfl, rfl⟩ - a ha'
    rw [List.length_map, List.length_range, hN]
    simp only []
    refine ⟨_, _, upd_same _ _ _, ints_map _ _, by rw [List.length_map, List.length_range]; exact hfl, ?_⟩
    rw [sum_num]
    have hE := Ext.upd (o := .list ((List.range (figs t i).length).map (fun k => V.int (dterm (figs t i) k)))) ha'
    generalize Mine.upd H₂ a (.list ((List.range (figs t i).length).map (fun k => V.int (dterm (figs t i) k)))) = H1 at *
    have no : ¬ idxOk t i → wpS g 1 (.seq (.ret (.tup (.cons (.lit (.int 0)) (.cons (.loc 1) .nil)))) .nil) (fp Q) X [some (.str t), some (.int i), some (.int (run isFig t i : Nat)), some (.int (numG (figs t i))), none, none, none] H1 := by
      intro h
      refine S_seq (S_ret ?_)
      simp only [ze1, ze2, ze17, zl1, zl2, List.getElem?_cons_zero, List.getElem?_cons_succ]
      refine ⟨h2, fun b hb => hQ b _ (hE.trans (Ext.upd hb)) ?_⟩
      rw [upd_same]; unfold indexAt; rw [if_neg h]; rfl
    refine S_seq (S_ite ?_)
    simp only [ze1, ze2, ze3, ze15, zt1, zt2, za1, za2, List.getElem?_cons_zero, List.getElem?_cons_succ, List.set_cons_zero, List.set_cons_succ, kb1, kc11]
    by_cases hp : 0 < numG (figs t i)
    · refine ite_t hp ?_
      refine sl1 (t := t) (by rw [lim_val]; omega) (by omega) ?_
      by_cases hd : (t.take (run isFig t i + 1)).drop (run isFig t i) = [36]
      · refine ite_t hd ?_
        have ok : idxOk t i := ⟨(figV_pos _).mpr hp, cut1_eq.mp hd⟩
        simp only [if_true]
        refine S_seq (S_ret ?_)
        simp only [ze1, ze2, ze3, ze17, zl1, zl2, List.getElem?_cons_zero, List.getElem?_cons_succ, kb1]
        refine ⟨h2, fun b hb => hQ b _ (hE.trans (Ext.upd hb)) ?_⟩
        rw [upd_same]; unfold indexAt; rw [if_pos ok]
        have hne : figs t i ≠ [] := fun e => by rw [e] at hp; exact absurd hp (by decide)
        show some (AObj.tup [V.int (numG (figs t i)), V.int (((run isFig t i : Nat) : Int) + 1)]) = some (AObj.tup [V.int ((figV (figs t i)).toNat : Int), V.int ((run isFig t i + 1 : Nat) : Int)])
        rw [figV_num hne, Int.toNat_of_nonneg (numG_nn _)]; rfl
      · refine ite_f hd ?_
        simp only [Bool.false_eq_true, if_false]
        exact S_nil (no fun ok => hd (cut1_eq.mpr ok.2))
    · refine ite_f hp ?_
      simp only [Bool.false_eq_true, if_false]
      exact S_nil (no fun ok => hp ((figV_pos _).mp ok.1))
end Mine
end

section
set_option genSizeOf false
set_option genSizeOfSpec false
open PySem PySem.W PyProof.Rows PySem.Calls
set_option Elab.async false
set_option maxRecDepth 100000
set_option linter.unusedVariables false
set_option linter.unusedSimpArgs false
namespace Mine
variable {g : G} {H : AHeap} {n : Nat} {Q : V → AHeap → Prop} {X : AHeap → Prop} {loc : Loc}

/-! ## a size: figures, or a star of a place -/
noncomputable def szW (t : T) (i : Nat) : T := if t[i]? = some 42 then [] else figs t i
noncomputable def szS (t : T) (i : Nat) : Option Nat := if t[i]? = some 42 then some (indexAt t (i + 1)).1 else none
noncomputable def szE (t : T) (i : Nat) : Nat := if t[i]? = some 42 then (indexAt t (i + 1)).2 else run isFig t i
theorem szE_le {t : T} {i : Nat} (h : i ≤ t.length) : szE t i ≤ t.length := by
  unfold szE
  split
  · rename_i hc; exact indexAt_le (List.getElem?_eq_some_iff.mp hc).1
  · exact run_le _ _ _ h
theorem run_cut {t : T} {i : Nat} {p : Nat → Bool} : (t.take (run p t i)).drop i = (t.drop i).takeWhile p := by
  unfold run
  rw [List.drop_take, Nat.add_sub_cancel_left]
  have e : (t.drop i) = (t.drop i).takeWhile p ++ (t.drop i).dropWhile p := (List.takeWhile_append_dropWhile).symm
  conv => lhs; rw [e]
  rw [List.take_left']
  rw [← e]

theorem c_sized (W : LFam g) {t : T} {i : Nat} (hn : 3 ≤ n) (ha : Al t) (hl : t.length ≤ 64) (hi : i ≤ t.length) (hQ : ∀ a H', Ext H H' → H' a = some (.tup [.str (szW t i), oN (szS t i), .int (szE t i)]) → Q (.ref a) H') : CallSem g n "_law_sized" [.str t, .int i] H Q X := by
  refine CallSem.mono (n := 2 + 1) (call_intro W.G W.D (W.lfn ("_law_sized", F__law_sized) (List.mem_of_getElem? (i := 4) rfl)) rfl ?_) hn
  show wpS g 2 b__law_sized _ X [some (.str t), some (.int i), none, none, none, none] H
  unfold b__law_sized
  have hlim : t.length ≤ lim := le_lim hl (by decide)
  have h3 : 3 ≤ lim := by rw [lim_val]; decide
  refine S_seq (S_ite ?_)
  simp only [ze1, ze2, ze3, ze15, zt1, List.getElem?_cons_zero, List.getElem?_cons_succ, kb1]
  refine sl1 (t := t) (by rw [lim_val]; omega) (by omega) ?_
  by_cases hs : (t.take (i + 1)).drop i = [42]
  · refine ite_t hs ?_
    have hs' := cut1_eq.mp hs
    have hlt := (List.getElem?_eq_some_iff.mp hs').1
    refine S_seq (S_tup ?_)
    simp only [ze1, ze2, ze3, ze8, zl1, zl2, List.getElem?_cons_zero, List.getElem?_cons_succ, kb1]
    refine c_place W (i := i + 1) (Nat.le_refl _) ha hl hlt fun a H1 hE h1 => ?_
    refine ⟨_, h1, rfl, by rw [lim_val]; show 2 ≤ _; decide, ?_⟩
    simp only [zL1, zL2, zk1, List.set_cons_zero, List.set_cons_succ]
    refine S_seq (S_ret ?_)
    simp only [ze1, ze2, ze17, zl1, zl2, List.getElem?_cons_zero, List.getElem?_cons_succ]
    refine ⟨h3, fun b hb => hQ b _ (hE.trans (Ext.upd hb)) ?_⟩
    rw [upd_same]; unfold szW szS szE; rw [if_pos hs', if_pos hs', if_pos hs']; rfl
  · refine ite_f hs ?_
    have hs' : ¬ t[i]? = some 42 := fun e => hs (cut1_eq.mpr e)
    refine S_nil (S_seq (S_set ?_))
    simp only [ze1, ze2, ze8, zl1, zl2, List.getElem?_cons_zero, List.getElem?_cons_succ, List.set_cons_zero, List.set_cons_succ]
    refine c_run W (by decide) hlim ?_
    rw [al_fig ha]
    have hle := run_le isFig t i hi
    refine S_seq (S_ret ?_)
    simp only [ze1, ze2, ze15, ze17, zl1, zl2, List.getElem?_cons_zero, List.getElem?_cons_succ]
    refine sl2 (t := t) (by rw [lim_val]; omega) (by omega) (by omega) ?_
    refine ⟨h3, fun b hb => hQ b _ (Ext.upd hb) ?_⟩
    rw [upd_same]; unfold szW szS szE; rw [if_neg hs', if_neg hs', if_neg hs', run_cut]; rfl
end Mine
end

section
set_option genSizeOf false
set_option genSizeOfSpec false
open PySem PySem.W PyProof.Rows PySem.Calls
set_option Elab.async false
set_option maxRecDepth 100000
set_option linter.unusedVariables false
set_option linter.unusedSimpArgs false
namespace Mine
variable {g : G} {H : AHeap} {n : Nat} {Q : V → AHeap → Prop} {X : AHeap → Prop} {loc : Loc}

/-! ## the law's cutting -/
inductive Pt where
  | lit (s : T) | dir (i : Nat)
noncomputable def ptP (t : T) (i : Nat) : T := if t[rdPoint t i]? = some 46 then [46] else []
noncomputable def ptX (t : T) (i : Nat) : T := if t[rdPoint t i]? = some 46 then szW t (rdPoint t i + 1) else []
noncomputable def ptS (t : T) (i : Nat) : Option Nat := if t[rdPoint t i]? = some 46 then szS t (rdPoint t i + 1) else none
noncomputable def tupOf (t : T) (i : Nat) : List V := [.int (indexAt t i).1, .str ((t.take (rdWidth t i)).drop (rdFlags t i)), .str (szW t (rdWidth t i)), oN (szS t (rdWidth t i)), .str (ptP t i), .str (ptX t i), oN (ptS t i), .str (rdLe t i)]
noncomputable def cutF (t : T) (i : Nat) : Pt × Nat :=
  if t[i]? = some 37 then
    (if t[i + 1]? = some 37 then (.lit [37], i + 2)
     else if rdLe t (i + 1) = [] then (.lit ((t.take (rdLetter t (i + 1) + 1)).drop i), rdLetter t (i + 1) + 1) else (.dir (i + 1), rdLetter t (i + 1) + 1))
  else (.lit (t[i]?).toList, i + 1)
inductive CutR (t : T) : List Pt → Nat → Prop
  | nil : CutR t [] 0
  | snoc {ps : List Pt} {i j : Nat} {p : Pt} (r : CutR t ps i) (h : i < t.length) (e : cutF t i = (p, j)) : CutR t (ps ++ [p]) j

noncomputable def PV (H : AHeap) (t : T) (v : V) : Pt → Prop
  | .lit s => v = .str s
  | .dir i => ∃ a, v = .ref a ∧ H a = some (.tup (tupOf t i))
noncomputable def PVs (H : AHeap) (t : T) : List V → List Pt → Prop
  | [], [] => True
  | v :: vs, p :: ps => PV H t v p ∧ PVs H t vs ps
  | _, _ => False
theorem PV.mono {H H' : AHeap} {t : T} {v : V} {p : Pt} (h : PV H t v p) (k : ∀ a vs, H a = some (.tup vs) → H' a = some (.tup vs)) : PV H' t v p := by
  cases p with
  | lit s => exact h
  | dir i => obtain ⟨a, e, q⟩ := h; exact ⟨a, e, k _ _ q⟩
theorem PVs.snoc {H H' : AHeap} {t : T} {v : V} {p : Pt} (k : ∀ a vs, H a = some (.tup vs) → H' a = some (.tup vs)) (hp : PV H' t v p) : ∀ {vs : List V} {ps : List Pt}, PVs H t vs ps → PVs H' t (vs ++ [v]) (ps ++ [p])
  | [], [], _ => ⟨hp, trivial⟩
  | _ :: _, _ :: _, ⟨h, r⟩ => ⟨h.mono k, r.snoc k hp⟩

theorem szE_ge {t : T} {i : Nat} : i ≤ szE t i := by
  unfold szE
  split
  · exact Nat.le_trans (Nat.le_succ _) (indexAt_ge _ _)
  · exact run_ge _ _ _
theorem size_two {t : T} {i : Nat} : (readSize t i).2.1 = szS t i ∧ (readSize t i).2.2 = szE t i := by
  unfold readSize szS szE
  by_cases h : t[i]? = some 42
  · rw [if_pos h, if_pos h, if_pos h]; exact ⟨rfl, rfl⟩
  · rw [if_neg h, if_neg h, if_neg h]
    by_cases h2 : figV (figs t i) < 0
    · rw [if_pos h2]
      have e : figs t i = [] := by
        by_cases e : figs t i = []
        · exact e
        · have := numG_nn (figs t i); rw [figV_num e] at h2; omega
      exact ⟨rfl, by show i = i + (figs t i).length; rw [e]; rfl⟩
    · rw [if_neg h2]; exact ⟨rfl, rfl⟩
theorem point_eq (t : T) (i : Nat) : rdPoint t i = szE t (rdWidth t i) := size_two.2
theorem prec_end (t : T) (i : Nat) : (rdPrec t i).2.2 = if t[rdPoint t i]? = some 46 then szE t (rdPoint t i + 1) else rdPoint t i := by
  unfold rdPrec
  split
  · exact size_two.2
  · rfl
theorem le_al {t : T} {i : Nat} (ha : Al t) : rdLe t i = match t[rdLetter t i]? with
    | some c => if c ∈ [100, 115, 120, 99] then [c] else []
    | none => [] := by
  unfold rdLe
  cases e : t[rdLetter t i]? with
  | none => rfl
  | some c =>
    have := (by decide : ∀ c ∈ sgn, isLetter c = decide (c ∈ [100, 115, 120, 99])) c (ha c (List.mem_of_getElem? e))
    dsimp only
    rw [this]
    by_cases h : c ∈ [100, 115, 120, 99]
    · rw [decide_eq_true h, if_pos rfl, if_pos h]
    · rw [decide_eq_false h, if_neg (by decide), if_neg h]

theorem wordc {c : Nat} : ([c] : T) ∈ [[100], [115], [120], [99]] ↔ c ∈ [100, 115, 120, 99] := by simp
end Mine
end

section
set_option genSizeOf false
set_option genSizeOfSpec false
open PySem PySem.W PyProof.Rows PySem.Calls
set_option Elab.async false
set_option maxRecDepth 100000
set_option linter.unusedVariables false
set_option linter.unusedSimpArgs false
namespace Mine
variable {g : G} {H : AHeap} {n : Nat} {Q : V → AHeap → Prop} {X : AHeap → Prop} {loc : Loc}

theorem S_as2 {Q : Fl → Loc → AHeap → Prop} {i j : Nat} {a b : C} (h : wpE g n loc a (fun va H₁ => wpE g n loc b (fun vb H₂ => Q .next ((loc.set j (some vb)).set i (some va)) H₂) X H₁) X H) : wpS g n (.assign2 i j a b) Q X loc H := h

def CI (H : AHeap) (t : T) (pl : Addr) (l : Loc) (H₁ : AHeap) : Prop := ∃ (vs : List V) (ps : List Pt) (i : Nat) (x3 x4 x5 x6 x7 x8 x9 x10 x11 : Option V),
  l = [some (.str t), some (.ref pl), some (.int i), x3, x4, x5, x6, x7, x8, x9, x10, x11, none, none, none, none] ∧ Ext H H₁ ∧ H₁ pl = some (.list vs) ∧ PVs H₁ t vs ps ∧ CutR t ps i ∧ vs.length ≤ i ∧ i ≤ t.length + 1
theorem CI.app {t : T} {pl : Addr} {H₁ : AHeap} {vs : List V} {ps : List Pt} {i j : Nat} {p : Pt} {v : V} {x3 x4 x5 x6 x7 x8 x9 x10 x11 : Option V} (hpl : H pl = none) (E : Ext H H₁) (e : H₁ pl = some (.list vs)) (hp : PVs H₁ t vs ps) (r : CutR t ps i) (hn : vs.length ≤ i)
    (hi : i < t.length) (hc : cutF t i = (p, j)) (hv : PV H₁ t v p) (hj : i < j) (hj2 : j ≤ t.length + 1) :
    CI H t pl [some (.str t), some (.ref pl), some (.int j), x3, x4, x5, x6, x7, x8, x9, x10, x11, none, none, none, none] (upd H₁ pl (.list (vs ++ [v]))) := by
  have k : ∀ a vs', H₁ a = some (.tup vs') → upd H₁ pl (.list (vs ++ [v])) a = some (.tup vs') := fun a vs' q => by
    rw [upd_ne _ _ (fun z => by rw [z, e] at q; cases q)]; exact q
  refine ⟨vs ++ [v], ps ++ [p], j, x3, x4, x5, x6, x7, x8, x9, x10, x11, rfl, fun b o q => ?_, upd_same _ _ _, PVs.snoc k (hv.mono k) hp, .snoc r hi hc, ?_, hj2⟩
  · rw [upd_ne _ _ (fun z => by rw [z, hpl] at q; cases q)]; exact E _ _ q
  · rw [List.length_append]; exact Nat.lt_of_le_of_lt hn hj

theorem PVs.ext {H H' : AHeap} {t : T} (k : Ext H H') : ∀ {vs : List V} {ps : List Pt}, PVs H t vs ps → PVs H' t vs ps
  | [], [], _ => trivial
  | _ :: _, _ :: _, ⟨h, r⟩ => ⟨h.mono fun a vs q => k _ _ q, r.ext k⟩

noncomputable def cutEnd : Mine.S :=
        (.seq (.assign (.loc 2) (.call "_law_run" (.cons (.loc 0) (.cons (.loc 2) (.cons (.lit (.str [108])) .nil)))))
        (.seq (.ite (.cmp .In (.slice (.loc 0) (.loc 2) (.bin .Add (.loc 2) (.lit (.int 1)))) (.tup (.cons (.lit (.str [100])) (.cons (.lit (.str [115])) (.cons (.lit (.str [120])) (.cons (.lit (.str [99])) .nil))))))
          (.seq (.expr (.meth "append" (.loc 1) (.cons (.tup (.cons (.loc 4) (.cons (.loc 6) (.cons (.loc 7) (.cons (.loc 8) (.cons (.loc 9) (.cons (.loc 10) (.cons (.loc 11) (.cons (.sub (.loc 0) (.loc 2)) .nil))))))))) .nil)))
          .nil)
          (.seq (.expr (.meth "append" (.loc 1) (.cons (.slice (.loc 0) (.loc 3) (.bin .Add (.loc 2) (.lit (.int 1)))) .nil)))
          .nil))
        (.seq (.assign (.loc 2) (.bin .Add (.loc 2) (.lit (.int 1))))
        .nil)))

theorem cut_end (W : LFam g) {t : T} {H₁ H5 : AHeap} {pl : Addr} {vs : List V} {ps : List Pt} {i : Nat} {x5 : Option V} (ha : Al t) (hl : t.length ≤ 64) (hpl : H pl = none) (E : Ext H H₁) (e : H₁ pl = some (.list vs)) (hp : PVs H₁ t vs ps) (r : CutR t ps i)
    (hvn : vs.length ≤ i) (hlt : i < t.length) (hc37 : t[i]? = some 37) (h2' : ¬ t[i + 1]? = some 37) (E5 : Ext H₁ H5) {R : Fl → Loc → AHeap → Prop} (hR : ∀ l H', CI H t pl l H' → t.length - (intAt l 2).toNat < t.length - i → R .next l H') :
    wpS g 3 cutEnd R X [some (.str t), some (.ref pl), some (.int (rdPrec t (i + 1)).2.2), some (.int i), some (.int (indexAt t (i + 1)).1), x5, some (.str ((t.take (rdWidth t (i + 1))).drop (rdFlags t (i + 1)))), some (.str (szW t (rdWidth t (i + 1)))), some (oN (szS t (rdWidth t (i + 1)))),
      some (.str (ptP t (i + 1))), some (.str (ptX t (i + 1))), some (oN (ptS t (i + 1))), none, none, none, none] H5 := by
  have hlv := lim_val
  have hlim : t.length ≤ lim := le_lim hl (by decide)
  have hl10 : t.length + 10 ≤ lim := by omega
  have hvl : vs.length ≤ lim := by omega
  have hi1' : i + 1 ≤ t.length := hlt
  have hf : rdFlags t (i + 1) ≤ t.length := indexAt_le hi1'
  have hf2 : i + 1 ≤ rdFlags t (i + 1) := indexAt_ge _ _
  have hw : rdWidth t (i + 1) ≤ t.length := run_le _ _ _ hf
  have hw2 : rdFlags t (i + 1) ≤ rdWidth t (i + 1) := run_ge _ _ _
  have hpt : rdPoint t (i + 1) ≤ t.length := by rw [point_eq]; exact szE_le hw
  have hpt2 : rdWidth t (i + 1) ≤ rdPoint t (i + 1) := by rw [point_eq]; exact szE_ge
  have hpr : (rdPrec t (i + 1)).2.2 ≤ t.length := by
    rw [prec_end]; split
    · rename_i hc; exact szE_le (List.getElem?_eq_some_iff.mp hc).1
    · exact hpt
  have hpr2 : rdPoint t (i + 1) ≤ (rdPrec t (i + 1)).2.2 := by
    rw [prec_end]; split
    · exact Nat.le_trans (Nat.le_succ _) szE_ge
    · exact Nat.le_refl _
  have hL : rdLetter t (i + 1) ≤ t.length := run_le _ _ _ hpr
  have hL2 : (rdPrec t (i + 1)).2.2 ≤ rdLetter t (i + 1) := run_ge _ _ _
  have e5 := E5 _ _ e
  unfold cutEnd
  refine S_seq (S_set ?_)
  simp only [ze1, ze2, ze8, zl1, zl2, List.getElem?_cons_zero, List.getElem?_cons_succ, List.set_cons_zero, List.set_cons_succ]
  refine c_run W (i := (rdPrec t (i + 1)).2.2) (by decide) hlim ?_
  rw [al_size ha]
  change wpS g 3 _ _ X [_, _, some (.int ((rdLetter t (i + 1) : Nat) : Int)), _, _, _, _, _, _, _, _, _, _, _, _, _] H5
  refine S_seq (S_ite ?_)
  simp only [ze1, ze2, ze3, ze15, ze17, zl1, zl2, zt1, List.getElem?_cons_zero, List.getElem?_cons_succ, kb1]
  refine sl1 (t := t) (i := rdLetter t (i + 1)) hl10 (by omega) ?_
  refine ⟨by rw [lim_val]; show 4 ≤ _; decide, fun a4 ha4 => ?_⟩
  have E6 := E5.trans (Ext.upd (o := .tup [.str [100], .str [115], .str [120], .str [99]]) ha4)
  have q6 : Mine.upd H5 a4 (.tup [.str [100], .str [115], .str [120], .str [99]]) a4 = _ := upd_same _ _ _
  generalize Mine.upd H5 a4 (.tup [.str [100], .str [115], .str [120], .str [99]]) = H6 at *
  have e6 := E6 _ _ e
  simp only [kc17]
  refine ⟨_, _, q6, rfl, ?_⟩
  have fin : ∀ (H7 : AHeap) (v : V) (p : Pt) (l : Loc), Ext H₁ H7 → PV H7 t v p → cutF t i = (p, rdLetter t (i + 1) + 1) → CI H t pl [some (.str t), some (.ref pl), some (.int ((rdLetter t (i + 1) + 1 : Nat) : Int)), some (.int i), some (.int (indexAt t (i + 1)).1), x5, some (.str ((t.take (rdWidth t (i + 1))).drop (rdFlags t (i + 1)))), some (.str (szW t (rdWidth t (i + 1)))), some (oN (szS t (rdWidth t (i + 1)))),
      some (.str (ptP t (i + 1))), some (.str (ptX t (i + 1))), some (oN (ptS t (i + 1))), none, none, none, none] (Mine.upd H7 pl (.list (vs ++ [v]))) := fun H7 v p l E7 hv hcut =>
    CI.app (j := rdLetter t (i + 1) + 1) hpl (E.trans E7) (E7 _ _ e) (hp.ext E7) r hvn hlt hcut hv (by omega) (by exact (Nat.succ_le_succ (by assumption)))
  have cF : cutF t i = if rdLe t (i + 1) = [] then (.lit ((t.take (rdLetter t (i + 1) + 1)).drop i), rdLetter t (i + 1) + 1) else (.dir (i + 1), rdLetter t (i + 1) + 1) := by
    unfold cutF; rw [if_pos hc37, if_neg h2']
  have hμ : t.length - (rdLetter t (i + 1) + 1) < t.length - i := by omega
  have no : rdLe t (i + 1) = [] → wpS g 3 (.seq (.expr (.meth "append" (.loc 1) (.cons (.slice (.loc 0) (.loc 3) (.bin .Add (.loc 2) (.lit (.int 1)))) .nil))) .nil) (sq g 3 (.seq (.assign (.loc 2) (.bin .Add (.loc 2) (.lit (.int 1)))) .nil) R X) X
      [some (.str t), some (.ref pl), some (.int ((rdLetter t (i + 1) : Nat) : Int)), some (.int i), some (.int (indexAt t (i + 1)).1), x5, some (.str ((t.take (rdWidth t (i + 1))).drop (rdFlags t (i + 1)))), some (.str (szW t (rdWidth t (i + 1)))), some (oN (szS t (rdWidth t (i + 1)))),
      some (.str (ptP t (i + 1))), some (.str (ptX t (i + 1))), some (oN (ptS t (i + 1))), none, none, none, none] H6 := by
    intro hle
    refine S_seq (S_expr ?_)
    simp only [ze1, ze2, ze3, ze12, ze15, zl1, zl2, List.getElem?_cons_zero, List.getElem?_cons_succ]
    refine ⟨⟨.inl (by trivial), _, e6⟩, ?_⟩
    simp only [kb1]
    refine sl2 (t := t) (i := i) (j := rdLetter t (i + 1) + 1) hl10 (by omega) (by omega) ?_
    simp only [km6]
    refine ⟨_, e6, hvl, (by trivial), ?_⟩
    refine S_nil (S_seq (S_set ?_))
    simp only [ze1, ze2, ze3, List.getElem?_cons_zero, List.getElem?_cons_succ, List.set_cons_zero, List.set_cons_succ, kb1]
    exact S_nil (hR _ _ (fin H6 _ (.lit _) [] E6 rfl (by rw [cF, if_pos hle])) hμ)
  rw [cut1]
  cases hcx : t[rdLetter t (i + 1)]? with
  | none =>
    have hle : rdLe t (i + 1) = [] := by rw [le_al ha, hcx]
    refine ite_f (by decide) ?_
    exact no hle
  | some c =>
    by_cases hcc : c ∈ [100, 115, 120, 99]
    · have hle : rdLe t (i + 1) = [c] := by rw [le_al ha, hcx]; exact if_pos hcc
      refine ite_t (wordc.mpr hcc) ?_
      refine S_seq (S_expr ?_)
      simp only [ze2, ze12, ze14, ze17, zl1, zl2, List.getElem?_cons_zero, List.getElem?_cons_succ]
      refine ⟨⟨.inl (by trivial), _, e6⟩, ?_⟩
      simp only [ku1]
      refine ⟨Int.natCast_nonneg _, hlim, c, hcx, ?_⟩
      refine ⟨by rw [lim_val]; show 8 ≤ _; decide, fun b hb => ?_⟩
      have E7 := E6.trans (Ext.upd (o := .tup (tupOf t (i + 1))) hb)
      have et : ([.int (indexAt t (i + 1)).1, .str ((t.take (rdWidth t (i + 1))).drop (rdFlags t (i + 1))), .str (szW t (rdWidth t (i + 1))), oN (szS t (rdWidth t (i + 1))), .str (ptP t (i + 1)), .str (ptX t (i + 1)), oN (ptS t (i + 1)), .str [c]] : List V) = tupOf t (i + 1) := by unfold tupOf; rw [hle]
      simp only [km6]
      rw [et]
      refine ⟨_, E7 _ _ e, hvl, (by trivial), ?_⟩
      refine S_nil (S_seq (S_set ?_))
      simp only [ze1, ze2, ze3, List.getElem?_cons_zero, List.getElem?_cons_succ, List.set_cons_zero, List.set_cons_succ, kb1]
      exact S_nil (hR _ _ (fin _ _ (.dir (i + 1)) [] E7 ⟨b, rfl, upd_same _ _ _⟩ (by rw [cF, if_neg (by rw [hle]; exact List.cons_ne_nil _ _)])) hμ)
    · have hle : rdLe t (i + 1) = [] := by rw [le_al ha, hcx]; exact if_neg hcc
      refine ite_f (fun z => hcc (wordc.mp z)) ?_
      exact no hle

theorem c_cut (W : LFam g) {t : T} (hn : 4 ≤ n) (ha : Al t) (hl : t.length ≤ 64)
    (hQ : ∀ a H' vs ps j, H a = none → Ext H H' → H' a = some (.list vs) → PVs H' t vs ps → CutR t ps j → t.length ≤ j → vs.length ≤ 65 → Q (.ref a) H') : CallSem g n "_law_cut" [.str t] H Q X := by
  refine CallSem.mono (n := 3 + 1) (call_intro W.G W.D (W.lfn ("_law_cut", F__law_cut) (List.mem_of_getElem? (i := 5) rfl)) rfl ?_) hn
  show wpS g 3 b__law_cut _ X [some (.str t), none, none, none, none, none, none, none, none, none, none, none, none, none, none, none] H
  unfold b__law_cut
  have hlv := lim_val
  have hlim : t.length ≤ lim := le_lim hl (by decide)
  have hl10 : t.length + 10 ≤ lim := by omega
  refine S_seq (S_set ?_)
  simp only [ze16, zl1, List.set_cons_zero, List.set_cons_succ]
  refine ⟨by rw [lim_val]; decide, fun pl hpl => ?_⟩
  refine S_seq (S_set ?_)
  simp only [ze1, List.set_cons_zero, List.set_cons_succ]
  refine S_seq (S_while (CI H t pl) (fun l _ => t.length - (intAt l 2).toNat) ⟨[], [], 0, _, _, _, _, _, _, _, _, _, rfl, Ext.upd hpl, upd_same _ _ _, trivial, .nil, Nat.le_refl _, Nat.zero_le _⟩ ?_)
  rintro l H₁ ⟨vs, ps, i, x3, x4, x5, x6, x7, x8, x9, x10, x11, rfl, E, e, hp, r, hvn, hi1⟩
  simp only [ze2, ze10, zl1, zl2, zt1, List.getElem?_cons_zero, List.getElem?_cons_succ, kc9, kf1]
  refine ⟨hlim, ?_⟩
  by_cases hge : t.length ≤ i
  · refine ite_f (fun z => Nat.not_lt.mpr hge (Int.ofNat_lt.mp z)) ?_
    refine S_seq (S_ret ?_)
    simp only [ze2, List.getElem?_cons_zero, List.getElem?_cons_succ]
    exact hQ _ _ _ _ _ hpl E e hp r hge (by omega)
  have hlt := Nat.lt_of_not_le hge
  refine ite_t (Int.ofNat_lt.mpr hlt) ?_
  have hc := List.getElem?_eq_getElem hlt
  have hvl : vs.length ≤ lim := by omega
  have μ : ∀ j, i < j → ∀ l : Loc, t.length - j < t.length - i := fun j hj _ => by omega
  refine S_seq (S_ite ?_)
  simp only [ze1, ze2, ze14, zt1, List.getElem?_cons_zero, List.getElem?_cons_succ, ku1]
  refine ⟨Int.natCast_nonneg _, hlim, t[i], hc, ?_⟩
  simp only [kc8]
  by_cases h38 : t[i] ≠ 37
  · refine ite_t (fun z => h38 (by injection z)) ?_
    refine S_seq (S_expr ?_)
    simp only [ze2, ze12, ze14, zl1, zl2, List.getElem?_cons_zero, List.getElem?_cons_succ]
    refine ⟨⟨.inl (by trivial), _, e⟩, ?_⟩
    simp only [ku1]
    refine ⟨Int.natCast_nonneg _, hlim, t[i], hc, ?_⟩
    simp only [km6]
    refine ⟨_, e, hvl, (by trivial), ?_⟩
    refine S_seq (S_set ?_)
    simp only [ze1, ze2, ze3, List.getElem?_cons_zero, List.getElem?_cons_succ, List.set_cons_zero, List.set_cons_succ, kb1]
    have hcut : cutF t i = (.lit [t[i]], i + 1) := by
      unfold cutF; rw [if_neg (by rw [hc]; intro z; injection z with z; exact h38 z), hc]; rfl
    exact S_nil (S_nil ⟨CI.app (j := i + 1) hpl E e hp r hvn hlt hcut rfl (Nat.lt_succ_self _) (by omega), μ (i + 1) (Nat.lt_succ_self _) []⟩)
  have h37 : t[i] = 37 := Decidable.not_not.mp h38
  refine ite_f (fun z => z (by rw [h37])) ?_
  have hc37 : t[i]? = some 37 := by rw [hc, h37]
  refine S_seq (S_ite ?_)
  simp only [ze1, ze2, ze3, ze15, zt1, List.getElem?_cons_zero, List.getElem?_cons_succ, kb1]
  refine sl2 (t := t) (i := i + 1) (j := i + 2) hl10 (by exact (Nat.succ_le_succ (by assumption))) (by omega) ?_
  have ecut : (t.take (i + 2)).drop (i + 1) = [37] ↔ t[i + 1]? = some 37 := cut1_eq (i := i + 1)
  by_cases h2 : (t.take (i + 2)).drop (i + 1) = [37]
  · refine ite_t h2 ?_
    have h2' := ecut.mp h2
    refine S_seq (S_expr ?_)
    simp only [ze1, ze2, ze12, zl1, zl2, List.getElem?_cons_zero, List.getElem?_cons_succ]
    refine ⟨⟨.inl (by trivial), _, e⟩, ?_⟩
    simp only [km6]
    refine ⟨_, e, hvl, (by trivial), ?_⟩
    refine S_seq (S_set ?_)
    simp only [ze1, ze2, ze3, List.getElem?_cons_zero, List.getElem?_cons_succ, List.set_cons_zero, List.set_cons_succ, kb1]
    have hcut : cutF t i = (.lit [37], i + 2) := by
      unfold cutF; rw [if_pos hc37, if_pos h2']
    have := (List.getElem?_eq_some_iff.mp h2').1
    exact S_nil (S_nil (S_nil ⟨CI.app (j := i + 2) hpl E e hp r hvn hlt hcut rfl (by omega) (by exact (Nat.succ_le_succ (by assumption))), μ (i + 2) (by omega) []⟩))
  refine ite_f h2 ?_
  have h2' : ¬ t[i + 1]? = some 37 := fun z => h2 (ecut.mpr z)
  have hi1' : i + 1 ≤ t.length := hlt
  have hf : rdFlags t (i + 1) ≤ t.length := indexAt_le hi1'
  have hw : rdWidth t (i + 1) ≤ t.length := run_le _ _ _ hf
  have hpt : rdPoint t (i + 1) ≤ t.length := by rw [point_eq]; exact szE_le hw
  refine S_seq (S_set ?_)
  simp only [ze2, List.getElem?_cons_zero, List.getElem?_cons_succ, List.set_cons_zero, List.set_cons_succ]
  -- the place
  refine S_seq (S_tup ?_)
  simp only [ze1, ze2, ze3, ze8, zl1, zl2, List.getElem?_cons_zero, List.getElem?_cons_succ, kb1]
  refine c_place W (i := i + 1) (by decide) ha hl hi1' fun a1 H2 E2 q2 => ?_
  refine ⟨_, q2, rfl, by rw [lim_val]; show 2 ≤ _; decide, ?_⟩
  simp only [zL1, zL2, zk1, List.set_cons_zero, List.set_cons_succ]
  -- the flags
  refine S_seq (S_set ?_)
  simp only [ze1, ze2, ze8, zl1, zl2, List.getElem?_cons_zero, List.getElem?_cons_succ, List.set_cons_zero, List.set_cons_succ]
  refine c_run W (i := rdFlags t (i + 1)) (by decide) hlim ?_
  refine S_seq (S_as2 ?_)
  simp only [ze2, ze15, List.getElem?_cons_zero, List.getElem?_cons_succ, List.set_cons_zero, List.set_cons_succ]
  refine sl2 (t := t) (i := rdFlags t (i + 1)) (j := rdWidth t (i + 1)) hl10 (by omega) (by omega) ?_
  -- the width
  refine S_seq (S_tup ?_)
  simp only [ze2, ze8, zl1, zl2, List.getElem?_cons_zero, List.getElem?_cons_succ]
  refine c_sized W (i := rdWidth t (i + 1)) (Nat.le_refl _) ha hl hw fun a2 H3 E3 q3 => ?_
  refine ⟨_, q3, rfl, by rw [lim_val]; show 3 ≤ _; decide, ?_⟩
  simp only [zL1, zL2, zk1, List.set_cons_zero, List.set_cons_succ]
  rw [← point_eq]
  -- the point
  refine S_seq (S_tup ?_)
  simp only [ze1, ze17, zl1, zl2]
  refine ⟨by rw [lim_val]; show 3 ≤ _; decide, fun a3 ha3 => ?_⟩
  refine ⟨_, upd_same _ _ _, rfl, by rw [lim_val]; show 3 ≤ _; decide, ?_⟩
  simp only [zL1, zL2, zk1, List.set_cons_zero, List.set_cons_succ]
  have E4 := (E2.trans E3).trans (Ext.upd (o := .tup [.str [], .str [], .none]) ha3)
  generalize Mine.upd H3 a3 (.tup [.str [], .str [], .none]) = H4 at *
  refine S_seq (S_ite ?_)
  simp only [ze1, ze2, ze3, ze15, zt1, List.getElem?_cons_zero, List.getElem?_cons_succ, kb1]
  refine sl1 (t := t) (i := rdPoint t (i + 1)) hl10 (by omega) ?_
  by_cases h46 : (t.take (rdPoint t (i + 1) + 1)).drop (rdPoint t (i + 1)) = [46]
  · refine ite_t h46 ?_
    have h46' := cut1_eq.mp h46
    have hlt2 := (List.getElem?_eq_some_iff.mp h46').1
    refine S_seq (S_set ?_)
    simp only [ze1, List.set_cons_zero, List.set_cons_succ]
    refine S_seq (S_tup ?_)
    simp only [ze1, ze2, ze3, ze8, zl1, zl2, List.getElem?_cons_zero, List.getElem?_cons_succ, kb1]
    refine c_sized W (i := rdPoint t (i + 1) + 1) (Nat.le_refl _) ha hl hlt2 fun a5 H5 E5 q5 => ?_
    refine ⟨_, q5, rfl, by rw [lim_val]; show 3 ≤ _; decide, ?_⟩
    simp only [zL1, zL2, zk1, List.set_cons_zero, List.set_cons_succ]
    have := fun (R : Fl → Loc → AHeap → Prop) hR => cut_end (X := X) (R := R) W (x5 := some (.int (rdWidth t (i + 1)))) ha hl hpl E e hp r hvn hlt hc37 h2' (E4.trans E5) hR
    rw [prec_end, if_pos h46'] at this
    unfold ptP ptX ptS at this
    rw [if_pos h46', if_pos h46', if_pos h46'] at this
    exact S_nil (this _ fun l H' h hm => S_nil (S_nil ⟨h, hm⟩))
  · refine ite_f h46 ?_
    have h46' : ¬ t[rdPoint t (i + 1)]? = some 46 := fun z => h46 (cut1_eq.mpr z)
    have := fun (R : Fl → Loc → AHeap → Prop) hR => cut_end (X := X) (R := R) W (x5 := some (.int (rdWidth t (i + 1)))) ha hl hpl E e hp r hvn hlt hc37 h2' E4 hR
    rw [prec_end, if_neg h46'] at this
    unfold ptP ptX ptS at this
    rw [if_neg h46', if_neg h46', if_neg h46'] at this
    exact S_nil (this _ fun l H' h hm => S_nil (S_nil ⟨h, hm⟩))
end Mine
end

section
set_option genSizeOf false
set_option genSizeOfSpec false
open PySem PySem.W PyProof.Rows PySem.Calls
set_option Elab.async false
set_option maxRecDepth 100000
set_option linter.unusedVariables false
set_option linter.unusedSimpArgs false
namespace Mine
variable {g : G} {H : AHeap} {n : Nat} {Q : V → AHeap → Prop} {X : AHeap → Prop} {loc : Loc}

theorem c_value (W : LFam g) {vl se : Addr} {vs : List V} {k ix : Nat} (hn : 1 ≤ n) (hv : H vl = some (.list vs)) (hvn : vs.length ≤ 1000) (hs : H se = some (.list [.int k])) (hne : vl ≠ se)
    (hQ : Q (takeV vs k ix) (upd H se (.list [.int (nextK k ix)]))) : CallSem g n "_law_value" [.ref vl, .int ix, .ref se] H Q X := by
  refine CallSem.mono (n := 0 + 1) (call_intro W.G W.D (W.lfn ("_law_value", F__law_value) (List.mem_of_getElem? (i := 6) rfl)) rfl ?_) hn
  show wpS g 0 b__law_value _ X [some (.ref vl), some (.int ix), some (.ref se), none] H
  unfold b__law_value
  have hl1 : 1 ≤ lim := by rw [lim_val]; decide
  have hlv : vs.length ≤ lim := by rw [lim_val]; exact (le_lim (by assumption) (by decide))
  have tail : ∀ (H' : AHeap) (p : Nat), H' vl = some (.list vs) → 1 ≤ p → takeV vs k ix = (vs[p - 1]?).getD .none → H' = upd H se (.list [.int (nextK k ix)]) → wpS g 0   (.seq (.ret (.ite (.cmp .LtE (.loc 1) (.bi "len" (.cons (.loc 0) .nil))) (.sub (.loc 0) (.bin .Sub (.loc 1) (.lit (.int 1)))) (.lit .none)))
  .nil) (fp Q) X [some (.ref vl), some (.int p), some (.ref se), none] H' := by
    intro H' p hv' hp ht hH
    refine S_seq (S_ret ?_)
    simp only [ze1, ze2, ze3, ze7, ze10, ze14, zl1, zl2, zt1, List.getElem?_cons_zero, List.getElem?_cons_succ, kb4, kc10, kf2]
    refine ⟨vs, .inl hv', hlv, ?_⟩
    subst hH
    by_cases h : p ≤ vs.length
    · have h' : (p : Int) ≤ vs.length := by exact (Int.ofNat_le.mpr (by assumption))
      have h3 : p - 1 < vs.length := by omega
      simp only [h', decide_true, if_true, ku2]
      refine ⟨by omega, vs, .inl (.inl hv'), hlv, vs[p - 1], ?_, ?_⟩
      · rw [show ((p : Int) - 1).toNat = p - 1 from by exact (toN_pred (by assumption))]; exact List.getElem?_eq_getElem h3
      · rw [ht, List.getElem?_eq_getElem h3] at hQ; exact hQ
    · have h' : ¬ (p : Int) ≤ vs.length := by omega
      refine ite_f (h') ?_
      rw [ht, List.getElem?_eq_none (by omega)] at hQ; exact hQ
  refine S_seq (S_ite ?_)
  simp only [ze1, ze2, zt1, List.getElem?_cons_zero, List.getElem?_cons_succ, kc1]
  by_cases h0 : ix = 0
  · subst h0
    simp only [Int.ofNat_zero, decide_true, if_true]
    refine S_seq (S_setS ?_)
    simp only [ze1, ze2, ze3, ze14, List.getElem?_cons_zero, List.getElem?_cons_succ, ku2]
    refine ⟨by decide, _, .inl (.inl hs), hl1, _, rfl, ?_⟩
    refine ⟨_, hs, by decide, by show (0 : Int) < 1; decide, hl1, ?_⟩
    refine S_seq (S_set ?_)
    simp only [ze1, ze2, ze14, List.getElem?_cons_zero, List.getElem?_cons_succ, List.set_cons_zero, List.set_cons_succ, ku2]
    refine ⟨by decide, _, .inl (.inl (upd_same _ _ _)), hl1, _, rfl, ?_⟩
    refine S_nil ?_
    refine tail _ (k + 1) ?_ (by omega) rfl rfl
    rw [upd_ne _ _ hne]; exact hv
  · have h' : ¬ (ix : Int) = 0 := by omega
    refine ite_f (h') ?_
    refine S_nil (tail H ix hv (by exact (Nat.pos_of_ne_zero (by assumption))) ?_ ?_)
    · unfold takeV takeAt; rw [if_neg h0]
    · unfold nextK; rw [if_neg h0]; exact (upd_self hs).symm

/-! ## the values and their numbers -/
def LV (v : V) : Prop := v = .none ∨ (∃ i : Int, v = .int i ∧ i.natAbs ≤ 12) ∨ v = .str [51, 120] ∨ v = .str [97, 98]
theorem LV.plain {v : V} (h : LV v) : Plain v := by
  rcases h with h | ⟨i, h1, h2⟩ | h | h
  · exact .inl h
  · exact .inr (.inl ⟨i, h1, Nat.lt_of_le_of_lt h2 (by decide)⟩)
  · exact .inr (.inr ⟨_, h, by decide⟩)
  · exact .inr (.inr ⟨_, h, by decide⟩)
theorem num3 : numericText [51, 120] 64 = 3 := by decide +kernel
theorem num0 : numericText [97, 98] 64 = 0 := by decide +kernel
theorem LV.num {v : V} (h : LV v) : (toNum v 64).natAbs ≤ 12 := by
  rcases h with rfl | ⟨i, rfl, h2⟩ | rfl | rfl
  · exact Nat.zero_le _
  · exact h2
  · show (numericText [51, 120] 64).natAbs ≤ 12; rw [num3]; decide
  · show (numericText [97, 98] 64).natAbs ≤ 12; rw [num0]; decide
theorem takeV_lv {vs : List V} {k ix : Nat} (h : ∀ v ∈ vs, LV v) : LV (takeV vs k ix) := by
  unfold takeV
  cases e : vs[takeAt k ix]? with
  | none => exact .inl rfl
  | some v => exact h _ (List.mem_of_getElem? e)

theorem c_number (W : LFam g) {v : V} (hn : 1 ≤ n) (h : LV v) (hQ : Q (.int (toNum v 64)) H) : CallSem g n "_law_number" [v] H Q X := by
  refine CallSem.mono (n := 0 + 1) (call_intro W.G W.D (W.lfn ("_law_number", F__law_number) (List.mem_of_getElem? (i := 7) rfl)) rfl ?_) hn
  show wpS g 0 b__law_number _ X [some v, none, none] H
  unfold b__law_number
  refine S_seq (S_ret ?_)
  rcases h with rfl | ⟨i, rfl, h2⟩ | rfl | rfl
  · simp only [ze1, ze2, ze7, ze11, zt1, zt5, List.getElem?_cons_zero, kc4, kt1, ky1, Bool.false_eq_true, if_false]; exact hQ
  · simp only [ze1, ze2, ze7, ze11, zt1, zt5, List.getElem?_cons_zero, kt1, ky2, if_true]; exact hQ
  · simp only [ze1, ze2, ze7, ze11, zt1, zt5, List.getElem?_cons_zero, kc2, kt1, ky3, Bool.false_eq_true, if_false, decide_true, kc2, kt1, ky3, if_true]
    rw [show toNum (.str [51, 120]) 64 = 3 from num3] at hQ; exact hQ
  · simp only [ze1, ze2, ze7, ze11, zt1, zt5, List.getElem?_cons_zero, kc2, kt1, ky3, Bool.false_eq_true, if_false]
    rw [show toNum (.str [97, 98]) 64 = 0 from num0] at hQ
    exact ite_f (by decide) hQ

/-! ## the law's telling of a part -/
noncomputable def tW (t : T) (vs : List V) (i k : Nat) : T × T × Nat := match szS t (rdWidth t i) with
  | none => ((t.take (rdWidth t i)).drop (rdFlags t i), szW t (rdWidth t i), k)
  | some ix => ((t.take (rdWidth t i)).drop (rdFlags t i) ++ (if toNum (takeV vs k ix) 64 < 0 then [45] else []), if toNum (takeV vs k ix) 64 ≠ 0 then decText (toNum (takeV vs k ix) 64).natAbs else [], nextK k ix)
noncomputable def tP (t : T) (vs : List V) (i k : Nat) : T × T × Nat := match ptS t i with
  | none => (ptP t i, ptX t i, k)
  | some ix => (if 0 ≤ toNum (takeV vs k ix) 64 then [46] else [], if 0 ≤ toNum (takeV vs k ix) 64 then decText (toNum (takeV vs k ix) 64) else [], nextK k ix)
noncomputable def aloneT (t : T) (vs : List V) (i k : Nat) : T := [37] ++ (tW t vs i k).1 ++ (tW t vs i k).2.1 ++ (tP t vs i (tW t vs i k).2.2).1 ++ (tP t vs i (tW t vs i k).2.2).2.1 ++ rdLe t i
theorem dec_len : ∀ m : Nat, m ≤ 12 → (decText (m : Int)).length ≤ 2 := by decide
end Mine
end

section
set_option genSizeOf false
set_option genSizeOfSpec false
open PySem PySem.W PyProof.Rows PySem.Calls
set_option Elab.async false
set_option maxRecDepth 100000
set_option linter.unusedVariables false
set_option linter.unusedSimpArgs false
namespace Mine
variable {g : G} {H : AHeap} {n : Nat} {Q : V → AHeap → Prop} {X : AHeap → Prop} {loc : Loc}

noncomputable def tEnd : Mine.S :=
  (.seq (.ret (.tup (.cons (.bin .Add (.bin .Add (.bin .Add (.bin .Add (.bin .Add (.lit (.str [37])) (.loc 4)) (.loc 5)) (.loc 7)) (.loc 8)) (.loc 10)) (.cons (.call "_law_value" (.cons (.loc 1) (.cons (.loc 3) (.cons (.loc 2) .nil)))) .nil))))
  .nil)
noncomputable def tMid : Mine.S :=
  (.seq (.ite (.cmp .IsNot (.loc 9) (.lit .none))
    (.seq (.assign (.loc 11) (.call "_law_number" (.cons (.call "_law_value" (.cons (.loc 1) (.cons (.loc 9) (.cons (.loc 2) .nil)))) .nil)))
    (.seq (.assign (.loc 8) (.ite (.cmp .GtE (.loc 11) (.lit (.int 0))) (.bi "str" (.cons (.loc 11) .nil)) (.lit (.str []))))
    (.seq (.assign (.loc 7) (.ite (.cmp .GtE (.loc 11) (.lit (.int 0))) (.lit (.str [46])) (.lit (.str []))))
    .nil)))
    .nil)
  tEnd)

theorem told_end (W : LFam g) {vl se : Addr} {vs : List V} {k ix : Nat} {fl wd pt ex le : T} {x0 x6 x9 x11 : Option V} (hvl : H vl = some (.list vs)) (hvn : vs.length ≤ 1000) (hs : H se = some (.list [.int k])) (hne : vl ≠ se)
    (h1 : fl.length ≤ 100) (h2 : wd.length ≤ 100) (h3 : pt.length ≤ 100) (h4 : ex.length ≤ 100) (h5 : le.length ≤ 100)
    (hQ : ∀ b H', ExtX [se] H H' → H' b = some (.tup [.str ([37] ++ fl ++ wd ++ pt ++ ex ++ le), takeV vs k ix]) → H' se = some (.list [.int (nextK k ix)]) → Q (.ref b) H') :
    wpS g 1 tEnd (fp Q) X [x0, some (.ref vl), some (.ref se), some (.int ix), some (.str fl), some (.str wd), x6, some (.str pt), some (.str ex), x9, some (.str le), x11, none, none, none, none] H := by
  have hlv := lim_val
  unfold tEnd
  refine S_seq (S_ret ?_)
  simp only [ze1, ze2, ze3, ze8, ze17, zl1, zl2, List.getElem?_cons_zero, List.getElem?_cons_succ, kb2]
  refine ⟨by show 1 + fl.length ≤ lim; omega, ?_⟩
  refine ⟨by rw [List.length_append]; show 1 + fl.length + wd.length ≤ lim; omega, ?_⟩
  refine ⟨by rw [List.length_append, List.length_append]; show 1 + fl.length + wd.length + pt.length ≤ lim; omega, ?_⟩
  refine ⟨by rw [List.length_append, List.length_append, List.length_append]; show 1 + fl.length + wd.length + pt.length + ex.length ≤ lim; omega, ?_⟩
  refine ⟨by rw [List.length_append, List.length_append, List.length_append, List.length_append]; show 1 + fl.length + wd.length + pt.length + ex.length + le.length ≤ lim; omega, ?_⟩
  refine c_value W (Nat.le_refl _) hvl hvn hs hne ?_
  refine ⟨by rw [lim_val]; show 2 ≤ _; decide, fun b hb => ?_⟩
  have hbs : b ≠ se := fun e => by rw [e, upd_same] at hb; cases hb
  refine hQ b _ (fun a o h h' => ?_) (upd_same _ _ _) ?_
  · have hx : ExtX [se] H (upd H se (.list [.int (nextK k ix)])) := ExtX.upd (by simp)
    exact Ext.upd hb _ _ (hx a o h h')
  · rw [upd_ne _ _ (Ne.symm hbs), upd_same]

theorem told_mid (W : LFam g) {t : T} {i : Nat} {vl se : Addr} {vs : List V} {k ix : Nat} {fl wd le : T} {x0 x6 x11 : Option V} (hl : t.length ≤ 64) (hLV : ∀ v ∈ vs, LV v) (hvl : H vl = some (.list vs)) (hvn : vs.length ≤ 1000) (hs : H se = some (.list [.int k])) (hne : vl ≠ se)
    (h1 : fl.length ≤ 100) (h2 : wd.length ≤ 100) (h4 : (ptX t i).length ≤ 100) (h5 : le.length ≤ 100)
    (hQ : ∀ b H', ExtX [se] H H' → H' b = some (.tup [.str ([37] ++ fl ++ wd ++ (tP t vs i k).1 ++ (tP t vs i k).2.1 ++ le), takeV vs (tP t vs i k).2.2 ix]) → H' se = some (.list [.int (nextK (tP t vs i k).2.2 ix)]) → Q (.ref b) H') :
    wpS g 1 tMid (fp Q) X [x0, some (.ref vl), some (.ref se), some (.int ix), some (.str fl), some (.str wd), x6, some (.str (ptP t i)), some (.str (ptX t i)), some (oN (ptS t i)), some (.str le), x11, none, none, none, none] H := by
  unfold tMid
  unfold tP at hQ
  have hpt : (ptP t i).length ≤ 100 := by unfold ptP; split <;> decide
  refine S_seq (S_ite ?_)
  simp only [ze1, ze2, zt1, List.getElem?_cons_zero, List.getElem?_cons_succ, kc14]
  cases hps : ptS t i with
  | none =>
    rw [hps] at hQ
    dsimp only at hQ
    refine ite_f (fun z => z rfl) ?_
    exact S_nil (told_end W hvl hvn hs hne h1 h2 hpt h4 h5 hQ)
  | some iy =>
    rw [hps] at hQ
    dsimp only at hQ
    refine ite_t (by intro z; cases z) ?_
    refine S_seq (S_set ?_)
    simp only [ze2, ze8, zl1, zl2, List.getElem?_cons_zero, List.getElem?_cons_succ, List.set_cons_zero, List.set_cons_succ, oN]
    refine c_value W (Nat.le_refl _) hvl hvn hs hne ?_
    have hv1 : upd H se (.list [.int (nextK k iy)]) vl = some (.list vs) := by rw [upd_ne _ _ hne]; exact hvl
    have hx : ExtX [se] H (upd H se (.list [.int (nextK k iy)])) := ExtX.upd (by simp)
    have hs1 : upd H se (.list [.int (nextK k iy)]) se = some (.list [.int ((nextK k iy : Nat) : Int)]) := upd_same _ _ _
    generalize Mine.upd H se (.list [.int (nextK k iy)]) = H1 at *
    have hv := takeV_lv (k := k) (ix := iy) hLV
    refine c_number W (Nat.le_refl _) hv ?_
    have hn := hv.num
    generalize toNum (takeV vs k iy) 64 = x at *
    have hQ' : ∀ pt ex : T, pt = (if 0 ≤ x then [46] else []) → ex = (if 0 ≤ x then decText x else []) → ∀ b H', ExtX [se] H1 H' → H' b = some (.tup [.str ([37] ++ fl ++ wd ++ pt ++ ex ++ le), takeV vs (nextK k iy) ix]) → H' se = some (.list [.int (nextK (nextK k iy) ix)]) → Q (.ref b) H' := by
      rintro pt ex rfl rfl b H' e q r
      exact hQ b H' (fun a o h h' => e a o h (hx a o h h')) q r
    refine S_seq (S_set ?_)
    simp only [ze1, ze2, ze7, ze10, zl1, zl2, zt1, List.getElem?_cons_zero, List.getElem?_cons_succ, List.set_cons_zero, List.set_cons_succ, kc12, kf7]
    by_cases h0 : 0 ≤ x
    · refine ite_t h0 ?_
      refine ⟨⟨by exact (Int.lt_of_lt_of_le (b := 0) (by decide) (by assumption)), by omega⟩, ?_⟩
      refine S_seq (S_set ?_)
      refine ite_t h0 ?_
      have hdl : (decText x).length ≤ 100 := by
        obtain ⟨m, rfl⟩ := Int.eq_ofNat_of_zero_le h0
        exact Nat.le_trans (dec_len m (by exact (by assumption))) (by decide)
      simp only [ze1, List.set_cons_zero, List.set_cons_succ]
      exact S_nil (told_end W hv1 hvn hs1 hne h1 h2 (by decide) hdl h5 (hQ' [46] (decText x) (if_pos h0).symm (if_pos h0).symm))
    · refine ite_f h0 ?_
      refine S_seq (S_set ?_)
      refine ite_f h0 ?_
      simp only [ze1, List.set_cons_zero, List.set_cons_succ]
      exact S_nil (told_end W hv1 hvn hs1 hne h1 h2 (Nat.zero_le _) (Nat.zero_le _) h5 (hQ' [] [] (if_neg h0).symm (if_neg h0).symm))

theorem figs_le (t : T) (i : Nat) : (figs t i).length ≤ t.length := by
  unfold figs
  exact Nat.le_trans (List.takeWhile_sublist _).length_le (by rw [List.length_drop]; exact Nat.sub_le _ _)
theorem szW_len (t : T) (i : Nat) : (szW t i).length ≤ t.length := by
  unfold szW; split
  · exact Nat.zero_le _
  · exact figs_le t i

theorem c_told (W : LFam g) {t : T} {i : Nat} {a vl se : Addr} {vs : List V} {k : Nat} (hn : 2 ≤ n) (hl : t.length ≤ 64) (hLV : ∀ v ∈ vs, LV v) (ht : H a = some (.tup (tupOf t i))) (hvl : H vl = some (.list vs)) (hvn : vs.length ≤ 1000) (hs : H se = some (.list [.int k])) (hne : vl ≠ se)
    (hQ : ∀ b H', ExtX [se] H H' → H' b = some (.tup [.str (aloneT t vs i k), takeV vs (tP t vs i (tW t vs i k).2.2).2.2 (indexAt t i).1]) → H' se = some (.list [.int (nextK (tP t vs i (tW t vs i k).2.2).2.2 (indexAt t i).1)]) → Q (.ref b) H') :
    CallSem g n "_law_told" [.ref a, .ref vl, .ref se] H Q X := by
  refine CallSem.mono (n := 1 + 1) (call_intro W.G W.D (W.lfn ("_law_told", F__law_told) (List.mem_of_getElem? (i := 8) rfl)) rfl ?_) hn
  show wpS g 1 b__law_told _ X [some (.ref a), some (.ref vl), some (.ref se), none, none, none, none, none, none, none, none, none, none, none, none, none] H
  unfold b__law_told
  have hlv := lim_val
  have hfl : ((t.take (rdWidth t i)).drop (rdFlags t i)).length ≤ 64 := by rw [List.length_drop, List.length_take]; omega
  have hsw := szW_len t (rdWidth t i)
  have hpx : (ptX t i).length ≤ 100 := by
    unfold ptX; split
    · exact Nat.le_trans (szW_len _ _) (by exact (Nat.le_trans (by assumption) (by decide)))
    · exact Nat.zero_le _
  have hle : (rdLe t i).length ≤ 100 := by unfold rdLe; split <;> (try split) <;> first | exact Nat.zero_le _ | (show 1 ≤ 100; decide)
  unfold aloneT at hQ
  refine S_seq (S_tup ?_)
  simp only [ze2, List.getElem?_cons_zero]
  refine ⟨_, ht, rfl, by rw [lim_val]; show 8 ≤ _; decide, ?_⟩
  unfold tupOf
  simp only [zL1, zL2, zk1, List.set_cons_zero, List.set_cons_succ]
  refine S_seq (S_ite ?_)
  simp only [ze1, ze2, zt1, List.getElem?_cons_zero, List.getElem?_cons_succ, kc14]
  unfold tW at hQ
  cases hss : szS t (rdWidth t i) with
  | none =>
    rw [hss] at hQ
    dsimp only at hQ
    refine ite_f (fun z => z rfl) ?_
    exact S_nil (told_mid W hl hLV hvl hvn hs hne (by exact (Nat.le_trans (by assumption) (by decide))) (by omega) hpx hle hQ)
  | some iy =>
    rw [hss] at hQ
    dsimp only at hQ
    refine ite_t (by intro z; cases z) ?_
    refine S_seq (S_set ?_)
    simp only [ze2, ze8, zl1, zl2, List.getElem?_cons_zero, List.getElem?_cons_succ, List.set_cons_zero, List.set_cons_succ, oN]
    refine c_value W (Nat.le_refl _) hvl hvn hs hne ?_
    have hv1 : upd H se (.list [.int (nextK k iy)]) vl = some (.list vs) := by rw [upd_ne _ _ hne]; exact hvl
    have hx : ExtX [se] H (upd H se (.list [.int (nextK k iy)])) := ExtX.upd (by simp)
    have hs1 : upd H se (.list [.int (nextK k iy)]) se = some (.list [.int ((nextK k iy : Nat) : Int)]) := upd_same _ _ _
    generalize Mine.upd H se (.list [.int (nextK k iy)]) = H1 at *
    have hv := takeV_lv (k := k) (ix := iy) hLV
    refine c_number W (Nat.le_refl _) hv ?_
    have hnum := hv.num
    generalize toNum (takeV vs k iy) 64 = x at *
    have key : ∀ sg wd : T, sg = (if x < 0 then [45] else []) → wd = (if x ≠ 0 then decText x.natAbs else []) → sg.length ≤ 1 → wd.length ≤ 100 →
        wpS g 1 tMid (fp Q) X [some (.ref a), some (.ref vl), some (.ref se), some (.int (indexAt t i).1), some (.str ((t.take (rdWidth t i)).drop (rdFlags t i) ++ sg)), some (.str wd), some (.int iy), some (.str (ptP t i)), some (.str (ptX t i)), some (oN (ptS t i)), some (.str (rdLe t i)), some (.int x), none, none, none, none] H1 := by
      intro sg wd e1 e2 l1 l2
      subst e1; subst e2
      exact told_mid W hl hLV hv1 hvn hs1 hne (by rw [List.length_append]; omega) l2 hpx hle fun b H' e q r => hQ b H' (fun a o h h' => e a o h (hx a o h h')) q r
    refine S_seq (S_set ?_)
    simp only [ze1, ze2, ze3, ze7, zt1, List.getElem?_cons_zero, List.getElem?_cons_succ, List.set_cons_zero, List.set_cons_succ, kb2, kc9]
    have wide : ∀ sg : T, sg = (if x < 0 then [45] else []) → sg.length ≤ 1 → wpS g 1 (.seq (.assign (.loc 5) (.ite (.cmp .NotEq (.loc 11) (.lit (.int 0))) (.bi "str" (.cons (.bi "abs" (.cons (.loc 11) .nil)) .nil)) (.lit (.str [])))) .nil) (sq g 1 tMid (fp Q) X) X
        [some (.ref a), some (.ref vl), some (.ref se), some (.int (indexAt t i).1), some (.str ((t.take (rdWidth t i)).drop (rdFlags t i) ++ sg)), some (.str (szW t (rdWidth t i))), some (.int iy), some (.str (ptP t i)), some (.str (ptX t i)), some (oN (ptS t i)), some (.str (rdLe t i)), some (.int x), none, none, none, none] H1 := by
      intro sg e1 l1
      refine S_seq (S_set ?_)
      simp only [ze1, ze2, ze7, ze10, zl1, zl2, zt1, List.getElem?_cons_zero, List.getElem?_cons_succ, List.set_cons_zero, List.set_cons_succ, kc7, kf5, kf7]
      by_cases h0 : x ≠ 0
      · refine ite_t h0 ?_
        refine ⟨⟨by exact (Int.natCast_nonneg _), by omega⟩, ?_⟩
        exact S_nil (key sg _ e1 (if_pos h0).symm l1 (Nat.le_trans (dec_len _ hnum) (by decide)))
      · refine ite_f h0 ?_
        exact S_nil (key sg _ e1 (if_neg h0).symm l1 (Nat.zero_le _))
    by_cases hlt : x < 0
    · refine ite_t hlt ?_
      refine ⟨by show _ + 1 ≤ lim; exact (Nat.lt_of_le_of_lt (by assumption) (by decide)), ?_⟩
      exact wide [45] (if_pos hlt).symm (Nat.le_refl _)
    · refine ite_f hlt ?_
      refine ⟨by show _ + 0 ≤ lim; exact (le_lim (by assumption) (by decide)), ?_⟩
      exact wide [] (if_neg hlt).symm (Nat.zero_le _)
end Mine
end

section
set_option genSizeOf false
set_option genSizeOfSpec false
open PySem PySem.W PyProof.Rows PySem.Calls
set_option Elab.async false
set_option maxRecDepth 100000
set_option linter.unusedVariables false
set_option linter.unusedSimpArgs false
namespace Mine

/-! ## the walk over a template, in steps -/
inductive Reach (t : T) (vs : List V) (w : Nat) (tx : Int) : Nat → Nat → List (Option T) → Nat → Nat → Prop
  | nil (i k : Nat) : Reach t vs w tx i k [] i k
  | step {i k j k' l k'' : Nat} {p : Option T} {ps : List (Option T)} (h : i < t.length) (e : stepF t vs w tx i k = (p, j, k')) (hj : i < j) (r : Reach t vs w tx j k' ps l k'') : Reach t vs w tx i k (p :: ps) l k''

theorem Reach.app {t : T} {vs : List V} {w : Nat} {tx : Int} {i k j k' l k'' : Nat} {ps qs : List (Option T)} (h : Reach t vs w tx i k ps j k') (h2 : Reach t vs w tx j k' qs l k'') : Reach t vs w tx i k (ps ++ qs) l k'' := by
  induction h with
  | nil i k => exact h2
  | step h e hj r ih => exact .step h e hj (ih h2)
theorem Reach.one {t : T} {vs : List V} {w : Nat} {tx : Int} {i k j k' : Nat} {p : Option T} (h : i < t.length) (e : stepF t vs w tx i k = (p, j, k')) (hj : i < j) : Reach t vs w tx i k [p] j k' := .step h e hj (.nil _ _)

noncomputable def comb (tx : Int) : Int → List (Option T) → Option (List T)
  | _, [] => some []
  | _, none :: _ => none
  | s, some p :: r => if tx < s + p.length then none else (comb tx (s + p.length) r).map (p :: ·)
noncomputable def joinO : List (Option T) → Option T
  | [] => some []
  | none :: _ => none
  | some p :: r => (joinO r).map (p ++ ·)
theorem joinO_app (ps qs : List (Option T)) : joinO (ps ++ qs) = (joinO ps).bind fun a => (joinO qs).map (a ++ ·) := by
  induction ps with
  | nil => show joinO qs = (joinO qs).map ([] ++ ·); cases joinO qs <;> rfl
  | cons p r ih =>
    cases p with
    | none => rfl
    | some p =>
      show (joinO (r ++ qs)).map (p ++ ·) = ((joinO r).map (p ++ ·)).bind fun a => (joinO qs).map (a ++ ·)
      rw [ih]
      cases joinO r with
      | none => rfl
      | some a => cases joinO qs <;> simp

noncomputable def cap (tx : Int) : Option T → Option T
  | none => none
  | some s => if tx < s.length then none else some s

theorem comb_join (tx : Int) : ∀ (ps : List (Option T)) (size : Int), size ≤ tx → (comb tx size ps).map List.flatten = (match joinO ps with
    | none => none
    | some s => if tx < size + s.length then none else some s) := by
  intro ps
  induction ps with
  | nil =>
    intro size h
    show some [] = if tx < size + ((0 : Nat) : Int) then none else some []
    rw [if_neg (by omega)]
  | cons p r ih =>
    intro size h
    cases p with
    | none => rfl
    | some p =>
      show ((if tx < size + p.length then none else (comb tx (size + p.length) r).map (p :: ·)) : Option (List T)).map List.flatten = (match (joinO r).map (p ++ ·) with
        | none => none
        | some s => if tx < size + s.length then none else some s)
      by_cases hb : tx < size + p.length
      · rw [if_pos hb]
        cases joinO r with
        | none => rfl
        | some s =>
          show none = if tx < size + ((p ++ s).length : Nat) then none else some (p ++ s)
          rw [if_pos]
          rw [List.length_append]; omega
      · rw [if_neg hb]
        have := ih (size + p.length) (by exact (Int.not_lt.mp (by assumption)))
        cases hj : joinO r with
        | none =>
          rw [hj] at this
          cases hc : comb tx (size + p.length) r with
          | none => rfl
          | some q => rw [hc] at this; cases this
        | some s =>
          rw [hj] at this
          show _ = if tx < size + ((p ++ s).length : Nat) then none else some (p ++ s)
          dsimp only at this
          rw [List.length_append]
          cases hc : comb tx (size + p.length) r with
          | none =>
            rw [hc] at this
            by_cases h5 : tx < size + ↑p.length + ↑s.length
            · rw [if_pos (by omega)]; rfl
            · rw [if_neg h5] at this; cases this
          | some q =>
            rw [hc] at this
            by_cases h5 : tx < size + ↑p.length + ↑s.length
            · rw [if_pos h5] at this; cases this
            · rw [if_neg h5] at this
              rw [if_neg (by omega)]
              simp only [Option.map_some, Option.some.injEq] at this ⊢
              rw [List.flatten_cons, this]

theorem reach_go {t : T} {vs : List V} {w : Nat} {tx : Int} {i k l k' : Nat} {ps : List (Option T)} (h : Reach t vs w tx i k ps l k') : l = t.length → ∀ size, fmtGo t vs w tx i k size = comb tx size ps := by
  induction h with
  | nil i k =>
    intro e size
    rw [fmtGo.eq_1, if_neg (by omega)]; rfl
  | @step i k j k' l k'' p ps h e hj r ih =>
    intro el size
    rw [fmtGo.eq_1, if_pos h, e]
    cases p with
    | none => rfl
    | some p =>
      dsimp only
      rw [Nat.max_eq_right (by exact (by assumption) : i + 1 ≤ j), ih el]
      rfl
theorem fmt_reach {t : T} {vs : List V} {w : Nat} {tx : Int} {k' : Nat} {ps : List (Option T)} (h : Reach t vs w tx 0 0 ps t.length k') (h0 : 0 ≤ tx) : fmt t vs w tx = cap tx (joinO ps) := by
  unfold fmt
  rw [reach_go h rfl, comb_join tx ps 0 h0]
  unfold cap
  cases joinO ps with
  | none => rfl
  | some s => dsimp only; rw [Int.zero_add]
/-! ## reading what was built -/
theorem drop_app {t a b : T} {i : Nat} (h : t.drop i = a ++ b) : t.drop (i + a.length) = b := by
  rw [← List.drop_drop, h, List.drop_left]
theorem get_drop {t b : T} {i c : Nat} (h : t.drop i = c :: b) : t[i]? = some c := by
  have : (t.drop i)[0]? = some c := by rw [h]; rfl
  rw [List.getElem?_drop] at this
  simpa using this
theorem get_none {t : T} {i : Nat} (h : t.drop i = []) : t[i]? = none := by
  have : (t.drop i)[0]? = none := by rw [h]; rfl
  rw [List.getElem?_drop] at this
  trivial
theorem head_get {t : T} {i : Nat} : t[i]? = (t.drop i).head? := by
  cases h : t.drop i with
  | nil => exact get_none h
  | cons c b => exact get_drop h
def stops (p : Nat → Bool) (b : T) : Prop := ∀ c, b.head? = some c → p c = false
theorem take_app {p : Nat → Bool} {a b : T} (ha : ∀ c ∈ a, p c = true) (hb : stops p b) : (a ++ b).takeWhile p = a := by
  rw [List.takeWhile_append_of_pos ha]
  cases b with
  | nil => simp
  | cons c r => rw [List.takeWhile_cons_of_neg (by rw [hb c rfl]; simp), List.append_nil]
theorem run_app {p : Nat → Bool} {t a b : T} {i : Nat} (h : t.drop i = a ++ b) (ha : ∀ c ∈ a, p c = true) (hb : stops p b) : run p t i = i + a.length := by
  unfold run
  rw [h, take_app ha hb]
theorem figs_app {t a b : T} {i : Nat} (h : t.drop i = a ++ b) (ha : ∀ c ∈ a, isFig c = true) (hb : stops isFig b) : figs t i = a := by
  unfold figs
  rw [h, take_app ha hb]
theorem idx_some {t ds b : T} {i q : Nat} (h : t.drop i = ds ++ 36 :: b) (ha : ∀ c ∈ ds, isFig c = true) (hf : figV ds = q) (hq : 0 < q) : indexAt t i = (q, i + ds.length + 1) := by
  have hs : stops isFig (36 :: b) := fun c e => by cases e; decide
  have e1 := figs_app h ha hs
  have e2 := run_app h ha hs
  have e3 := get_drop (drop_app h)
  have ok : idxOk t i := ⟨by rw [e1, hf]; exact (Int.ofNat_le.mpr (by assumption)), by rw [e2]; exact e3⟩
  unfold indexAt
  rw [if_pos ok, e1, e2, hf, Int.toNat_natCast]
def noIdx (l : T) : Prop := (l.dropWhile isFig).head? ≠ some 36
theorem idx_none {t : T} {i : Nat} (h : noIdx (t.drop i)) : indexAt t i = (0, i) := by
  unfold indexAt
  rw [if_neg]
  rintro ⟨_, h2⟩
  apply h
  rw [head_get] at h2
  unfold run at h2
  rw [← List.drop_drop] at h2
  rw [← h2]
  congr 1
  have : ∀ l : T, l.dropWhile isFig = l.drop (l.takeWhile isFig).length := by
    intro l
    induction l with
    | nil => rfl
    | cons c r ih =>
      by_cases hc : isFig c = true
      · rw [List.dropWhile_cons_of_pos hc, List.takeWhile_cons_of_pos hc, List.length_cons, List.drop_succ_cons, ih]
      · rw [List.dropWhile_cons_of_neg hc, List.takeWhile_cons_of_neg hc]; rfl
  exact this _
theorem cut_app {t a b : T} {j : Nat} (h : t.drop j = a ++ b) : (t.take (j + a.length)).drop j = a := by
  rw [List.drop_take, h, Nat.add_sub_cancel_left, List.take_left]


theorem noIdx_mem {l : T} (h : 36 ∉ l) : noIdx l := by
  unfold noIdx
  intro e
  have : 36 ∈ l.dropWhile isFig := by
    cases q : l.dropWhile isFig with
    | nil => rw [q] at e; cases e
    | cons a r => rw [q] at e; cases e; exact .head _
  exact h ((List.dropWhile_sublist _).mem this)
theorem read_num {t a r : T} {i : Nat} (h : t.drop i = a ++ r) (ha : ∀ c ∈ a, isFig c = true) (hr : stops isFig r) (h42 : (a ++ r).head? ≠ some 42) : readSize t i = (if a = [] then none else some (figV a), none, i + a.length) := by
  unfold readSize
  rw [if_neg (by rw [head_get, h]; exact h42), figs_app h ha hr, run_app h ha hr]
  by_cases e : a = []
  · subst e; rw [if_pos (by decide)]; rfl
  · have := numG_nn a
    rw [figV_num e, if_neg (Int.not_lt.mpr this), if_neg e]

theorem le_facts {c : Nat} (h : c ∈ [100, 115, 120, 99]) : isFig c = false ∧ c ≠ 36 ∧ c ≠ 42 ∧ isFlag c = false ∧ c ≠ 46 ∧ isSizeS c = false ∧ isLetter c = true :=
  (by decide : ∀ c ∈ ([100, 115, 120, 99] : T), isFig c = false ∧ c ≠ 36 ∧ c ≠ 42 ∧ isFlag c = false ∧ c ≠ 46 ∧ isSizeS c = false ∧ isLetter c = true) c h
theorem fig_no {c d : Nat} (h : isFig c = true) (hd : isFig d = false) : c ≠ d := fun e => by rw [e, hd] at h; cases h
theorem flag_no {c d : Nat} (h : isFlag c = true) (hd : isFlag d = false) : c ≠ d := fun e => by rw [e, hd] at h; cases h

/-- what stands alone is read as it was told -/
theorem read_alone {A fl wd pt ex : T} {c : Nat} (hA : A = [37] ++ fl ++ wd ++ pt ++ ex ++ [c]) (hfl : ∀ x ∈ fl, isFlag x = true) (hwd : ∀ x ∈ wd, isFig x = true) (hw0 : stops isFlag wd) (hpt : pt = [46] ∨ pt = [] ∧ ex = []) (hex : ∀ x ∈ ex, isFig x = true) (hc : c ∈ [100, 115, 120, 99]) :
    rdDir A 1 = ⟨0, fl, if wd = [] then none else some (figV wd), none, if pt = [46] then some (if ex = [] then 0 else figV ex) else none, none, [c]⟩ ∧ rdEnd A 1 = A.length := by
  obtain ⟨c1, c2, c3, c4, c5, c6, c7⟩ := le_facts hc
  have hd : A.drop 1 = fl ++ (wd ++ (pt ++ (ex ++ [c]))) := by rw [hA]; simp
  have hhead : ∀ (p : Nat → Bool) (l : T), p c = false → (pt ≠ [] → p 46 = false) → (pt = [] → l = []) → stops p (pt ++ (l ++ [c])) := by
    intro p l h1 h2 h3 x hx
    rcases hpt with e | ⟨e, _⟩
    · rw [e] at hx; cases hx; exact h2 (by rw [e]; exact List.cons_ne_nil _ _)
    · rw [e, h3 e] at hx; cases hx; exact h1
  have hex0 : pt = [] → ex = [] := fun e => by rcases hpt with h | h; (rw [e] at h; cases h); exact h.2
  have s2 : stops isFig (pt ++ (ex ++ [c])) := hhead _ _ c1 (fun _ => by decide) hex0
  have s1 : stops isFlag (wd ++ (pt ++ (ex ++ [c]))) := by
    cases wd with
    | nil => exact hhead _ _ c4 (fun _ => by decide) hex0
    | cons x y => exact fun z hz => hw0 z hz
  have h36 : 36 ∉ fl ++ (wd ++ (pt ++ (ex ++ [c]))) := by
    intro h
    rcases List.mem_append.mp h with h | h
    · exact flag_no (hfl _ h) (by decide) rfl
    · rcases List.mem_append.mp h with h | h
      · exact fig_no (hwd _ h) (by decide) rfl
      · rcases List.mem_append.mp h with h | h
        · rcases hpt with e | ⟨e, _⟩ <;> rw [e] at h
          · exact absurd (List.mem_singleton.mp h) (by decide)
          · cases h
        · rcases List.mem_append.mp h with h | h
          · exact fig_no (hex _ h) (by decide) rfl
          · exact c2 (List.mem_singleton.mp h).symm
  have i1 : indexAt A 1 = (0, 1) := idx_none (by rw [hd]; exact noIdx_mem h36)
  have f1 : rdFlags A 1 = 1 := by unfold rdFlags; rw [i1]
  have w1 : rdWidth A 1 = 1 + fl.length := by unfold rdWidth; rw [f1]; exact run_app hd hfl s1
  have d2 : A.drop (1 + fl.length) = wd ++ (pt ++ (ex ++ [c])) := drop_app hd
  have n42 : (wd ++ (pt ++ (ex ++ [c]))).head? ≠ some 42 := by
    cases wd with
    | nil =>
      intro e
      rcases hpt with h | ⟨h, h'⟩
      · rw [h] at e; cases e
      · rw [h, h'] at e; cases e; exact c3 rfl
    | cons x y => intro e; cases e; exact fig_no (hwd _ (.head _)) (by decide : isFig 42 = false) rfl
  have r1 : readSize A (rdWidth A 1) = (if wd = [] then none else some (figV wd), none, 1 + fl.length + wd.length) := by rw [w1]; exact read_num d2 hwd s2 n42
  have d3 : A.drop (1 + fl.length + wd.length) = pt ++ (ex ++ [c]) := drop_app d2
  have p1 : rdPoint A 1 = 1 + fl.length + wd.length := by unfold rdPoint; rw [r1]
  have fin : ∀ (p : Option Int) (e : Nat), rdPrec A 1 = (p, none, e) → A.drop e = [c] → e + 1 = A.length → rdDir A 1 = ⟨0, fl, if wd = [] then none else some (figV wd), none, p, none, [c]⟩ ∧ rdEnd A 1 = A.length := by
    intro p e h1 h2 h3
    have l1 : rdLetter A 1 = e := by
      unfold rdLetter; rw [h1]
      exact run_app (a := []) h2 (fun x hx => by cases hx) (fun x hx => by cases hx; exact c6)
    have l2 : rdLe A 1 = [c] := by unfold rdLe; rw [l1, get_drop h2]; exact if_pos c7
    refine ⟨?_, ?_⟩
    · unfold rdDir; rw [i1, r1, h1, l2, w1, f1, cut_app hd]
    · unfold rdEnd; rw [l1, h3]; exact Nat.min_self _
  rcases hpt with e | ⟨e, e'⟩
  · subst e
    have d4 : A.drop (1 + fl.length + wd.length + 1) = ex ++ [c] := drop_app (a := [46]) d3
    have n43 : (ex ++ [c]).head? ≠ some 42 := by
      cases ex with
      | nil => intro e; cases e; exact c3 rfl
      | cons x y => intro e; cases e; exact fig_no (hex _ (.head _)) (by decide : isFig 42 = false) rfl
    have r2 := read_num d4 hex (fun x hx => by cases hx; exact c1) n43
    have := fin (some (if ex = [] then 0 else figV ex)) (1 + fl.length + wd.length + 1 + ex.length) (by
      unfold rdPrec
      rw [p1, get_drop (b := ex ++ [c]) d3, if_pos rfl, r2]
      by_cases h : ex = []
      · rw [if_pos h, if_pos h, if_pos ⟨rfl, rfl⟩]
      · rw [if_neg h, if_neg h, if_neg (fun z => by cases z.1)]) (drop_app d4) (by rw [hA]; simp only [List.length_append, List.length_cons, List.length_nil] <;> omega)
    rw [if_pos rfl]; exact this
  · subst e; subst e'
    have := fin none (1 + fl.length + wd.length) (by
      unfold rdPrec
      rw [p1, get_drop (b := []) d3, if_neg (by intro e; cases e; exact c5 rfl)]) d3 (by rw [hA]; simp only [List.length_append, List.length_cons, List.length_nil] <;> omega)
    exact this
end Mine
end

section
set_option genSizeOf false
set_option genSizeOfSpec false
open PySem PySem.W PyProof.Rows PySem.Calls
set_option Elab.async false
set_option maxRecDepth 100000
set_option linter.unusedVariables false
set_option linter.unusedSimpArgs false
namespace Mine

theorem gap_of {d1 d2 : Dir} (h : d1.w = d2.w ∨ d2.w = some 0 ∧ d1.w = none) (a b : T) : gapOf d1 a b = gapOf d2 a b := by
  unfold gapOf
  rcases h with h | ⟨h, h'⟩
  · rw [h]
  · rw [h, h']
    show 0 = ((0 : Int) - a.length - b.length).toNat
    omega
theorem big_of {d1 d2 : Dir} {tx : Int} (h0 : 0 ≤ tx) (hp : d1.p = d2.p) (h : d1.w = d2.w ∨ d2.w = some 0 ∧ d1.w = none) : bigDir d1 tx = bigDir d2 tx := by
  unfold bigDir
  rw [hp]
  rcases h with h | ⟨h, h'⟩
  · rw [h]
  · rw [h, h']
    show (false || _) = (decide (tx < 0) || _)
    rw [decide_eq_false (Int.not_lt.mpr h0)]
theorem dirText_congr {d1 d2 : Dir} {v : V} {w : Nat} (hfl : d1.fl = d2.fl) (hle : d1.le = d2.le) (hp : d1.p = d2.p) (hg : ∀ a b, gapOf d1 a b = gapOf d2 a b) : dirText d1 v w = dirText d2 v w := by
  have hl : ∀ a b f, laid d1 a b f = laid d2 a b f := fun a b f => by unfold laid; rw [hg, hfl]
  unfold dirText textPart signedB unsA unsB unsG unsE
  rw [hfl, hle, hp]
  simp only [hl]

theorem dec_facts : ∀ m : Nat, m ≤ 12 → decText (m : Int) ≠ [] ∧ figV (decText (m : Int)) = m ∧ (∀ c ∈ decText (m : Int), isFig c = true) ∧ (m ≠ 0 → (decText (m : Int)).head?.all (fun c => !isFlag c) = true) := by decide
theorem run_end {p : Nat → Bool} {t : T} {i c : Nat} (h : t[run p t i]? = some c) : p c = false := by
  unfold run at h
  rw [head_get, ← List.drop_drop] at h
  have e : (t.drop i).drop ((t.drop i).takeWhile p).length = (t.drop i).dropWhile p := by
    conv => lhs; arg 2; rw [← List.takeWhile_append_dropWhile (p := p) (l := t.drop i)]
    rw [List.drop_left]
  rw [e] at h
  have := List.head?_dropWhile_not p (t.drop i)
  rw [h] at this
  exact Bool.not_eq_true _ ▸ (by simpa using this)
theorem figs_head {t : T} {i c : Nat} (h : (figs t i).head? = some c) : t[i]? = some c := by
  have h0 : (figs t i)[0]? = some c := by rw [← List.head?_eq_getElem?]; exact h
  have hl := (List.getElem?_eq_some_iff.mp h0).1
  have := figs_get hl
  rw [h0] at this; exact this
theorem figs_all {t : T} {i : Nat} : ∀ c ∈ figs t i, isFig c = true := fun c h => by
  unfold figs at h
  exact List.all_eq_true.mp List.all_takeWhile _ h
theorem flags_all {t : T} {i : Nat} : ∀ c ∈ (t.take (rdWidth t i)).drop (rdFlags t i), isFlag c = true := fun c h => by
  unfold rdWidth at h
  rw [run_cut] at h
  exact List.all_eq_true.mp List.all_takeWhile _ h
theorem size_one {t : T} {j : Nat} (h : szS t j = none) : (readSize t j).1 = if szW t j = [] then none else some (figV (szW t j)) := by
  unfold szS at h
  unfold readSize szW
  by_cases h2 : t[j]? = some 42
  · rw [if_pos h2] at h; cases h
  · rw [if_neg h2, if_neg h2]
    by_cases e : figs t j = []
    · rw [e, if_pos (by decide), if_pos rfl]
    · rw [figV_num e, if_neg (Int.not_lt.mpr (numG_nn _)), if_neg e]
theorem prec_star (t : T) (i : Nat) : (rdPrec t i).2.1 = ptS t i := by
  unfold rdPrec ptS
  split
  · exact size_two.1
  · rfl
theorem prec_one {t : T} {i : Nat} (h : ptS t i = none) : (rdPrec t i).1 = if ptP t i = [46] then some (if ptX t i = [] then 0 else figV (ptX t i)) else none := by
  unfold ptS at h
  unfold rdPrec ptP ptX
  by_cases h2 : t[rdPoint t i]? = some 46
  · rw [if_pos h2] at h
    rw [if_pos h2, if_pos h2, if_pos h2, if_pos rfl]
    dsimp only
    rw [size_one h, size_two.1, h]
    by_cases e : szW t (rdPoint t i + 1) = []
    · rw [if_pos e, if_pos e, if_pos ⟨rfl, rfl⟩]
    · rw [if_neg e, if_neg e, if_neg (fun z => by cases z.1)]
  · rw [if_neg h2, if_neg h2, if_neg h2]; rfl
theorem ptP_or (t : T) (i : Nat) : ptP t i = [46] ∨ ptP t i = [] ∧ ptX t i = [] := by
  unfold ptP ptX
  split
  · exact .inl rfl
  · exact .inr ⟨rfl, rfl⟩
theorem szW_all {t : T} {j : Nat} : ∀ c ∈ szW t j, isFig c = true := by
  unfold szW; split
  · intro c h; cases h
  · exact figs_all
theorem ptX_all {t : T} {j : Nat} : ∀ c ∈ ptX t j, isFig c = true := by
  unfold ptX; split
  · exact szW_all
  · intro c h; cases h

theorem wide_facts {x : Int} (hn : x.natAbs ≤ 12) : (∀ c ∈ (if x ≠ 0 then decText x.natAbs else []), isFig c = true) ∧ stops isFlag (if x ≠ 0 then decText x.natAbs else []) ∧
    ∀ w : Option Int, w = some (x.natAbs : Int) → ((if (if x ≠ 0 then decText x.natAbs else []) = [] then none else some (figV (if x ≠ 0 then decText x.natAbs else []))) = w ∨ w = some 0 ∧ (if (if x ≠ 0 then decText x.natAbs else []) = [] then none else some (figV (if x ≠ 0 then decText x.natAbs else [])) : Option Int) = none) := by
  obtain ⟨f1, f2, f3, f4⟩ := dec_facts x.natAbs hn
  by_cases h : x ≠ 0
  · simp only [if_pos h]
    refine ⟨f3, fun c hc => ?_, ?_⟩
    · have := f4 (by omega)
      rw [hc] at this
      simpa using this
    · rintro w rfl
      rw [if_neg f1, f2]; exact .inl rfl
  · simp only [if_neg h]
    refine ⟨(fun c h => by cases h), (fun c hc => by cases hc), ?_⟩
    rintro w rfl
    have : x = 0 := Decidable.not_not.mp h
    subst this; exact .inr ⟨rfl, rfl⟩

/-- the two halves of a directive, told and settled -/
theorem half_w {t : T} {vs : List V} {i k : Nat} (hLV : ∀ v ∈ vs, LV v) : (tW t vs i k).2.2 = (starW (rdDir t i) vs k 64).2 ∧ (tW t vs i k).1 = (starW (rdDir t i) vs k 64).1.fl ∧ (starW (rdDir t i) vs k 64).1.le = rdLe t i ∧
    (starW (rdDir t i) vs k 64).1.p = (rdPrec t i).1 ∧ (starW (rdDir t i) vs k 64).1.ps = ptS t i ∧ (∀ c ∈ (tW t vs i k).1, isFlag c = true) ∧ (∀ c ∈ (tW t vs i k).2.1, isFig c = true) ∧ stops isFlag (tW t vs i k).2.1 ∧
    ((if (tW t vs i k).2.1 = [] then none else some (figV (tW t vs i k).2.1)) = (starW (rdDir t i) vs k 64).1.w ∨ (starW (rdDir t i) vs k 64).1.w = some 0 ∧ (if (tW t vs i k).2.1 = [] then none else some (figV (tW t vs i k).2.1) : Option Int) = none) := by
  have hws : (rdDir t i).ws = szS t (rdWidth t i) := size_two.1
  have hps : (rdDir t i).ps = ptS t i := prec_star t i
  unfold tW starW
  rw [hws]
  cases hs : szS t (rdWidth t i) with
  | none =>
    refine ⟨rfl, rfl, rfl, rfl, hps, flags_all, szW_all, ?_, .inl (size_one hs).symm⟩
    intro c hc
    dsimp only at hc
    have : szW t (rdWidth t i) = figs t (rdWidth t i) := by
      unfold szS at hs; unfold szW
      split at hs
      · cases hs
      · rename_i h; rw [if_neg h]
    rw [this] at hc
    exact run_end (figs_head hc)
  | some iy =>
    have hn := (takeV_lv (k := k) (ix := iy) hLV).num
    obtain ⟨hw1, hw2, hw3⟩ := wide_facts hn
    dsimp only
    by_cases hx : toNum (takeV vs k iy) 64 < 0
    · rw [if_pos hx, if_pos hx]
      refine ⟨rfl, rfl, rfl, rfl, hps, ?_, hw1, hw2, hw3 _ (by show some (-toNum (takeV vs k iy) 64) = _; congr 1; omega)⟩
      intro c hc
      rcases List.mem_append.mp hc with h | h
      · exact flags_all c h
      · rw [List.mem_singleton.mp h]; decide
    · rw [if_neg hx, if_neg hx, List.append_nil]
      exact ⟨rfl, rfl, rfl, rfl, hps, flags_all, hw1, hw2, hw3 _ (by show some (toNum (takeV vs k iy) 64) = _; congr 1; omega)⟩

theorem half_p {t : T} {vs : List V} {i k : Nat} {d : Dir} (hLV : ∀ v ∈ vs, LV v) (hp : d.p = (rdPrec t i).1) (hps : d.ps = ptS t i) : (tP t vs i k).2.2 = (starP d vs k 64).2 ∧ (starP d vs k 64).1.le = d.le ∧ (starP d vs k 64).1.fl = d.fl ∧ (starP d vs k 64).1.w = d.w ∧
    ((tP t vs i k).1 = [46] ∨ (tP t vs i k).1 = [] ∧ (tP t vs i k).2.1 = []) ∧ (∀ c ∈ (tP t vs i k).2.1, isFig c = true) ∧ (starP d vs k 64).1.p = if (tP t vs i k).1 = [46] then some (if (tP t vs i k).2.1 = [] then 0 else figV (tP t vs i k).2.1) else none := by
  cases hs : ptS t i with
  | none =>
    have e : tP t vs i k = (ptP t i, ptX t i, k) := by unfold tP; rw [hs]
    have e2 : starP d vs k 64 = (d, k) := by unfold starP; rw [hps, hs]
    rw [e, e2]
    exact ⟨rfl, rfl, rfl, rfl, ptP_or t i, ptX_all, hp.trans (prec_one hs)⟩
  | some iy =>
    have hn := (takeV_lv (k := k) (ix := iy) hLV).num
    by_cases h : 0 ≤ toNum (takeV vs k iy) 64
    · obtain ⟨m, hm⟩ := Int.eq_ofNat_of_zero_le h
      have e : tP t vs i k = ([46], decText m, nextK k iy) := by unfold tP; rw [hs]; dsimp only; rw [if_pos h, if_pos h, hm]
      have e2 : starP d vs k 64 = ({ d with p := some (m : Int) }, nextK k iy) := by unfold starP; rw [hps, hs]; dsimp only; rw [if_neg (Int.not_lt.mpr h), hm]
      rw [hm] at hn
      obtain ⟨f1, f2, f3, _⟩ := dec_facts m (by exact (by assumption))
      rw [e, e2]
      refine ⟨rfl, rfl, rfl, rfl, .inl rfl, f3, ?_⟩
      show some (m : Int) = if [46] = [46] then some (if decText m = [] then 0 else figV (decText m)) else none
      rw [if_pos rfl, if_neg f1, f2]
    · have e : tP t vs i k = ([], [], nextK k iy) := by unfold tP; rw [hs]; dsimp only; rw [if_neg h, if_neg h]
      have e2 : starP d vs k 64 = ({ d with p := none }, nextK k iy) := by unfold starP; rw [hps, hs]; dsimp only; rw [if_pos (Int.not_le.mp h)]
      rw [e, e2]
      exact ⟨rfl, rfl, rfl, rfl, .inr ⟨rfl, rfl⟩, (fun c hc => by cases hc), rfl⟩

/-- a directive told alone is laid out as it is in its place -/
theorem alone_fmt {t : T} {vs : List V} {i k : Nat} (ha : Al t) (hLV : ∀ v ∈ vs, LV v) (hle : rdLe t i ≠ []) :
    (tP t vs i (tW t vs i k).2.2).2.2 = (stars (rdDir t i) vs k 64).2 ∧
    fmt (aloneT t vs i k) [takeV vs (stars (rdDir t i) vs k 64).2 (indexAt t i).1] 64 200 = cap 200 (dirF t vs 64 200 i k) := by
  obtain ⟨w1, w2, w3, w4, w5, w6, w7, w8, w9⟩ := half_w (t := t) (i := i) (k := k) hLV
  obtain ⟨p1, p2, p3, p4, p5, p6, p7⟩ := half_p (t := t) (i := i) (k := (tW t vs i k).2.2) hLV w4 w5
  have hk : (tP t vs i (tW t vs i k).2.2).2.2 = (stars (rdDir t i) vs k 64).2 := by rw [p1, w1]; rfl
  refine ⟨hk, ?_⟩
  obtain ⟨c, hc, hc2⟩ : ∃ c, rdLe t i = [c] ∧ c ∈ [100, 115, 120, 99] := by
    rw [le_al ha] at hle ⊢
    cases e : t[rdLetter t i]? with
    | none => rw [e] at hle; exact absurd rfl hle
    | some c =>
      rw [e] at hle
      dsimp only at hle ⊢
      by_cases h : c ∈ [100, 115, 120, 99]
      · exact ⟨c, if_pos h, h⟩
      · rw [if_neg h] at hle; exact absurd rfl hle
  have hA : aloneT t vs i k = [37] ++ (tW t vs i k).1 ++ (tW t vs i k).2.1 ++ (tP t vs i (tW t vs i k).2.2).1 ++ (tP t vs i (tW t vs i k).2.2).2.1 ++ [c] := by unfold aloneT; rw [hc]
  obtain ⟨rd, re⟩ := read_alone hA w6 w7 w8 p5 p6 hc2
  generalize hAt : aloneT t vs i k = A at *
  generalize hv : takeV vs (stars (rdDir t i) vs k 64).2 (indexAt t i).1 = v at *
  have hlen : 0 < A.length := by rw [hA]; simp
  have h0 : A[0]? = some 37 := by rw [hA]; rfl
  have h1 : A[0 + 1]? ≠ some 37 := by
    intro e
    have hd : A.drop 1 = (tW t vs i k).1 ++ ((tW t vs i k).2.1 ++ ((tP t vs i (tW t vs i k).2.2).1 ++ ((tP t vs i (tW t vs i k).2.2).2.1 ++ [c]))) := by rw [hA]; simp
    have hm : 37 ∈ A.drop 1 := List.mem_of_getElem? (i := 0) (by rw [List.getElem?_drop]; exact e)
    rw [hd] at hm
    rcases List.mem_append.mp hm with h | h
    · exact flag_no (w6 _ h) (by decide) rfl
    · rcases List.mem_append.mp h with h | h
      · exact fig_no (w7 _ h) (by decide) rfl
      · rcases List.mem_append.mp h with h | h
        · rcases p5 with e | ⟨e, _⟩ <;> rw [e] at h
          · exact absurd (List.mem_singleton.mp h) (by decide)
          · cases h
        · rcases List.mem_append.mp h with h | h
          · exact fig_no (p6 _ h) (by decide) rfl
          · have := List.mem_singleton.mp h
            subst this
            revert hc2; decide
  have hdF : dirF A [v] 64 200 1 0 = dirF t vs 64 200 i k := by
    unfold dirF
    have hst : stars (rdDir A 1) [v] 0 64 = (rdDir A 1, 0) := by rw [rd]; rfl
    rw [hst]
    dsimp only
    have hix : (rdDir A 1).ix = 0 := by rw [rd]
    have htk : takeV [v] 0 0 = v := rfl
    have hix2 : (rdDir t i).ix = (indexAt t i).1 := rfl
    rw [hix, htk, hix2, hv]
    have eD : (stars (rdDir t i) vs k 64).1 = (starP (starW (rdDir t i) vs k 64).1 vs (tW t vs i k).2.2 64).1 := by rw [w1]; rfl
    have efl : (rdDir A 1).fl = (stars (rdDir t i) vs k 64).1.fl := by rw [rd, eD, p3, ← w2]
    have ele : (rdDir A 1).le = (stars (rdDir t i) vs k 64).1.le := by rw [rd, eD, p2, w3, hc]
    have ep : (rdDir A 1).p = (stars (rdDir t i) vs k 64).1.p := by rw [rd, eD, p7]
    have ew : (rdDir A 1).w = (stars (rdDir t i) vs k 64).1.w ∨ (stars (rdDir t i) vs k 64).1.w = some 0 ∧ (rdDir A 1).w = none := by rw [rd, eD, p4]; exact w9
    rw [big_of (by decide) ep ew, dirText_congr efl ele ep (gap_of ew)]
  have hstep : stepF A [v] 64 200 0 0 = (dirF A [v] 64 200 1 0, A.length, nextK (stars (rdDir A 1) [v] 0 64).2 (rdDir A 1).ix) := by
    unfold stepF
    rw [if_neg (fun z => h1 z.2), if_pos h0, if_neg (by rw [rd]; exact List.cons_ne_nil _ _), re]
  have hr := Reach.one (vs := [v]) (w := 64) (tx := 200) hlen hstep hlen
  rw [fmt_reach hr (by decide), hdF]
  cases dirF t vs 64 200 i k with
  | none => rfl
  | some s => show cap 200 (some (s ++ [])) = _; rw [List.append_nil]
end Mine
end

section
set_option genSizeOf false
set_option genSizeOfSpec false
open PySem PySem.W PyProof.Rows PySem.Calls
set_option Elab.async false
set_option maxRecDepth 100000
set_option linter.unusedVariables false
set_option linter.unusedSimpArgs false
namespace Mine

noncomputable def StepOk (t : T) (vs : List V) (i k : Nat) (q : Option T) (k' : Nat) : Pt → Prop
  | .lit s => q = some s ∧ k' = k ∧ s.length ≤ t.length
  | .dir i' => i' = i + 1 ∧ rdLe t (i + 1) ≠ [] ∧ q = dirF t vs 64 200 (i + 1) k ∧ k' = nextK (stars (rdDir t (i + 1)) vs k 64).2 (indexAt t (i + 1)).1
theorem let_ge (t : T) (i : Nat) : i ≤ rdLetter t i := by
  have h1 : i ≤ rdFlags t i := indexAt_ge _ _
  have h2 : rdFlags t i ≤ rdWidth t i := run_ge _ _ _
  have h3 : rdWidth t i ≤ rdPoint t i := by rw [point_eq]; exact szE_ge
  have h4 : rdPoint t i ≤ (rdPrec t i).2.2 := by
    rw [prec_end]; split
    · exact Nat.le_trans (Nat.le_succ _) szE_ge
    · exact Nat.le_refl _
  exact Nat.le_trans h1 (Nat.le_trans h2 (Nat.le_trans h3 (Nat.le_trans h4 (run_ge _ _ _))))
theorem step_cut {t : T} {vs : List V} {i j k : Nat} {p : Pt} (hi : i < t.length) (hc : cutF t i = (p, j)) : ∃ q k', stepF t vs 64 200 i k = (q, min j t.length, k') ∧ i < min j t.length ∧ StepOk t vs i k q k' p := by
  have hlg := let_ge t (i + 1)
  unfold cutF at hc
  unfold stepF
  by_cases h37 : t[i]? = some 37
  · rw [if_pos h37] at hc
    by_cases h2 : t[i + 1]? = some 37
    · rw [if_pos h2] at hc
      cases hc
      have := (List.getElem?_eq_some_iff.mp h2).1
      rw [if_pos ⟨h37, h2⟩, Nat.min_eq_left (by exact (by assumption))]
      exact ⟨_, _, rfl, by omega, rfl, rfl, by show 1 ≤ _; omega⟩
    · rw [if_neg h2] at hc
      rw [if_neg (fun z => h2 z.2), if_pos h37]
      by_cases hl : rdLe t (i + 1) = []
      · rw [if_pos hl] at hc
        cases hc
        rw [if_pos (show (rdDir t (i + 1)).le = [] from hl)]
        have hm : i < min (rdLetter t (i + 1) + 1) t.length := by omega
        refine ⟨_, _, rfl, hm, ?_, rfl, by rw [List.length_drop, List.length_take]; omega⟩
        show some ((t.take (min (rdLetter t (i + 1) + 1) t.length)).drop i) = _
        by_cases hle : rdLetter t (i + 1) + 1 ≤ t.length
        · rw [Nat.min_eq_left hle]
        · rw [Nat.min_eq_right (by omega), List.take_of_length_le (Nat.le_refl _), List.take_of_length_le (by omega)]
      · rw [if_neg hl] at hc
        cases hc
        rw [if_neg (show ¬ (rdDir t (i + 1)).le = [] from hl)]
        exact ⟨_, _, rfl, by omega, rfl, hl, rfl, rfl⟩
  · rw [if_neg h37] at hc
    cases hc
    rw [if_neg (fun z => h37 z.1), if_neg h37, Nat.min_eq_left (by exact (by assumption))]
    refine ⟨_, _, rfl, by exact (Nat.le_refl _), rfl, rfl, ?_⟩
    rw [List.getElem?_eq_getElem hi]
    show 1 ≤ _; omega

theorem CutR.pos {t : T} {ps : List Pt} {j : Nat} (h : CutR t ps j) : ∃ pos : Nat → Nat, pos 0 = 0 ∧ pos ps.length = j ∧ ∀ m p, ps[m]? = some p → pos m < t.length ∧ cutF t (pos m) = (p, pos (m + 1)) := by
  induction h with
  | nil => exact ⟨fun _ => 0, rfl, rfl, fun m p h => by cases h⟩
  | @snoc ps i j p r h e ih =>
    obtain ⟨pos, h0, h1, h2⟩ := ih
    refine ⟨fun m => if m ≤ ps.length then pos m else j, by dsimp only; rw [if_pos (Nat.zero_le _), h0], by dsimp only; rw [List.length_append, if_neg (by show ¬ ps.length + 1 ≤ _; omega)], fun m q hq => ?_⟩
    dsimp only
    by_cases hm : m < ps.length
    · rw [List.getElem?_append_left hm] at hq
      rw [if_pos (Nat.le_of_lt hm), if_pos (Nat.succ_le_of_lt hm)]
      exact h2 m q hq
    · have hm2 : m = ps.length := by
        have := (List.getElem?_eq_some_iff.mp hq).1
        rw [List.length_append] at this
        change m < ps.length + 1 at this
        omega
      subst hm2
      rw [List.getElem?_append_right (Nat.le_refl _), Nat.sub_self] at hq
      cases hq
      rw [if_pos (Nat.le_refl _), if_neg (Nat.not_succ_le_self _), h1]
      exact ⟨h, e⟩

/-! ## the sum of the parts -/
noncomputable def oT : Option T → V
  | none => .none
  | some s => .str s
theorem cap_le {tx : Int} {q : Option T} {s : T} (h : cap tx q = some s) : q = some s ∧ (s.length : Int) ≤ tx := by
  unfold cap at h
  cases q with
  | none => cases h
  | some r =>
    dsimp only at h
    split at h
    · cases h
    · cases h; exact ⟨rfl, by exact (Int.not_lt.mp (by assumption))⟩
theorem parts_none : ∀ {qs : List (Option T)}, V.none ∈ qs.map (fun q => oT (cap 200 q)) → cap 200 (joinO qs) = none
  | [], h => by cases h
  | q :: r, h => by
    cases q with
    | none => rfl
    | some s =>
      rw [List.map_cons] at h
      rcases List.mem_cons.mp h with e | h
      · have : (200 : Int) < s.length := by
          by_cases h2 : (200 : Int) < s.length
          · exact h2
          · have : cap 200 (some s) = some s := if_neg h2
            rw [this] at e; cases e
        show cap 200 ((joinO r).map (s ++ ·)) = none
        cases joinO r with
        | none => rfl
        | some b => exact if_pos (by show (200 : Int) < ((s ++ b).length : Nat); rw [List.length_append]; omega)
      · have ih := parts_none h
        show cap 200 ((joinO r).map (s ++ ·)) = none
        cases hj : joinO r with
        | none => rfl
        | some b =>
          rw [hj] at ih
          have : (200 : Int) < b.length := by
            by_cases h2 : (200 : Int) < b.length
            · exact h2
            · have : cap 200 (some b) = some b := if_neg h2
              rw [this] at ih; cases ih
          exact if_pos (by show (200 : Int) < ((s ++ b).length : Nat); rw [List.length_append]; omega)
theorem parts_some : ∀ {qs : List (Option T)}, V.none ∉ qs.map (fun q => oT (cap 200 q)) → ∃ ss : List T, qs.map (fun q => oT (cap 200 q)) = ss.map V.str ∧ joinO qs = some ss.flatten ∧ ss.flatten.length ≤ 200 * ss.length ∧ ss.length = qs.length
  | [], h => ⟨[], rfl, rfl, Nat.le_refl _, rfl⟩
  | q :: r, h => by
    rw [List.map_cons, List.mem_cons, not_or] at h
    obtain ⟨ss, e1, e2, e3, e4⟩ := parts_some h.2
    cases hc : cap 200 q with
    | none => rw [hc] at h; exact absurd rfl h.1
    | some s =>
      obtain ⟨rfl, hl⟩ := cap_le hc
      refine ⟨s :: ss, by rw [List.map_cons, hc, e1]; rfl, by show (joinO r).map (s ++ ·) = _; rw [e2]; rfl, ?_, by rw [List.length_cons, e4, List.length_cons]⟩
      rw [List.flatten_cons, List.length_append, List.length_cons]; omega
theorem parts_or {qs : List (Option T)} : ∀ v ∈ qs.map (fun q => oT (cap 200 q)), v = .none ∨ ∃ s, v = .str s := by
  intro v hv
  obtain ⟨q, _, rfl⟩ := List.mem_map.mp hv
  cases cap 200 q with
  | none => exact .inl rfl
  | some s => exact .inr ⟨s, rfl⟩
end Mine
end

section
set_option genSizeOf false
set_option genSizeOfSpec false
open PySem PySem.W PyProof.Rows PySem.Calls
set_option Elab.async false
set_option maxRecDepth 100000
set_option linter.unusedVariables false
set_option linter.unusedSimpArgs false
namespace Mine
variable {g : G} {H : AHeap} {n : Nat} {Q : V → AHeap → Prop} {X : AHeap → Prop} {loc : Loc}

theorem S_try {Q : Fl → Loc → AHeap → Prop} {b : Mine.S} (h : wpS g n b Q (fun H₁ => ∀ loc₁, Q (.ret .none) loc₁ H₁) loc H) : wpS g n (.tryDie b) Q X loc H := h

theorem S_asC {Q : Fl → Loc → AHeap → Prop} {i : Nat} {e : C} (h : wpE g n loc e (fun v H₁ => Q .next (loc.set i (some v)) H₁) X H) : wpS g n (.assignC i e) Q X loc H := h

theorem c_formatted (W : LFam g) {t : T} {vl : Addr} {vs : List V} (hn : 7 ≤ n) (hl : t.length + 20 ≤ lim) (hvl : H vl = some (.list vs)) (hvn : vs.length ≤ 1000) (hv : ∀ v ∈ vs, Plain v)
    (hQ : ∀ H', Ext H H' → Q (oT (fmt t vs 64 200)) H') : CallSem g n "_law_formatted" [.str t, .ref vl] H Q X := by
  refine CallSem.mono (n := 6 + 1) (call_intro W.G W.D (W.lfn ("_law_formatted", F__law_formatted) (List.mem_of_getElem? (i := 9) rfl)) rfl ?_) hn
  show wpS g 6 b__law_formatted _ X [some (.str t), some (.ref vl), none, none, none] H
  unfold b__law_formatted
  refine S_seq (S_try ?_)
  refine S_seq (S_ret ?_)
  simp only [ze1, ze2, ze8, ze9, zl1, zl2, List.getElem?_cons_zero, List.getElem?_cons_succ]
  refine W.limits (by decide) fun la H1 hE L => ?_
  refine c_format W.toFam (Nat.le_refl _) hl (hE _ _ hvl) hvn hv L (by decide) (by decide) (by decide) (by decide) (fun s H' hE' he => ?_) (fun H' hE' he loc₁ => ?_)
  · have := hQ H' (hE.trans hE'); rw [he] at this; exact this
  · have := hQ H' (hE.trans hE'); rw [he] at this; exact this
end Mine
end

section
set_option genSizeOf false
set_option genSizeOfSpec false
open PySem PySem.W PyProof.Rows PySem.Calls
set_option Elab.async false
set_option maxRecDepth 100000
set_option linter.unusedVariables false
set_option linter.unusedSimpArgs false
namespace Mine
variable {g : G} {H : AHeap} {n : Nat} {Q : V → AHeap → Prop} {X : AHeap → Prop} {loc : Loc}

noncomputable def lE : Mine.S :=
  (.seq (.assign (.loc 10) (.ite (.cmp .In (.lit .none) (.loc 6)) (.lit .none) (.meth "join" (.lit (.str [])) (.cons (.loc 6) .nil))))
  (.seq (.ite (.and (.cons (.cmp .IsNot (.loc 10) (.lit .none)) (.cons (.cmp .Gt (.bi "len" (.cons (.loc 10) .nil)) (.lit (.int 200))) .nil)))
    (.seq (.assign (.loc 10) (.lit .none))
    .nil)
    .nil)
  (.seq (.ret (.cmp .Eq (.call "_law_formatted" (.cons (.loc 4) (.cons (.loc 3) .nil))) (.loc 10)))
  .nil)))

theorem law_end (W : LFam g) {t : T} {vs : List V} {qs : List (Option T)} {vl mk : Addr} {x0 x1 x2 x5 x7 x8 x9 : Option V} (hl : t.length ≤ 64) (hLV : ∀ v ∈ vs, LV v) (hvn : vs.length ≤ 1000) (hqn : qs.length ≤ 65) (hv : H vl = some (.list vs)) (hm : H mk = some (.list (qs.map fun q => oT (cap 200 q))))
    (hf : fmt t vs 64 200 = cap 200 (joinO qs)) (hQ : ∀ H', Q (.bool true) H') :
    wpS g 7 lE (fp Q) X [x0, x1, x2, some (.ref vl), some (.str t), x5, some (.ref mk), x7, x8, x9, none, none, none, none, none, none, none, none, none, none] H := by
  have hlv := lim_val
  unfold lE
  have hml : (qs.map fun q => oT (cap 200 q)).length ≤ lim := by rw [List.length_map]; exact (le_lim (by assumption) (by decide))
  have fin : ∀ due : Option T, fmt t vs 64 200 = due → wpS g 7 (.seq (.ret (.cmp .Eq (.call "_law_formatted" (.cons (.loc 4) (.cons (.loc 3) .nil))) (.loc 10))) .nil) (fp Q) X [x0, x1, x2, some (.ref vl), some (.str t), x5, some (.ref mk), x7, x8, x9, some (oT due), none, none, none, none, none, none, none, none, none] H := by
    intro due hd
    refine S_seq (S_ret ?_)
    simp only [ze2, ze4, ze8, zl1, zl2, List.getElem?_cons_zero, List.getElem?_cons_succ]
    refine c_formatted W (Nat.le_refl _) (by omega) hv hvn (fun v h => (hLV v h).plain) fun H' hE => ?_
    rw [hd]
    cases due with
    | none => exact hQ _
    | some s =>
      show Q (.bool (decide (s = s))) H'
      rw [decide_eq_true rfl]; exact hQ _
  refine S_seq (S_set ?_)
  simp only [ze1, ze2, ze7, ze12, zl1, zl2, zt1, List.getElem?_cons_zero, List.getElem?_cons_succ, List.set_cons_zero, List.set_cons_succ, kc18]
  refine ⟨_, hm, parts_or, hml, ?_⟩
  by_cases hn : V.none ∈ qs.map (fun q => oT (cap 200 q))
  · refine ite_t hn ?_
    refine S_seq (S_ite ?_)
    simp only [ze1, ze2, ze10, zl1, zl2, zt1, zt2, za1, za2, List.getElem?_cons_zero, List.getElem?_cons_succ, kc14]
    refine ite_f (fun z => z rfl) ?_
    simp only [Bool.false_eq_true, if_false]
    exact S_nil (fin none (hf.trans (parts_none hn)))
  · refine ite_f hn ?_
    obtain ⟨ss, e1, e2, e3, e4⟩ := parts_some hn
    have hfl : ss.flatten.length ≤ lim := by omega
    refine ⟨by simp [methOk], ?_⟩
    simp only [km4]
    refine ⟨_, ss, (by trivial), hm, by rw [e1]; exact strs_map ss, hml, hfl, ?_⟩
    rw [e2] at hf
    refine S_seq (S_ite ?_)
    simp only [ze1, ze2, ze10, zl1, zl2, zt1, zt2, za1, za2, List.getElem?_cons_zero, List.getElem?_cons_succ, kc11, kc14, kf1]
    refine ite_t (by intro z; cases z) ?_
    simp only [if_true]
    refine ⟨hfl, ?_⟩
    by_cases h200 : (200 : Int) < ss.flatten.length
    · refine ite_t h200 ?_
      refine S_seq (S_set ?_)
      simp only [ze1, List.set_cons_zero, List.set_cons_succ]
      exact S_nil (fin none (hf.trans (if_pos h200)))
    · refine ite_f h200 ?_
      simp only [Bool.false_eq_true, if_false]
      exact S_nil (fin (some ss.flatten) (hf.trans (if_neg h200)))
end Mine
end

section
set_option genSizeOf false
set_option genSizeOfSpec false
open PySem PySem.W PyProof.Rows PySem.Calls
set_option Elab.async false
set_option maxRecDepth 100000
set_option linter.unusedVariables false
set_option linter.unusedSimpArgs false
namespace Mine
variable {g : G} {H : AHeap} {n : Nat} {Q : V → AHeap → Prop} {X : AHeap → Prop} {loc : Loc}

theorem PVs.keep {H H' : AHeap} {t : T} (k : ∀ a vs, H a = some (.tup vs) → H' a = some (.tup vs)) : ∀ {vs : List V} {ps : List Pt}, PVs H t vs ps → PVs H' t vs ps
  | [], [], _ => trivial
  | _ :: _, _ :: _, ⟨h, r⟩ => ⟨h.mono k, r.keep k⟩
theorem PVs.get {H : AHeap} {t : T} : ∀ {vs : List V} {ps : List Pt}, PVs H t vs ps → ∀ {m : Nat} {x : V}, vs[m]? = some x → ∃ p, ps[m]? = some p ∧ PV H t x p
  | [], [], _, m, x, e => by cases e
  | _ :: _, p :: _, ⟨h, _⟩, 0, x, e => by cases e; exact ⟨p, rfl, h⟩
  | _ :: _, _ :: _, ⟨_, r⟩, m + 1, x, e => r.get (m := m) e
theorem PVs.len {H : AHeap} {t : T} : ∀ {vs : List V} {ps : List Pt}, PVs H t vs ps → vs.length = ps.length
  | [], [], _ => rfl
  | _ :: _, _ :: _, ⟨_, r⟩ => congrArg (· + 1) r.len

theorem alone_len {t : T} {vs : List V} {i k : Nat} (hl : t.length ≤ 64) (hLV : ∀ v ∈ vs, LV v) : (aloneT t vs i k).length ≤ 500 := by
  have h1 : (tW t vs i k).1.length ≤ 65 ∧ (tW t vs i k).2.1.length ≤ 64 := by
    have hfl : ((t.take (rdWidth t i)).drop (rdFlags t i)).length ≤ 64 := by rw [List.length_drop, List.length_take]; omega
    unfold tW
    cases szS t (rdWidth t i) with
    | none => exact ⟨Nat.le_trans hfl (by decide), Nat.le_trans (szW_len _ _) hl⟩
    | some iy =>
      have hn := (takeV_lv (k := k) (ix := iy) hLV).num
      refine ⟨?_, ?_⟩
      · dsimp only
        rw [List.length_append]
        split
        · show _ + 1 ≤ 65; exact (Nat.lt_of_le_of_lt (by assumption) (by decide))
        · show _ + 0 ≤ 65; exact (Nat.le_trans (by assumption) (by decide))
      · dsimp only
        split
        · exact Nat.le_trans (dec_len _ hn) (by decide)
        · exact Nat.zero_le _
  have h2 : ∀ k, (tP t vs i k).1.length ≤ 1 ∧ (tP t vs i k).2.1.length ≤ 64 := by
    intro k
    unfold tP
    cases ptS t i with
    | none =>
      refine ⟨?_, ?_⟩
      · unfold ptP; dsimp only; split <;> first | exact Nat.le_refl _ | exact Nat.zero_le _
      · unfold ptX; dsimp only; split
        · exact Nat.le_trans (szW_len _ _) hl
        · exact Nat.zero_le _
    | some iy =>
      have hn := (takeV_lv (k := k) (ix := iy) hLV).num
      dsimp only
      by_cases h : 0 ≤ toNum (takeV vs k iy) 64
      · obtain ⟨m, hm⟩ := Int.eq_ofNat_of_zero_le h
        rw [if_pos h, if_pos h, hm]
        rw [hm] at hn
        exact ⟨Nat.le_refl _, Nat.le_trans (dec_len m (by exact (by assumption))) (by decide)⟩
      · rw [if_neg h, if_neg h]; exact ⟨Nat.zero_le _, Nat.zero_le _⟩
  have h3 : (rdLe t i).length ≤ 1 := by unfold rdLe; split <;> (try split) <;> first | exact Nat.zero_le _ | exact Nat.le_refl _
  have h4 := h2 (tW t vs i k).2.2
  unfold aloneT
  simp only [List.length_append]
  show 1 + _ + _ + _ + _ + _ ≤ 500
  omega

noncomputable def lB : Mine.S :=
    (.seq (.ite (.val (.isi (.loc 7) "str"))
      (.seq (.expr (.meth "append" (.loc 6) (.cons (.loc 7) .nil)))
      .nil)
      (.seq (.assign (.tup (.cons (.loc 8) (.cons (.loc 9) .nil))) (.call "_law_told" (.cons (.loc 7) (.cons (.loc 3) (.cons (.loc 5) .nil)))))
      (.seq (.expr (.meth "append" (.loc 6) (.cons (.call "_law_formatted" (.cons (.loc 8) (.cons (.list (.cons (.loc 9) .nil)) .nil))) .nil)))
      .nil)))
    .nil)

structure LI (t : T) (vs vsp : List V) (ps : List Pt) (pos : Nat → Nat) (vl se mk pl : Addr) (m : Nat) (qs : List (Option T)) (k : Nat) (H : AHeap) : Prop where
  hpl : H pl = some (.list vsp)
  hvl : H vl = some (.list vs)
  hse : H se = some (.list [.int k])
  hmk : H mk = some (.list (qs.map fun q => oT (cap 200 q)))
  re : Reach t vs 64 200 0 0 qs (min (pos m) t.length) k
  ln : qs.length = m
  pv : PVs H t vsp ps

theorem law_turn (W : LFam g) {t : T} {vs vsp : List V} {ps : List Pt} {pos : Nat → Nat} {vl se mk pl : Addr} {m k : Nat} {qs : List (Option T)} {x : V} {x0 x1 x2 x8 x9 : Option V} (hl : t.length ≤ 64) (ha : Al t) (hLV : ∀ v ∈ vs, LV v) (hvn : vs.length ≤ 1000)
    (I : LI t vs vsp ps pos vl se mk pl m qs k H) (hpos : ∀ m p, ps[m]? = some p → pos m < t.length ∧ cutF t (pos m) = (p, pos (m + 1))) (hx : vsp[m]? = some x) (hm : m ≤ 65) (n1 : pl ≠ se) (n2 : pl ≠ mk) (n3 : vl ≠ se) (n4 : vl ≠ mk) (n5 : se ≠ mk)
    {R : Fl → Loc → AHeap → Prop} (hR : ∀ qs' k' (y8 y9 : Option V) H', LI t vs vsp ps pos vl se mk pl (m + 1) qs' k' H' → R .next [x0, x1, x2, some (.ref vl), some (.str t), some (.ref se), some (.ref mk), some x, y8, y9, none, none, none, none, none, none, none, none, none, none] H') :
    wpS g 7 lB R X [x0, x1, x2, some (.ref vl), some (.str t), some (.ref se), some (.ref mk), some x, x8, x9, none, none, none, none, none, none, none, none, none, none] H := by
  have hlv := lim_val
  unfold lB
  obtain ⟨p, hp, hpv⟩ := I.pv.get hx
  obtain ⟨hi, hcut⟩ := hpos m p hp
  obtain ⟨q, k', hst, hlt, ok⟩ := step_cut (vs := vs) (k := k) hi hcut
  have hmin : min (pos m) t.length = pos m := Nat.min_eq_left (Nat.le_of_lt hi)
  have re' : Reach t vs 64 200 0 0 (qs ++ [q]) (min (pos (m + 1)) t.length) k' := by
    have := I.re; rw [hmin] at this
    exact this.app (Reach.one hi hst hlt)
  have ln' : (qs ++ [q]).length = m + 1 := by rw [List.length_append, I.ln]; rfl
  have hql : (qs.map fun q => oT (cap 200 q)).length ≤ lim := by rw [List.length_map, I.ln]; exact (le_lim (by assumption) (by decide))
  -- the end of a turn: one more part
  have fin : ∀ (H1 : AHeap) (v : V), v = oT (cap 200 q) → H1 pl = some (.list vsp) → H1 vl = some (.list vs) → H1 se = some (.list [.int k']) → H1 mk = some (.list (qs.map fun q => oT (cap 200 q))) → PVs H1 t vsp ps →
      LI t vs vsp ps pos vl se mk pl (m + 1) (qs ++ [q]) k' (Mine.upd H1 mk (.list ((qs.map fun q => oT (cap 200 q)) ++ [v]))) := by
    rintro H1 v rfl a1 a2 a3 a4 a5
    refine ⟨by rw [upd_ne _ _ n2]; exact a1, by rw [upd_ne _ _ n4]; exact a2, by rw [upd_ne _ _ n5]; exact a3, by rw [upd_same, List.map_append]; rfl, re', ln', a5.keep fun a vs' z => ?_⟩
    rw [upd_ne _ _ (fun e => by rw [e, a4] at z; cases z)]; exact z
  refine S_seq (S_ite ?_)
  simp only [ze2, ze11, zt5, List.getElem?_cons_zero, List.getElem?_cons_succ]
  cases p with
  | lit s =>
    obtain ⟨rfl, rfl, hsl⟩ := ok
    have hx' : x = .str s := hpv
    subst hx'
    simp only [kt1, ky6, if_true]
    refine S_seq (S_expr ?_)
    simp only [ze2, ze12, zl1, zl2, List.getElem?_cons_zero, List.getElem?_cons_succ]
    refine ⟨⟨.inl (by trivial), _, I.hmk⟩, ?_⟩
    simp only [km6]
    refine ⟨_, I.hmk, hql, (by trivial), ?_⟩
    have hcs : cap 200 (some s) = some s := if_neg (by omega)
    exact S_nil (S_nil (hR _ _ _ _ _ (fin H (.str s) (by rw [hcs]; rfl) I.hpl I.hvl I.hse I.hmk I.pv)))
  | dir i' =>
    obtain ⟨rfl, hle, rfl, rfl⟩ := ok
    obtain ⟨a, rfl, hta⟩ := hpv
    obtain ⟨hk2, hfm⟩ := alone_fmt (k := k) ha hLV hle
    simp only [kt1, ky7]
    refine ⟨⟨_, hta⟩, ?_⟩
    simp only [Bool.false_eq_true, if_false]
    refine S_seq (S_tup ?_)
    simp only [ze2, ze8, zl1, zl2, List.getElem?_cons_zero, List.getElem?_cons_succ]
    refine c_told W (by decide) hl hLV hta I.hvl hvn I.hse n3 fun b H1 x1' q1 s1 => ?_
    rw [hk2] at q1 s1
    refine ⟨_, q1, rfl, by rw [lim_val]; show 2 ≤ _; decide, ?_⟩
    simp only [zL1, zL2, zk1, List.set_cons_zero, List.set_cons_succ]
    have b1 := x1' _ _ (by simpa using n1) I.hpl
    have b2 := x1' _ _ (by simpa using n3) I.hvl
    have b3 := x1' _ _ (by simpa using Ne.symm n5) I.hmk
    have b4 : PVs H1 t vsp ps := I.pv.keep fun c vs' z => x1' _ _ (by
      intro h
      rw [List.mem_singleton.mp h, I.hse] at z; cases z) z
    refine S_seq (S_expr ?_)
    simp only [ze2, ze8, ze12, ze16, zl1, zl2, List.getElem?_cons_zero, List.getElem?_cons_succ]
    refine ⟨⟨.inl (by trivial), _, b3⟩, ?_⟩
    refine ⟨by rw [lim_val]; show 1 ≤ _; decide, fun a9 ha9 => ?_⟩
    have E2 := Ext.upd (o := .list [takeV vs (stars (rdDir t (pos m + 1)) vs k 64).2 (indexAt t (pos m + 1)).1]) ha9
    have q2 : Mine.upd H1 a9 (.list [takeV vs (stars (rdDir t (pos m + 1)) vs k 64).2 (indexAt t (pos m + 1)).1]) a9 = _ := upd_same _ _ _
    generalize Mine.upd H1 a9 (.list [takeV vs (stars (rdDir t (pos m + 1)) vs k 64).2 (indexAt t (pos m + 1)).1]) = H2 at *
    have hal := alone_len (i := pos m + 1) (k := k) hl hLV
    refine c_formatted W (Nat.le_refl _) (by omega) q2 (by show 1 ≤ 1000; decide) (fun v hv => by rw [List.mem_singleton.mp hv]; exact (takeV_lv hLV).plain) fun H3 E3 => ?_
    rw [hfm]
    have E4 := E2.trans E3
    simp only [km6]
    refine ⟨_, E4 _ _ b3, hql, (by trivial), ?_⟩
    exact S_nil (S_nil (hR _ _ _ _ _ (fin H3 _ rfl (E4 _ _ b1) (E4 _ _ b2) (E4 _ _ s1) (E4 _ _ b3) (b4.keep fun c vs' z => E4 _ _ z))))
end Mine
end

section
set_option genSizeOf false
set_option genSizeOfSpec false
open PySem PySem.W PyProof.Rows PySem.Calls
set_option Elab.async false
set_option maxRecDepth 100000
set_option linter.unusedVariables false
set_option linter.unusedSimpArgs false
namespace Mine
variable {g : G} {H : AHeap} {n : Nat} {Q : V → AHeap → Prop} {X : AHeap → Prop} {loc : Loc}

noncomputable def menu : List V := [.int 0, .int 5, .int (-7), .str [51, 120], .none, .int 12, .str [97, 98], .int (-1)]
theorem menu_lv : ∀ v ∈ menu, LV v := by
  intro v h
  unfold menu at h
  simp only [List.mem_cons, List.not_mem_nil, or_false] at h
  rcases h with rfl | rfl | rfl | rfl | rfl | rfl | rfl | rfl
  · exact .inr (.inl ⟨_, rfl, by decide⟩)
  · exact .inr (.inl ⟨_, rfl, by decide⟩)
  · exact .inr (.inl ⟨_, rfl, by decide⟩)
  · exact .inr (.inr (.inl rfl))
  · exact .inl rfl
  · exact .inr (.inl ⟨_, rfl, by decide⟩)
  · exact .inr (.inr (.inr rfl))
  · exact .inr (.inl ⟨_, rfl, by decide⟩)

theorem w_law (W : LFam g) {s0 : Addr} {xs : List Int} (hs : Ob g H s0 (.list (xs.map V.int))) (hx : xs.length ≤ 63) (hQ : ∀ H', Q (.bool true) H') :
    wpS g 7 b_law (fp Q) X [some (.ref s0), none, none, none, none, none, none, none, none, none, none, none, none, none, none, none, none, none, none, none] H := by
  unfold b_law
  have hlim := lim_val
  refine S_seq (S_set ?_)
  refine ⟨_, (xs.map V.int).take 40, hs, by rw [List.length_map]; exact (le_lim (by assumption) (by decide)), ?_, fun a1 ha1 => ?_⟩
  · show (if 0 ≤ (40 : Int) ∧ (40 : Int) ≤ 2 ^ 62 then some ((xs.map V.int).take 40) else none) = _
    rw [if_pos ⟨by decide, by decide⟩]
  have q1 : Mine.upd H a1 (.list ((xs.map V.int).take 40)) a1 = some (.list ((xs.map V.int).take 40)) := upd_same _ _ _
  generalize Mine.upd H a1 (.list ((xs.map V.int).take 40)) = H1 at *
  rw [← List.map_take] at q1
  have hl1 : (xs.take 40).length ≤ 40 := by rw [List.length_take]; exact (Nat.min_le_left _ _)
  generalize xs.take 40 = ys at *
  refine S_seq (S_set ?_)
  simp only [ze1, ze2, ze3, ze8, ze10, ze15, ze16, zl1, zl2, List.getElem?_cons_zero, List.getElem?_cons_succ, List.set_cons_zero, List.set_cons_succ]
  refine c_rest W (by exact (by decide)) fun a2 ha2 => ?_
  have q2 : Mine.upd H1 a2 (.list (restL.map V.int)) a1 = some (.list (ys.map V.int)) := Ext.upd ha2 _ _ q1
  have q3 : Mine.upd H1 a2 (.list (restL.map V.int)) a2 = some (.list (restL.map V.int)) := upd_same _ _ _
  generalize Mine.upd H1 a2 (.list (restL.map V.int)) = H2 at *
  refine ⟨_, .inl q2, by rw [List.length_map]; exact (le_lim (by assumption) (by decide)), ?_⟩
  rw [List.length_map]
  refine ⟨_, (restL.map V.int).drop ys.length, .inl q3, by rw [List.length_map, lim_val]; decide, ?_, fun a3 ha3 => ?_⟩
  · show (if 0 ≤ (ys.length : Int) ∧ (ys.length : Int) ≤ lim then some ((restL.map V.int).drop (ys.length : Int).toNat) else none) = _
    rw [if_pos ⟨by exact (Int.natCast_nonneg _), by exact (Int.ofNat_le.mpr (Nat.le_trans (by assumption) (by decide)))⟩, Int.toNat_natCast]
  have q4 : Mine.upd H2 a3 (.list ((restL.map V.int).drop ys.length)) a1 = some (.list (ys.map V.int)) := Ext.upd ha3 _ _ q2
  have q5 : Mine.upd H2 a3 (.list ((restL.map V.int).drop ys.length)) a3 = some (.list ((restL.map V.int).drop ys.length)) := upd_same _ _ _
  generalize Mine.upd H2 a3 (.list ((restL.map V.int).drop ys.length)) = H3 at *
  rw [← List.map_drop] at q5
  have hr24 : (restL.drop ys.length).length = 19 - ys.length := by rw [List.length_drop]; rfl
  generalize restL.drop ys.length = zs at *
  refine ⟨_, _, .inl q4, q5, by rw [List.length_map, List.length_map]; omega, fun sc hsc => ?_⟩
  have q6 : Mine.upd H3 sc (.list (ys.map V.int ++ zs.map V.int)) sc = some (.list (ys.map V.int ++ zs.map V.int)) := upd_same _ _ _
  generalize Mine.upd H3 sc (.list (ys.map V.int ++ zs.map V.int)) = H4 at *
  refine ⟨by rw [lim_val]; show 2 ≤ _; decide, fun pen hpen => ?_⟩
  have P5 : PenAt (Mine.upd H4 pen (.list [.ref sc, .int 0])) pen sc := by
    refine ⟨ys ++ zs, 0, upd_same _ _ _, ?_, by rw [List.length_append]; omega, by rw [List.length_append]; omega⟩
    rw [List.map_append]; exact Ext.upd hpen _ _ q6
  generalize Mine.upd H4 pen (.list [.ref sc, .int 0]) = H5 at *
  -- the values
  refine S_seq (S_asC ?_)
  refine c_draw W (by exact (by decide)) P5 (by decide) fun dv H7 dv0 dv1 x7 P7 => ?_
  refine ⟨by exact (Int.le_trans (b := 0) (by decide) (by assumption)), by omega, (by trivial), fun j acc H₂ => acc.length = j ∧ (∀ v ∈ acc, LV v) ∧ PenAt H₂ pen sc, ⟨rfl, (fun v h => by cases h), P7⟩, ?_, by simp only [List.length_map, List.length_range]; omega, ?_⟩
  · rintro j acc H₂ v hv ⟨hj, hacc, PP⟩
    have h8 : menu.length ≤ lim := by rw [lim_val]; decide
    refine ⟨h8, fun a ha => ?_⟩
    have hap : a ≠ pen := by
      intro e
      obtain ⟨_, _, e1, _⟩ := PP.ex
      rw [e, e1] at ha; cases ha
    have Pa := PP.ext (Ext.upd (o := .tup [V.int 0, .int 5, .int (-7), .str [51, 120], .none, .int 12, .str [97, 98], .int (-1)]) ha)
    have ta : Mine.upd H₂ a (.tup [V.int 0, .int 5, .int (-7), .str [51, 120], .none, .int 12, .str [97, 98], .int (-1)]) a = some (.tup menu) := upd_same _ _ _
    generalize Mine.upd H₂ a (.tup [V.int 0, .int 5, .int (-7), .str [51, 120], .none, .int 12, .str [97, 98], .int (-1)]) = Ha at *
    refine c_draw W (by exact (by decide)) Pa (by decide) fun d Hd d0 d1 xd Pd => ?_
    have hd8 : d.toNat < menu.length := by show d.toNat < 8; omega
    refine ⟨d0, menu, .inr (.inl (xd _ _ (by simpa using hap) ta)), h8, menu[d.toNat], List.getElem?_eq_getElem hd8, ?_⟩
    refine ⟨by rw [List.length_append, hj]; rfl, ?_, Pd⟩
    intro v2 h2
    rcases List.mem_append.mp h2 with h | h
    · exact hacc _ h
    · rw [List.mem_singleton.mp h]; exact menu_lv _ (List.getElem_mem hd8)
  rintro vs H8 ⟨hvs, hLV, P8⟩ -
  intro vl hvl
  have P9 := P8.ext (Ext.upd (o := .list vs) hvl)
  have hvp : vl ≠ pen := by
    intro e
    obtain ⟨_, _, e1, _⟩ := P8.ex
    rw [e, e1] at hvl; cases hvl
  have v9 : Mine.upd H8 vl (.list vs) vl = some (.list vs) := upd_same _ _ _
  generalize Mine.upd H8 vl (.list vs) = H9 at *
  have hvn : vs.length ≤ 1000 := by
    simp only [List.length_map, List.length_range] at hvs; omega
  -- the template
  refine S_seq (S_set ?_)
  refine ⟨by simp [methOk], ?_⟩
  refine c_draw W (by exact (by decide)) P9 (by decide) fun dt H11 dt0 dt1 x11 P11 => ?_
  refine ⟨by exact (Int.le_trans (b := 0) (by decide) (by assumption)), by omega, (by trivial), fun j acc H₂ => ∃ t : T, acc = t.map (fun c => V.str [id c]) ∧ t.length = j ∧ Al t ∧ PenAt H₂ pen sc ∧ H₂ vl = some (.list vs), ⟨[], rfl, rfl, (fun c h => by cases h), P11, x11 _ _ (by simpa using hvp) v9⟩, ?_, by simp only [List.length_map, List.length_range]; omega, ?_⟩
  · rintro j acc H₂ v hv ⟨t, rfl, hj, hal, PP, vv⟩
    refine c_draw W (by exact (by decide)) PP (by decide) fun d Hd d0 d1 xd Pd => ?_
    have hd8 : d.toNat < sgn.length := by show d.toNat < 18; omega
    refine ⟨d0, by rw [lim_val]; decide, sgn[d.toNat], List.getElem?_eq_getElem hd8, ?_⟩
    refine ⟨t ++ [sgn[d.toNat]], by rw [List.map_append]; rfl, by rw [List.length_append, hj]; rfl, ?_, Pd, xd _ _ (by simpa using hvp) vv⟩
    intro c hc
    rcases List.mem_append.mp hc with h | h
    · exact hal _ h
    · rw [List.mem_singleton.mp h]; exact List.getElem_mem hd8
  rintro acc H12 ⟨t, rfl, htl, hal, P12, v12⟩ -
  intro al hal1
  have ht : t.length ≤ 64 := by
    simp only [List.length_map, List.length_range] at htl; omega
  refine ⟨_, _, rfl, upd_same _ _ _, strs_single id t, by rw [List.length_map, lim_val]; exact (le_lim (by assumption) (by decide)), by rw [flat_single, List.length_map, lim_val]; exact (le_lim (by assumption) (by decide)), ?_⟩
  rw [flat_single, List.map_id]
  have v13 := Ext.upd (o := .list (t.map fun c => V.str [id c])) hal1 _ _ v12
  generalize Mine.upd H12 al (.list (t.map fun c => V.str [id c])) = H13 at *
  -- what was taken, and the parts
  refine S_seq (S_set ?_)
  refine ⟨by rw [lim_val]; show 1 ≤ _; decide, fun se hse => ?_⟩
  have n3 : vl ≠ se := fun e => by rw [e, hse] at v13; cases v13
  have v14 := Ext.upd (o := .list [.int 0]) hse _ _ v13
  have s14 : Mine.upd H13 se (.list [.int 0]) se = some (.list [.int ((0 : Nat) : Int)]) := upd_same _ _ _
  generalize Mine.upd H13 se (.list [.int 0]) = H14 at *
  refine S_seq (S_set ?_)
  refine ⟨by rw [lim_val]; exact Nat.zero_le _, fun mk hmk => ?_⟩
  have n4 : vl ≠ mk := fun e => by rw [e, hmk] at v14; cases v14
  have n5 : se ≠ mk := fun e => by rw [e, hmk] at s14; cases s14
  have v15 := Ext.upd (o := .list []) hmk _ _ v14
  have s15 := Ext.upd (o := .list []) hmk _ _ s14
  have m15 : Mine.upd H14 mk (.list []) mk = some (.list []) := upd_same _ _ _
  generalize Mine.upd H14 mk (.list []) = H15 at *
  refine S_seq (S_for ?_)
  refine c_cut W (by decide) hal ht fun pl H16 vsp ps jj hpl0 E16 hpl hpv hcr hjj hvl65 => ?_
  obtain ⟨pos, h0, hlen, hpos⟩ := hcr.pos
  have n1 : pl ≠ se := fun e => by rw [e, s15] at hpl0; cases hpl0
  have n2 : pl ≠ mk := fun e => by rw [e, m15] at hpl0; cases hpl0
  refine ⟨vsp, hpl, by rw [lim_val]; exact (le_lim (by assumption) (by decide)), fun m l H' => ∃ (qs : List (Option T)) (k : Nat) (x7 x8 x9 : Option V), l = [some (.ref s0), some (.ref a1), some (.ref pen), some (.ref vl), some (.str t), some (.ref se), some (.ref mk), x7, x8, x9, none, none, none, none, none, none, none, none, none, none] ∧ LI t vs vsp ps pos vl se mk pl m qs k H', ⟨[], 0, _, _, _, rfl, ⟨hpl, E16 _ _ v15, E16 _ _ s15, E16 _ _ m15, by rw [h0, Nat.zero_min]; exact .nil _ _, rfl, hpv⟩⟩, ?_, ?_⟩
  · rintro m l H' x hx' ⟨qs, k, x7, x8, x9, rfl, I⟩
    have hm : m ≤ 65 := by
      have := (List.getElem?_eq_some_iff.mp hx').1; omega
    refine ⟨I.hpl, law_turn W ht hal hLV hvn I hpos hx' hm n1 n2 n3 n4 n5 fun qs' k' y8 y9 H'' I' => ⟨qs', k', _, _, _, rfl, I'⟩⟩
  · rintro l H' ⟨qs, k, x7, x8, x9, rfl, I⟩
    refine ⟨I.hpl, ?_⟩
    have hre := I.re
    rw [I.pv.len, hlen, Nat.min_eq_right hjj] at hre
    exact law_end W ht hLV hvn (by rw [I.ln]; exact hvl65) I.hvl I.hmk (fmt_reach hre (by decide)) hQ
end Mine
end

section
set_option genSizeOf false
set_option genSizeOfSpec false
open PySem PySem.W PyProof.Rows PySem.Calls Builtin
set_option Elab.async false
set_option maxRecDepth 100000
set_option linter.unusedVariables false
set_option linter.unusedSimpArgs false
namespace Mine

section
variable {prog : Program} {w : World} {A : Around} {R : Result → Shared → Prop} {E : Value → Shared → Prop} {h : Heap} {gs : Array GenState} {d : Drawn} {t : Nat} {os : OsState}
variable {nm q : Str} {C N P : Addr} {bs : List Value} {hdct : Bool} {sn : List Str} {sub : List Value} {ab : Bool} {col : Option Bool} {dd : Option Addr} {k0 k1 k2 k3 k5 : Option Value}

/-- the line of classes above Die -/
noncomputable abbrev upLine (P : Addr) : List Value := [.ref P, .type "Exception", .type "BaseException", .type "object"]
noncomputable abbrev newDie (C t : Addr) : Obj := { cls := .ref C, data := .fields #[.ref t, .none, .none, .none, .bool false, .none] }

theorem die_new (hC : h.get? C = some (excClassObj nm q C N bs (upLine P) hdct sn sub ab col dd k0 k1 k2 k3 k5 "Exception.__new__")) {v : Value}
    (hq : R (.ok (.ret (.ref (h.objs.size + 1)))) ⟨(h.push { cls := .type "tuple", data := .seq #[v] }).push (newDie C h.objs.size), gs, d, t, os⟩) :
    codeAny (model prog w) A (.builtin "Exception.__new__" ⟨[.ref C, v], []⟩) R ⟨h, gs, d, t, os⟩ := by
  have F := PySem.F.excBase_Exception
  have hends := F.ends
  have hcB : (Value.ref C :: upLine P).contains (.type "Exception") = true := by simp
  have hcA : (Value.ref C :: upLine P).contains (.type "AttributeError") = false := by simp
  have hcN : (Value.ref C :: upLine P).contains (.type "NameError") = false := by simp
  refine codeAny_builtinAt F.entry ?_
  unfold Builtin.«BaseException.__new__»
  refine PySem.wpAt_bind ?_
  show PySem.wpAt _ _ _ (stack >>= _) _ _ _
  refine PySem.wpAt_bind (PySem.wpAt_stack fun p below => PySem.wpAt_of_wpAny ?_)
  wp_walk
  refine PySem.wpAt_of_wpAny ?_
  rw [F.owner]
  repeat (first | with_reducible refine wpAny_madeHere_exc F.canon hC ?_ | with_reducible refine wpAny_loadPart_at hC ?_ | (with_reducible refine wpAny_isSubtype_exc hC ?_; first | rw [hcB] | rw [hcA] | rw [hcN]) | wp_step)
  show R _ _
  rw [Heap.size_push]
  exact hq

theorem die_call {K : Frag} (hC : h.get? C = some (excClassObj nm q C N bs (upLine P) hdct sn sub ab col dd k0 k1 k2 k3 k5 "Exception.__new__")) (X : K.In h) {v : Value} {fI : Addr}
    (hi : findIn K (.ref C) "__init__" = some (some (.ref fI))) (hf : typeIn K (.ref fI) = some (.type "function")) {Q : Value → Shared → Prop}
    (hq : wpAny (model prog w) (A.under (.builtin "type.__call__" ⟨[.ref C, v], []⟩)) (call (.ref fI) [.ref (h.objs.size + 1), v]) (fun r s' => r = .none ∧ Q (.ref (h.objs.size + 1)) s') E
      ⟨(h.push { cls := .type "tuple", data := .seq #[v] }).push (newDie C h.objs.size), gs, d, t, os⟩) :
    wpAny (model prog w) A (call (.ref C) [v]) Q E ⟨h, gs, d, t, os⟩ := by
  have f1 := tc_lookup
  have f2 := tc_bind (.ref C)
  have F := PySem.F.excBase_Exception
  have hT : (⟨h, gs, d, t, os⟩ : Shared).TypeIs (.ref C) "type" := ⟨_, hC, rfl⟩
  refine wpAny_call (codeAny_of_tree ?_)
  show wpAny _ _ (callAny (.ref C) _) _ _ _
  repeat (any_goals (first | assumption | with_reducible refine wpAny_loadPart_at hC ?_ | wp_step))
  refine ⟨rfl, ?_⟩
  refine codeAny_call_builtin_at (Code.quiet_builtin _ (by decide +kernel)) entry_typeCall (wpAny_check_type_call_sub hC ?_)
  unfold Builtin.«type.__call__»
  repeat (first | with_reducible refine wpAny_loadPart_at hC ?_ | with_reducible refine wpAny_madeBy_exc hC ?_ | wp_step)
  refine codeAny_call_builtin_code (Code.quiet_builtin _ F.quiet) (wpAny_check_new_subU (bmB := upLine P) F (by simp) .base hC ?_)
  refine die_new hC ?_
  show wpAny _ _ _ _ _ _
  have k : ∀ b o, h.get? b = some o → ((h.push { cls := .type "tuple", data := .seq #[v] }).push (newDie C h.objs.size)).get? b = some o := fun b o e => Heap.get?_push_of_some _ (Heap.get?_push_of_some _ e)
  have hC₁ := k _ _ hC
  have X₁ : K.In ((h.push { cls := .type "tuple", data := .seq #[v] }).push (newDie C h.objs.size)) := X.keeps k
  have hget : ((h.push { cls := .type "tuple", data := .seq #[v] }).push (newDie C h.objs.size)).get? (h.objs.size + 1) = some (newDie C h.objs.size) := by heap_get
  have hcC : (Value.ref C :: upLine P).contains (.ref C) = true := by simp
  unfold isInstance
  repeat (first | with_reducible refine wpAny_loadPart_at hget ?_ | (with_reducible refine wpAny_isSubtype_exc hC₁ ?_; rw [hcC]) | wp_step)
  show wpAny _ _ (typeLookup (.ref C) _) _ _ _
  refine (looks_findIn X₁ hi).at ?_
  refine wpAny_holding (wpAny_bind ((bind_fn X₁ _ hf).at ?_))
  refine wpAny_bind (wpAny_mono hq (fun r s' hr => ?_) fun _ _ x => x)
  obtain ⟨rfl, hQ⟩ := hr
  wp_walk
  exact hQ
end
end Mine
end

section
set_option genSizeOf false
set_option genSizeOfSpec false
open PySem PySem.W PyProof.Rows PySem.Calls Builtin Builtin.ObjectAttr
set_option Elab.async false
set_option maxRecDepth 100000
set_option linter.unusedVariables false
set_option linter.unusedSimpArgs false
namespace Mine

/-- an exception of the class C, new over B, with a small dict of its own or none -/
structure ExcAt (B h : Heap) (e C : Addr) (k : Nat) : Prop where
  new : B.get? e = none
  stay : B.StaysIn h
  ob : ∃ oe vs a0, h.get? e = some oe ∧ oe.cls = .ref C ∧ oe.data = .fields vs ∧ vs[1]? = some .none ∧ vs[0]? = some a0 ∧ oe.isFreed = false ∧
    (oe.dict = none ∨ ∃ d es n, oe.dict = some d ∧ d ≠ e ∧ B.get? d = none ∧ h.get? d = some (dictOf es n) ∧ es.any (·.refKey) = false ∧ es.length ≤ k)

theorem ExcAt.down {B B' h : Heap} {e C : Addr} {k : Nat} (x : ExcAt B h e C k) (s : B'.StaysIn B) : ExcAt B' h e C k := by
  have nn : ∀ a, B.get? a = none → B'.get? a = none := fun a q => by
    cases z : B'.get? a with
    | none => rfl
    | some o => have := s _ _ z; rw [q] at this; cases this
  obtain ⟨oe, vs, a0, h1, h2, h3, h4, h5, h6, h7⟩ := x.ob
  refine ⟨nn _ x.new, fun b o z => x.stay _ _ (s _ _ z), oe, vs, a0, h1, h2, h3, h4, h5, h6, ?_⟩
  rcases h7 with h7 | ⟨d, es, n, g1, g2, g3, g4, g5, g6⟩
  · exact .inl h7
  · exact .inr ⟨d, es, n, g1, g2, nn _ g3, g4, g5, g6⟩

theorem putL_noRef {name : Str} {hs : Int} {t : Tok} {v : Value} : ∀ {es : List DictEntry}, es.any (·.refKey) = false → (putL name hs (.str name t) v es).any (·.refKey) = false
  | [], _ => rfl
  | e :: r, h => by
    rw [List.any_cons, Bool.or_eq_false_iff] at h
    unfold putL
    split
    · rw [List.any_cons, h.2, Bool.or_false]; exact h.1
    · rw [List.any_cons, putL_noRef h.2, h.1]; rfl
theorem putL_len {name : Str} {hs : Int} {key v : Value} : ∀ {es : List DictEntry}, (putL name hs key v es).length ≤ es.length + 1
  | [] => Nat.le_refl _
  | e :: r => by
    unfold putL
    split
    · exact Nat.le_succ _
    · exact Nat.succ_le_succ putL_len

theorem after_put {h : Heap} {dx : Addr} {es : List DictEntry} {k : Nat} {name : Str} {hs : Int} {t : Tok} {v : Value} (hdd : h.get? dx = some (dictOf es k)) (hr : es.any (·.refKey) = false) :
    ∃ es' k', (h.update dx (Obj.putName name hs (.str name t) v)).get? dx = some (dictOf es' k') ∧ es'.any (·.refKey) = false ∧ es'.length ≤ es.length + 1 := by
  refine ⟨putL name hs (.str name t) v es, putN name es k, ?_, putL_noRef hr, putL_len⟩
  rw [← putName_dict]
  exact Heap.get?_update_self _ hdd (by rw [putName_dict]; rfl)

section
variable {prog : Program} {w : World} {A : Around} {R : Result → Shared → Prop} {E : Value → Shared → Prop} {s : Shared} {K : Frag} {e C P : Addr} {name : Str} {v : Value}

theorem dict_put {dx : Addr} {es : List DictEntry} {k : Nat} {tk : Tok} {Q : Fin → Shared → Prop} (hdd : s.heap.get? dx = some (dictOf es k)) (hr : es.any (·.refKey) = false) (hz : es.length ≤ 500)
    (h : Q (.done (.ret .none)) { s with heap := s.heap.update dx (Obj.putName name (PyData.keyHash w.params name) (.str name s.toks) v), toks := s.toks + 1 }) :
    wpAny (model prog w) A (Builtin.ObjectAttr.storeInDict dx (.str name tk) name v) Q E s := by
  have D' : (s.heap.update dx (Obj.putName name (PyData.keyHash w.params name) (.str name s.toks) v)).get? dx = some (dictOf (putL name (PyData.keyHash w.params name) (.str name s.toks) v es) (putN name es k)) := by
    rw [← putName_dict]
    refine Heap.get?_update_self _ hdd ?_
    rw [putName_dict]; rfl
  have hz' := putL_len (name := name) (hs := PyData.keyHash w.params name) (key := .str name s.toks) (v := v) (es := es)
  unfold Builtin.ObjectAttr.storeInDict Builtin.ObjectAttr.newKeyGuard
  refine wpAny_bind (wpAny_pure (wpAny_bind ?_))
  unfold nsSet
  refine wpAny_bind (wpAny_bind (wpAny_askSetting (wpAny_pure (wpAny_bind (wpAny_mkText (wpAny_bind (wpAny_loadPart hdd ?_)))))))
  have c : (!es.toArray.any (·.key.isStr name) && es.toArray.any (·.refKey)) = false := by
    rw [← Array.any_toList, ← Array.any_toList, List.toList_toArray, hr, Bool.and_false]
  dsimp only
  rw [aRefKeyMayBeTheName_at, c]
  refine wpAny_updatePart hdd ?_
  refine wpAny_bind (wpAny_lookBehind D' (pastItsLine_dict (by rw [List.size_toArray, sizeLine_eq]; omega)) ?_)
  exact wpAny_pure h

theorem exc_store {B : Heap} {k : Nat} {Q : Unit → Shared → Prop} {cd : ClassData} (X : K.In B) (x : ExcAt B s.heap e C k) (hk : k ≤ 400) (hc : clsIn K C = some cd) (hh : cd.hasDict = true) (hm : cd.mro = .ref C :: upLine P)
    (hs : findIn K (.ref C) "__setattr__" = some (some (.builtin "object.__setattr__"))) (ht : takerIn K C name = some none)
    (h : ∀ h' tk, ExcAt B h' e C (k + 1) → Q () { s with heap := h', toks := tk }) : wpAny (model prog w) A (setAttr (.ref e) name v) Q E s := by
  obtain ⟨oe, vs, a0, he, hcl, hd, h1, h0, hfr, hdict⟩ := x.ob
  have XH : K.In s.heap := X.keeps x.stay
  have SF := PySem.F.store_object
  have nc : notCls oe = true := by unfold notCls; rw [hd]
  obtain ⟨od, I⟩ : ∃ od, InstAt s.heap e oe C od := by
    rcases hdict with z | ⟨dx, es, n, z, _, _, z2, _⟩
    · exact ⟨none, he, hcl, nc, by rw [z]; trivial⟩
    · exact ⟨some (dictOf es n), he, hcl, nc, by rw [z]; exact z2⟩
  have ne : cd.mro.isEmpty = false := by rw [hm]; rfl
  refine set_plain XH I hs ?_
  have sub : Looks (model prog w) s.heap (isInstance (.ref e) (.type "object")) true := I.type.andThen (looks_mroIn XH (by unfold mroIn; rw [hc, Option.bind_some, if_neg (by rw [ne]; decide), hm]; simp))
  refine codeAny_call_builtin SF.slot.plain SF.entry (@check_slot (model prog w) _ _ { s with toks := s.toks + 1 } "object.__setattr__" "object" "__setattr__" (.ref e) [.str name s.toks, v] [] _ SF.kind SF.split sub (SF.args (.ref e) (.str name s.toks) v) ?_)
  obtain ⟨attr, ha, hr⟩ := Option.bind_eq_some_iff.mp ht
  have hmro : Looks (model prog w) s.heap (mroOf (.ref C)) cd.mro := (looks_clsIn XH hc).andThen .now
  have L3 : Looks (model prog w) s.heap (storeTaker? attr) none := by
    cases attr with
    | none => exact .now
    | some a =>
      obtain ⟨b, hb, hbn⟩ := Option.map_eq_some_iff.mp hr
      refine (looks_takesIn XH hb).andThen ?_
      cases b
      · exact .now
      · cases hbn
  rw [osa_eq, refuse_eq]
  refine wpAny_bind (wpAny_bind (I.type.here (s := { s with toks := s.toks + 1 }) (wpAny_bind (hmro.here (s := { s with toks := s.toks + 1 }) ?_))))
  rw [hm, refuseLoop_ref, refuseLoop_ref, PySem.F.store_Exception.passes]
  refine wpAny_pure (wpAny_bind (I.type.here (s := { s with toks := s.toks + 1 }) (wpAny_bind ((looks_findIn XH ha).here (s := { s with toks := s.toks + 1 }) (wpAny_bind (L3.here (s := { s with toks := s.toks + 1 }) ?_))))))
  dsimp only
  obtain ⟨oc, odi, oda, osl⟩ := oe
  dsimp only at hcl hd hdict
  subst hcl hd
  rcases hdict with rfl | ⟨dx, es, n, rfl, hne, hB, hdx, hrf, hlen⟩
  · -- the dict is made
    refine wpAny_bind (wpAny_pure (wpAny_bind (wpAny_bind (wpAny_loadPart he (wpAny_bind ((looks_clsIn XH hc).here (s := { s with toks := s.toks + 1 }) ?_))))))
    rw [hh]
    have hx₁ : (s.heap.push { cls := .type "dict", data := .dict #[] }).get? e = some ⟨.ref C, none, .fields vs, osl⟩ := Heap.get?_push_of_some _ he
    have hxs : e ≠ s.heap.objs.size := Nat.ne_of_lt (Heap.lt_size he)
    refine wpAny_bind (wpAny_alloc' ?_)
    refine wpAny_bind (wpAny_update' hx₁ ?_)
    refine wpAny_pure ?_
    have hgd : ((s.heap.push { cls := .type "dict", data := .dict #[] }).update e fun o => { cls := o.cls, dict := some s.heap.objs.size, data := o.data, slots := o.slots }).get? s.heap.objs.size = some (dictOf [] 0) :=
      (Heap.get?_update_ne _ _ _ _ hxs.symm).trans (Heap.get?_push_at rfl rfl)
    have hge : ((s.heap.push { cls := .type "dict", data := .dict #[] }).update e fun o => { cls := o.cls, dict := some s.heap.objs.size, data := o.data, slots := o.slots }).get? e = some ⟨.ref C, some s.heap.objs.size, .fields vs, osl⟩ := Heap.get?_update_self _ hx₁ rfl
    refine dict_put (s := ⟨_, _, _, _, _⟩) hgd rfl (by show 0 ≤ 500; exact (Nat.zero_le _)) ?_
    refine h _ _ ?_
    have nB : B.get? s.heap.objs.size = none := by
      cases z : B.get? s.heap.objs.size with
      | none => rfl
      | some o => have := x.stay _ _ z; rw [get_size_none] at this; cases this
    obtain ⟨es', k', p1, p2, p3⟩ := after_put (name := name) (hs := PyData.keyHash w.params name) (t := s.toks + 1) (v := v) hgd rfl
    refine ⟨x.new, fun b o z => ?_, _, vs, a0, (Heap.get?_update_ne _ _ _ _ hxs).trans hge, rfl, rfl, h1, h0, rfl, .inr ⟨s.heap.objs.size, es', k', rfl, hxs.symm, nB, p1, p2, Nat.le_trans p3 (by show 1 ≤ k + 1; omega)⟩⟩
    · have b1 : b ≠ e := fun q => by rw [q, x.new] at z; cases z
      have b2 : b ≠ s.heap.objs.size := fun q => by rw [q, nB] at z; cases z
      exact (Heap.get?_update_ne _ _ _ _ b2).trans ((Heap.get?_update_ne _ _ _ _ b1).trans (Heap.get?_push_of_some _ (x.stay _ _ z)))
  · refine wpAny_bind (wpAny_pure (wpAny_bind (wpAny_bind (wpAny_loadPart he (wpAny_bind ((looks_clsIn XH hc).here (s := { s with toks := s.toks + 1 }) ?_))))))
    rw [hh]
    refine wpAny_pure (a := some dx) ?_
    refine dict_put (s := ⟨_, _, _, _, _⟩) hdx hrf (by omega) ?_
    refine h _ _ ?_
    obtain ⟨es', k', p1, p2, p3⟩ := after_put (name := name) (hs := PyData.keyHash w.params name) (t := s.toks + 1) (v := v) hdx hrf
    refine ⟨x.new, fun b o z => ?_, _, vs, a0, (Heap.get?_update_ne _ _ _ _ hne.symm).trans he, rfl, rfl, h1, h0, rfl, .inr ⟨dx, es', k', rfl, hne, hB, p1, p2, Nat.le_trans p3 (by exact (Nat.succ_le_succ (by assumption)))⟩⟩
    · have b2 : b ≠ dx := fun q => by rw [q, hB] at z; cases z
      exact (Heap.get?_update_ne _ _ _ _ b2).trans (x.stay _ _ z)
end
end Mine
end

section
set_option genSizeOf false
set_option genSizeOfSpec false
open PySem PySem.W PyProof.Rows PySem.Calls Builtin Builtin.ObjectAttr
set_option Elab.async false
set_option maxRecDepth 100000
set_option linter.unusedVariables false
set_option linter.unusedSimpArgs false
namespace Mine

/-- a function of two names without words -/
structure Init2 (g : G) (f : Addr) (x1 x2 x3 : Str) (body : List Stmt) : Prop where
  ex : ∃ o fd, g.K.lookup f = some o ∧ o.data = .func fd ∧ fd.scope.isCoroutine = false ∧ fd.scope.isGenerator = false ∧ fd.body = .stmts body ∧ codeIn g.K fd.code fd.qualname = true ∧ fd.globals = mainGlobals ∧
    fd.builtins = builtinsNs ∧ fd.closure = [] ∧ fd.scope.kind = .function ∧ fd.scope.names = [(x1, .local), (x2, .local), (x3, .globalImplicit)] ∧ ∀ a b : Value, bindArgs fd ⟨[a, b], []⟩ = pure [(x1, a), (x2, b)]
  n12 : x1 ≠ x2
  n13 : x1 ≠ x3
  n23 : x2 ≠ x3

structure In2 (g : G) (env : Env) (x1 x2 x3 : Str) (a b : Value) (h h' : Heap) : Prop where
  kind : env.scope.kind = .function
  gl : env.globals = mainGlobals
  bl : env.builtins = builtinsNs
  k1 : env.kindOf x1 = some .local
  k2 : env.kindOf x2 = some .local
  k3 : env.kindOf x3 = some .globalImplicit
  ns : ∃ m, h'.Ns env.locals m ∧ m x1 = some a ∧ m x2 = some b
  new : h.get? env.locals = none
  keep : ∀ b o, h.get? b = some o → h'.get? b = some o

section
variable {g : G} {A : Around} {E : Value → Shared → Prop} {s : Shared} {x1 x2 x3 : Str} {body : List Stmt} {f : Addr} {a b : Value} {Q : Value → Shared → Prop}

theorem call_init2 (I : Init2 g f x1 x2 x3 body) (hroom : A.depth < recursionLimit) (X : g.K.In s.heap) (nl : s.heap.NoLimit)
    (h : ∀ env h' tk, In2 g env x1 x2 x3 a b s.heap h' → wpAny (model g.prog g.w) (A.deeper env) (execs body env) (fun f s'' => Q (match f with | .ret v => v | _ => .none) s'') (fun _ _ => False) { s with heap := h', toks := tk }) :
    wpAny (model g.prog g.w) A (call (.ref f) [a, b]) Q E s := by
  obtain ⟨o, fd, ho, hd, hco, hgn, hb, hcd, hgl, hbl, hcl, hkd, hnm, hbind⟩ := I.ex
  refine wpAny_call (codeAny_call_function hroom (X _ _ ho) hd hco hgn hb (codeRec_of X hcd) ?_)
  rw [hbind]
  have l1 : fd.scope.names.lookup x1 = some .local := by rw [hnm, List.lookup_cons, beq_self_eq_true]
  have l2 : fd.scope.names.lookup x2 = some .local := by
    rw [hnm, List.lookup_cons, show (x2 == x1) = false from by simpa using fun e => I.n12 e.symm, List.lookup_cons, beq_self_eq_true]
  have l3 : fd.scope.names.lookup x3 = some .globalImplicit := by
    rw [hnm, List.lookup_cons, show (x3 == x1) = false from by simpa using fun e => I.n13 e.symm, List.lookup_cons, show (x3 == x2) = false from by simpa using fun e => I.n23 e.symm, List.lookup_cons, beq_self_eq_true]
  refine wpAny_pure (wpAny_newFunctionEnv (fun p hp => ?_) (fun p hp => ?_) (fun h' hns hsb => ?_) hkd)
  · rw [hnm] at hp
    simp only [List.mem_cons, List.not_mem_nil, or_false] at hp
    rcases hp with rfl | rfl | rfl <;> (intro q; cases q)
  · simp only [List.mem_cons, List.not_mem_nil, or_false] at hp
    rcases hp with rfl | rfl
    · exact l1
    · exact l2
  have hk : ∀ c o, s.heap.get? c = some o → h'.get? c = some o := fun c o z => (hsb.2 c (Nat.ne_of_lt (Heap.lt_size z))).trans (Heap.get?_push_of_some _ z)
  refine ⟨nl.keeps hk, codeAny_func ?_⟩
  have := h (newEnv fd.scope s.heap.objs.size fd.globals fd.closure (fd.qualname ++ ".<locals>.") (some f) fd.code none fd.builtins) h' (s.toks + 2) ⟨hkd, hgl, hbl, l1, l2, l3, ⟨_, hns, ?_, ?_⟩, get_size_none, hk⟩
  · exact wpAny_mono this (fun _ _ z => z) (fun _ _ z => z.elim)
  · show List.lookup x1 [(x2, b), (x1, a)] = _
    rw [List.lookup_cons, show (x1 == x2) = false from by simpa using I.n12, List.lookup_cons, beq_self_eq_true]
  · show List.lookup x2 [(x2, b), (x1, a)] = _
    rw [List.lookup_cons, beq_self_eq_true]

theorem ld1 {env : Env} {h h' : Heap} {pos : Pos} (I : In2 g env x1 x2 x3 a b h h') (hs : h'.StaysIn s.heap) (hd : (x1 == ("__debug__" : Str)) = false) (hq : Q a s) : wpAny (model g.prog g.w) A (eval (.Name x1 pos) env) Q E s := by
  obtain ⟨m, n1, n2, n3⟩ := I.ns
  exact wpAny_Name (wpAny_loadName_local I.kind I.k1 (n1.keeps hs) n2 hq) hd
theorem ld2 {env : Env} {h h' : Heap} {pos : Pos} (I : In2 g env x1 x2 x3 a b h h') (hs : h'.StaysIn s.heap) (hd : (x2 == ("__debug__" : Str)) = false) (hq : Q b s) : wpAny (model g.prog g.w) A (eval (.Name x2 pos) env) Q E s := by
  obtain ⟨m, n1, n2, n3⟩ := I.ns
  exact wpAny_Name (wpAny_loadName_local I.kind I.k2 (n1.keeps hs) n3 hq) hd

theorem meth_call2 {o : Expr} {name : Str} {apos pos : Pos} {args : List Expr} {env : Env} {M : Model} (hb : isSuper o = false) (hp : (backTo pos (starEach args env)).any (·.1) = false) (hn : args.length ≤ 5) (hl : (apos.endLine == pos.line) = true)
    (h : wpAny M A (eval o env) (fun ov s₁ => ∀ pl, wpAny M A (getMethod ov name pl) (fun fx s₂ => wpAny M A (callWith pos fx.1 fx.2 (backTo pos (starEach args env)) []) Q E s₂) E s₁) E s) :
    wpAny M A (eval (.Call (.Attribute o name apos) args [] pos) env) Q E s := by
  rw [arm_eval_Call, base_of hb]
  refine wpAny_bind (wpAny_mono h (fun ov s₁ h₁ => wpAny_bind (wpAny_standAt ?_)) fun _ _ e => e)
  have hform : methodCallForm (args.length + ([] : List Keyword).length) (backTo pos (starEach args env)) (backToKw pos (keywordEach [] env)) = true := by
    unfold methodCallForm
    rw [Bool.and_eq_true, Bool.and_eq_true]
    refine ⟨⟨?_, rfl⟩, ?_⟩
    · rw [List.all_eq_true]; intro p hp'; have := List.any_eq_false.mp hp p hp'; simpa using this
    · show decide (_ < 30) = true
      rw [decide_eq_true_iff]
      show args.length + 0 + 0 < 30
      exact (Nat.lt_of_le_of_lt (by assumption) (by decide))
  have hpos : methodCallPos true o env apos pos = pure pos := by unfold methodCallPos; simp [hl]
  unfold methodCall
  rw [hform]
  refine wpAny_bind (wpAny_holding (wpAny_mono (h₁ _) (fun fx s₂ h₂ => ?_) fun _ _ e => e))
  exact wpAny_bind (wpAny_of_eq hpos h₂)
end
end Mine
end

section
set_option genSizeOf false
set_option genSizeOfSpec false
open PySem PySem.W PyProof.Rows PySem.Calls Builtin Builtin.ObjectAttr
set_option Elab.async false
set_option maxRecDepth 100000
set_option linter.unusedVariables false
set_option linter.unusedSimpArgs false
namespace Mine

section
variable {prog : Program} {w : World} {A : Around} {E : Value → Shared → Prop} {s : Shared} {K : Frag} {e C P : Addr} {v : Value}

theorem die_check {nm q : Str} {N : Addr} {bs : List Value} {hdct : Bool} {sn : List Str} {sub : List Value} {ab : Bool} {col : Option Bool} {dd : Option Addr} {k0 k1 k2 k3 k5 : Option Value} {M : Model} {oe : Obj} {Q : Unit → Shared → Prop}
    {h : Heap} {g : Array GenState} {d : Drawn} {t : Nat} {os : OsState} (hC : h.get? C = some (excClassObj nm q C N bs (upLine P) hdct sn sub ab col dd k0 k1 k2 k3 k5 "Exception.__new__")) (he : h.get? e = some oe) (hcls : oe.cls = .ref C) (hq : Q () ⟨h, g, d, t, os⟩) :
    wpAny M A (checkBuiltinCall "Exception.__init__" ⟨[.ref e, v], []⟩) Q E ⟨h, g, d, t, os⟩ := by
  have F := PySem.F.excBase_Exception
  have hcB : (Value.ref C :: upLine P).contains (.type "Exception") = true := by simp
  have hshort := F.noStar
  simp only [checkBuiltinCall, F.initKind, F.initSplit, F.initRow]
  repeat (first | (with_reducible refine wpAny_loadPart_at he ?_; rw [hcls]) | with_reducible refine wpAny_loadPart_at hC ?_ | (with_reducible refine wpAny_isSubtype_exc hC ?_; rw [hcB]) | wp_step)
  exact hq

theorem exc_init {B : Heap} {k : Nat} {Q : Value → Shared → Prop} {nm q : Str} {N : Addr} {bs : List Value} {hdct : Bool} {sn : List Str} {sub : List Value} {ab : Bool} {col : Option Bool} {dd : Option Addr} {k0 k1 k2 k3 k5 : Option Value} (x : ExcAt B s.heap e C k)
    (hC : B.get? C = some (excClassObj nm q C N bs (upLine P) hdct sn sub ab col dd k0 k1 k2 k3 k5 "Exception.__new__"))
    (h : ∀ h', ExcAt B h' e C k → Q .none { s with heap := h' }) : wpAny (model prog w) A (call (.builtin "Exception.__init__") [.ref e, v]) Q E s := by
  have F := PySem.F.excBase_Exception
  obtain ⟨oe, vs, a0, he, hcl, hd, h1, h0, hfr, hdict⟩ := x.ob
  obtain ⟨hh, gs, dr, tk, os⟩ := s
  refine wpAny_call (codeAny_call_builtin F.init.plain F.initEntry (die_check (x.stay _ _ hC) he hcl ?_))
  unfold Builtin.«BaseException.__init__»
  dsimp only
  rw [if_neg (by simp)]
  unfold newTuple Builtin.BaseException.bexcPut
  have hsz : 0 < vs.size := (Array.getElem?_eq_some_iff.mp h0).1
  have he₁ := Heap.get?_push_of_some (h := hh) { cls := .type "tuple", data := .seq #[v] } he
  have hu : ((hh.push { cls := .type "tuple", data := .seq #[v] }).update e (Obj.mapFields (·.setIfInBounds 0 (.ref hh.objs.size)))).get? e = some { oe with data := .fields (vs.setIfInBounds 0 (.ref hh.objs.size)) } := by
    have e1 : Obj.mapFields (·.setIfInBounds 0 (.ref hh.objs.size)) oe = { oe with data := .fields (vs.setIfInBounds 0 (.ref hh.objs.size)) } := by obtain ⟨_, _, _, _⟩ := oe; dsimp only at hd; subst hd; rfl
    rw [← e1]
    refine Heap.get?_update_self _ he₁ ?_
    rw [e1]; rfl
  have XN : ExcAt B ((hh.push { cls := .type "tuple", data := .seq #[v] }).update e (Obj.mapFields (·.setIfInBounds 0 (.ref hh.objs.size)))) e C k := by
   refine ⟨x.new, fun b o z => ?_, _, vs.setIfInBounds 0 (.ref hh.objs.size), .ref hh.objs.size, hu, hcl, rfl, ?_, ?_, rfl, ?_⟩
   · have b1 : b ≠ e := fun q => by rw [q, x.new] at z; cases z
     exact (Heap.get?_update_ne _ _ _ _ b1).trans (Heap.get?_push_of_some _ (x.stay _ _ z))
   · rw [Array.getElem?_setIfInBounds_ne (by decide)]; exact h1
   · rw [Array.getElem?_setIfInBounds_self_of_lt hsz]
   · rcases hdict with z | ⟨dx, es, n, z1, z2, z3, z4, z5, z6⟩
     · exact .inl z
     · exact .inr ⟨dx, es, n, z1, z2, z3, (Heap.get?_update_ne _ _ _ _ z2).trans (Heap.get?_push_of_some _ z4), z5, z6⟩
  refine wpAny_bind (wpAny_newObj_type (wpAny_bind (wpAny_bind (wpAny_field he₁ hd h0 (wpAny_bind (wpAny_setField he₁ hd hsz ?_))))) (by size_fits))
  cases a0 <;> first | exact wpAny_letGo (wpAny_pure (h _ XN)) | exact wpAny_pure (wpAny_pure (h _ XN))
end

/-- what the text says of its class Die and the class above it -/
structure DieK (g : G) (pA fD fP : Addr) : Prop where
  cls : ∃ nm q N bs sn sub ab col dd k0 k1 k2 k3 k5, g.K.lookup (g.addr "Die") = some (excClassObj nm q (g.addr "Die") N bs (upLine pA) true sn sub ab col dd k0 k1 k2 k3 k5 "Exception.__new__")
  ini : findIn g.K (.ref (g.addr "Die")) "__init__" = some (some (.ref fD))
  fty : typeIn g.K (.ref fD) = some (.type "function")
  dbody : ∃ p1 p2 p3 p4 p5 p6 p7 p8 p9 p10 : Pos, (p2.endLine == p5.line) = true ∧ Init2 g fD "self" "value" "PerlError"
    [.Expr (.Call (.Attribute (.Name "PerlError" p1) "__init__" p2) [.Name "self" p3, .Constant (.str "died") 0 p4] [] p5) p6, .Assign [.Attribute (.Name "self" p7) "value" p8] (.Name "value" p9) p10]
  pbody : ∃ p1 p2 p3 p4 p5 p6 p7 p8 p9 p10 : Pos, (p2.endLine == p5.line) = true ∧ Init2 g fP "self" "text" "Exception"
    [.Expr (.Call (.Attribute (.Name "Exception" p1) "__init__" p2) [.Name "self" p3, .Name "text" p4] [] p5) p6, .Assign [.Attribute (.Name "self" p7) "text" p8] (.Name "text" p9) p10]
  mpe : g.mg "PerlError" = some (.ref pA)
  mex : g.mg "Exception" = none ∧ g.mb "Exception" = some (.type "Exception")
  reads : readsIn g.K pA (.type "type") = true
  pga : specialIn g.K (.ref pA) "__getattribute__" = some (some (.builtin "type.__getattribute__"))
  pini : findCls g.K (.ref pA) (.type "type") "__init__" = some (.val (.ref fP))
  eini : findCls g.K (.type "Exception") (.type "type") "__init__" = some (.val (.builtin "Exception.__init__"))
  keep : keepIn g.K (.ref fP) = true
  sa : findIn g.K (.ref (g.addr "Die")) "__setattr__" = some (some (.builtin "object.__setattr__"))
  t1 : takerIn g.K (g.addr "Die") "text" = some none
  t2 : takerIn g.K (g.addr "Die") "value" = some none
  sub : subIn g.K (.ref (g.addr "Die")) (.type "Exception") = some true

section
variable {g : G} {A : Around} {E : Value → Shared → Prop} {s : Shared} {pA fD fP e : Addr} {v : Value} {Q : Value → Shared → Prop} {B : Heap} {k : Nat}

theorem die_setattr (D : DieK g pA fD fP) (KX : g.K.In B) (x : ExcAt B s.heap e (g.addr "Die") k) (hk : k ≤ 400) {name : Str} (ht : takerIn g.K (g.addr "Die") name = some none) {Q : Unit → Shared → Prop}
    (h : ∀ h' tk, ExcAt B h' e (g.addr "Die") (k + 1) → Q () { s with heap := h', toks := tk }) : wpAny (model g.prog g.w) A (setAttr (.ref e) name v) Q E s := by
  obtain ⟨nm, q, N, bs, sn, sub, ab, col, dd, k0, k1, k2, k3, k5, hC⟩ := D.cls
  refine exc_store (P := pA) KX x hk (cd := _) (by unfold clsIn; rw [hC]) rfl rfl D.sa ht h

/-- self.name = v at the end of a body -/
theorem last_store (D : DieK g pA fD fP) {env : Env} {x1 x2 x3 : Str} {b : Value} {h₀ h₁ : Heap} (I : In2 g env x1 x2 x3 (.ref e) b h₀ h₁) (hx1 : (x1 == ("__debug__" : Str)) = false) (hx2 : (x2 == ("__debug__" : Str)) = false)
    (hB : h₁.StaysIn B ∨ (∃ m, B.Ns env.locals m ∧ m x1 = some (.ref e) ∧ m x2 = some b)) (KX : g.K.In B) (x : ExcAt B s.heap e (g.addr "Die") k) (hk : k ≤ 400) {name : Str} (ht : takerIn g.K (g.addr "Die") name = some none) {p7 p8 p9 p10 : Pos} {Q : Flow → Shared → Prop}
    (h : ∀ h' tk, ExcAt B h' e (g.addr "Die") (k + 1) → Q .next { s with heap := h', toks := tk }) :
    wpAny (model g.prog g.w) A (execs [.Assign [.Attribute (.Name x1 p7) name p8] (.Name x2 p9) p10] env) Q E s := by
  obtain ⟨m, n1, n2, n3⟩ : ∃ m, B.Ns env.locals m ∧ m x1 = some (.ref e) ∧ m x2 = some b := by
    rcases hB with z | z
    · obtain ⟨m, n1, n2, n3⟩ := I.ns; exact ⟨m, n1.keeps z, n2, n3⟩
    · exact z
  refine wpAny_execs_cons ?_
  refine plainObj_wpAny_Assign_Attribute (wpAny_Name (wpAny_loadName_local I.kind I.k2 (n1.keeps x.stay) n3 ?_) hx2)
  refine wpAny_Name (wpAny_loadName_local I.kind I.k1 (n1.keeps x.stay) n2 ?_) hx1
  exact die_setattr D KX x hk ht fun h' tk y => wpAny_execs_nil (h h' tk y)
end
end Mine
end

section
set_option genSizeOf false
set_option genSizeOfSpec false
open PySem PySem.W PyProof.Rows PySem.Calls Builtin Builtin.ObjectAttr
set_option Elab.async false
set_option maxRecDepth 100000
set_option linter.unusedVariables false
set_option linter.unusedSimpArgs false
namespace Mine
section
variable {g : G} {A : Around} {E : Value → Shared → Prop} {s : Shared} {pA fD fP e : Addr} {v : Value} {Q : Value → Shared → Prop} {B : Heap} {k : Nat}

theorem exc_base {x1 x2 x3 : Str} {a b : Value} {env : Env} {h h' : Heap} (I : In2 g env x1 x2 x3 a b h h') {k : Nat} (x : ExcAt B h e (g.addr "Die") k) :
    ∃ B', B.StaysIn B' ∧ ExcAt B' h' e (g.addr "Die") k ∧ ∃ m, B'.Ns env.locals m ∧ m x1 = some a ∧ m x2 = some b := by
  obtain ⟨oe, vs, a0, he, hcl, hd, h1, h0, hfr, hdict⟩ := x.ob
  obtain ⟨m, n1, n2, n3⟩ := I.ns
  have he' := I.keep _ _ he
  have ne : env.locals ≠ e := fun q => by have := I.new; rw [q, he] at this; cases this
  have up : ∀ {l : List Addr} {c : Addr} {o : Obj}, h'.get? c = some o → c ∉ l → (hideAll h' l).get? c = some o := fun z q => hideAll_get _ z q
  rcases hdict with z | ⟨dx, es, n, z1, z2, z3, z4, z5, z6⟩
  · refine ⟨hideAll h' [e], fun c o q => up (I.keep _ _ (x.stay _ _ q)) ?_, ⟨hideAll_none _ (.head _), fun c o q => of_hideAll _ q, oe, vs, a0, he', hcl, hd, h1, h0, hfr, .inl z⟩, m, ?_, n2, n3⟩
    · intro hm; rw [List.mem_singleton] at hm; rw [hm, x.new] at q; cases q
    · obtain ⟨o, es, ep, q1, q2⟩ := n1
      exact ⟨o, es, ep, up q1 (by simpa using ne), q2⟩
  · have nd : env.locals ≠ dx := fun q => by have := I.new; rw [q, z4] at this; cases this
    refine ⟨hideAll h' [e, dx], fun c o q => up (I.keep _ _ (x.stay _ _ q)) ?_, ⟨hideAll_none _ (.head _), fun c o q => of_hideAll _ q, oe, vs, a0, he', hcl, hd, h1, h0, hfr, .inr ⟨dx, es, n, z1, z2, hideAll_none _ (.tail _ (.head _)), I.keep _ _ z4, z5, z6⟩⟩, m, ?_, n2, n3⟩
    · intro hm
      simp only [List.mem_cons, List.not_mem_nil, or_false] at hm
      rcases hm with hm | hm
      · rw [hm, x.new] at q; cases q
      · rw [hm, z3] at q; cases q
    · obtain ⟨o, es, ep, q1, q2⟩ := n1
      exact ⟨o, es, ep, up q1 (by simp only [List.mem_cons, List.not_mem_nil, or_false, not_or]; exact ⟨ne, nd⟩), q2⟩

variable (G : GOk g) (D : DieK g pA fD fP)
include G D

/-- PerlError.__init__ -/
theorem perl_init (hroom : A.depth + 1 < recursionLimit) (hst : g.base.StaysIn B) (x : ExcAt B s.heap e (g.addr "Die") k) (hk : k ≤ 300) {t : Str} {tk : Tok}
    (h : ∀ h' tk', ExcAt B h' e (g.addr "Die") (k + 1) → Q .none { s with heap := h', toks := tk' }) : wpAny (model g.prog g.w) A (call (.ref fP) [.ref e, .str t tk]) Q E s := by
  obtain ⟨p1, p2, p3, p4, p5, p6, p7, p8, p9, p10, hl, I⟩ := D.pbody
  have sB : g.base.StaysIn s.heap := fun b o z => x.stay _ _ (hst _ _ z)
  refine call_init2 I (by exact (Nat.le_of_lt (by assumption))) (G.KX.keeps sB) (G.nl.keeps sB) fun env h₁ tk₁ In => ?_
  obtain ⟨B₁, b1, x₁, m, n1, n2, n3⟩ := exc_base In x
  have hst₁ : g.base.StaysIn B₁ := fun b o z => b1 _ _ (hst _ _ z)
  have K₁ : g.K.In B₁ := G.KX.keeps hst₁
  have sH : g.base.StaysIn h₁ := fun b o z => x₁.stay _ _ (hst₁ _ _ z)
  refine wpAny_execs_cons (wpAny_Expr (meth_call2 rfl rfl (by show 2 ≤ 5; exact (by decide)) hl ?_) (by unfold interactive; rw [In.kind]; rfl) rfl)
  refine Name_function_global In.kind In.k3 (loadGlobal_builtin (mg := g.mg) (mb := g.mb) (by rw [In.gl]; exact G.hmg.keeps sH) D.mex.1 (by rw [In.bl]; exact G.hmb.keeps sH) D.mex.2 fun pl => ?_) (by decide +kernel)
  have XH : g.K.In h₁ := G.KX.keeps sH
  have hstub : opaqueClassAbove (.type "Exception") = pure none := by kernel_rfl
  have L0 : Looks (model g.prog g.w) h₁ (typeOf (.type "Exception")) (.type "type") := Looks.of_pure rfl
  unfold getMethod specialOf
  refine wpAny_bind (wpAny_bind (L0.at ((looks_findIn XH (show findIn g.K (.type "type") "__getattribute__" = some (some (.builtin "type.__getattribute__")) from type_tga)).at ?_)))
  dsimp only
  rw [if_pos canon_tga]
  have LO : Looks (model g.prog g.w) h₁ (opaqueClassAbove (.type "Exception")) none := Looks.of_pure hstub
  refine wpAny_bind (cls_open XH LO L0 type_tga (looks_hook XH (r := none) (by rfl)) (by show subIn g.K _ _ = _; rfl) D.eini (wpAny_pure ?_))
  show wpAny _ _ (handedOut (.builtin "Exception.__init__")) _ _ _
  rw [handedOut_of (by rfl)]
  refine wpAny_pure (wpAny_pure ?_)
  refine callWith_builtin rfl (evalArgs_plain (spliced_cons (wpAny_Name (wpAny_loadName_local In.kind In.k1 (n1.keeps x₁.stay) n2 ?_) (by decide +kernel))))
  refine spliced_cons (wpAny_Name (wpAny_loadName_local In.kind In.k2 (n1.keeps x₁.stay) n3 (spliced_nil ?_)) (by decide +kernel))
  obtain ⟨nm, q, N, bs, sn, sub, ab, col, dd, k0, k1, k2, k3, k5, hC⟩ := D.cls
  refine exc_init x₁ (K₁ _ _ hC) fun h₂ x₂ => ?_
  refine last_store (h₁ := h₁) D In (by decide +kernel) (by decide +kernel) (.inr ⟨m, n1, n2, n3⟩) K₁ x₂ (by exact (Nat.le_trans (by assumption) (by decide))) D.t1 fun h₃ tk₃ x₃ => ?_
  exact h h₃ tk₃ (x₃.down b1)

/-- Die.__init__ -/
theorem die_init (hroom : A.depth + 2 < recursionLimit) (hst : g.base.StaysIn B) (x : ExcAt B s.heap e (g.addr "Die") k) (hk : k ≤ 200)
    (h : ∀ h' tk', ExcAt B h' e (g.addr "Die") (k + 2) → Q .none { s with heap := h', toks := tk' }) : wpAny (model g.prog g.w) A (call (.ref fD) [.ref e, v]) Q E s := by
  obtain ⟨p1, p2, p3, p4, p5, p6, p7, p8, p9, p10, hl, I⟩ := D.dbody
  have sB : g.base.StaysIn s.heap := fun b o z => x.stay _ _ (hst _ _ z)
  refine call_init2 I (by omega) (G.KX.keeps sB) (G.nl.keeps sB) fun env h₁ tk₁ In => ?_
  obtain ⟨B₁, b1, x₁, m, n1, n2, n3⟩ := exc_base In x
  have hst₁ : g.base.StaysIn B₁ := fun b o z => b1 _ _ (hst _ _ z)
  have K₁ : g.K.In B₁ := G.KX.keeps hst₁
  have sH : g.base.StaysIn h₁ := fun b o z => x₁.stay _ _ (hst₁ _ _ z)
  refine wpAny_execs_cons (wpAny_Expr (meth_call2 rfl rfl (by show 2 ≤ 5; exact (by decide)) hl ?_) (by unfold interactive; rw [In.kind]; rfl) rfl)
  refine Name_function_global In.kind In.k3 (loadGlobal_global (mg := g.mg) (by rw [In.gl]; exact G.hmg.keeps sH) D.mpe fun pl => ?_) (by decide +kernel)
  have XH : g.K.In h₁ := G.KX.keeps sH
  refine method_cls XH D.pga (cls_value XH D.reads D.pini rfl ?_)
  refine callWith_of (P := fun h => g.K.In h) rfl (fun h k => keeps_K D.keep h k) (evalArgs_plain (spliced_cons (wpAny_Name (wpAny_loadName_local In.kind In.k1 (n1.keeps x₁.stay) n2 ?_) (by decide +kernel))))
  refine spliced_cons (Constant_str (k := 0) (pos := p4) (spliced_nil ⟨XH, ?_⟩))
  refine perl_init G D (k := k) (B := B₁) (by show A.depth + 1 + 1 < _; exact (by assumption)) hst₁ x₁ (by exact (Nat.le_trans (by assumption) (by decide))) fun h₂ tk₂ x₂ => ?_
  refine last_store (h₁ := h₁) D In (by decide +kernel) (by decide +kernel) (.inr ⟨m, n1, n2, n3⟩) K₁ x₂ (by exact (Nat.lt_of_le_of_lt (by assumption) (by decide))) D.t2 fun h₃ tk₃ x₃ => ?_
  exact h h₃ tk₃ (x₃.down b1)

theorem die_make : DieMake g := by
  intro A s cv Q E hh hroom hst hQ
  obtain ⟨nm, q, N, bs, sn, sub, ab, col, dd, k0, k1, k2, k3, k5, hC⟩ := D.cls
  obtain ⟨h, gs, d, t, os⟩ := s
  have X : g.K.In h := G.KX.keeps hst
  refine die_call (X _ _ hC) X D.ini D.fty ?_
  have keep : ∀ b o, h.get? b = some o → ((h.push { cls := .type "tuple", data := .seq #[cv] }).push (newDie (g.addr "Die") h.objs.size)).get? b = some o := fun b o z => Heap.get?_push_of_some _ (Heap.get?_push_of_some _ z)
  have x0 : ExcAt h ((h.push { cls := .type "tuple", data := .seq #[cv] }).push (newDie (g.addr "Die") h.objs.size)) (h.objs.size + 1) (g.addr "Die") 0 :=
    ⟨Heap.get?_none_of_le (Nat.le_succ _), keep, newDie (g.addr "Die") h.objs.size, _, .ref h.objs.size, by heap_get, rfl, rfl, rfl, rfl, rfl, .inl rfl⟩
  refine die_init G D (B := h) (k := 0) (by show A.depth + 1 + 2 < _; exact (Nat.le_of_lt (by assumption))) hst x0 (by exact (Nat.zero_le _)) fun h' tk' x => ⟨rfl, ?_⟩
  obtain ⟨oe, vs, a0, he, hcl, hd, h1, h0, hfr, hdict⟩ := x.ob
  exact hQ _ ⟨h', gs, d, tk', os⟩ oe vs a0 x.new x.stay he hcl hd h1 h0 rfl rfl
end
end Mine
end

section
set_option genSizeOf false
set_option genSizeOfSpec false
open PySem PySem.W PyProof.Rows PySem.Calls
set_option Elab.async false
set_option maxRecDepth 100000
set_option linter.unusedVariables false
set_option linter.unusedSimpArgs false
namespace Mine

section
variable {M : Model} {A : Around} {E : Value → Shared → Prop} {s : Shared}
/-- the frame of a call of one plain word -/
theorem newEnv_one {scope : Scope} {globals : Addr} {x : Str} {v : Value} {qual : Str} {func : Option Addr} {code : Value} {builtins : Addr} {Q : Env → Shared → Prop}
    (hk : scope.kind = .function) (hx : scope.names.lookup x = some .local)
    (hQ : ∀ env, env = newEnv scope s.heap.objs.size globals (cellsFrom (s.heap.objs.size + 1) scope.names []) qual func code none builtins →
      ∀ s', InCallC s env.locals (bindL env.kindOf [(x, v)] fun _ => none) env.cells (bindC env.kindOf [(x, v)] fun _ => none) s' → 0 < s'.toks → Q env s') :
    wpAny M A (newFunctionEnv scope globals [] [(x, v)] qual func code none builtins) Q E s := by
  simp only [newFunctionEnv, Option.isSome_none, Bool.false_eq_true, if_false]
  refine wpAny_bind (wpAny_alloc ?_)
  refine wpAny_bind (wpAny_layCells _ (fun name kind cells => by cases hkc : kind == NameKind.cell <;> simp []) _ _ _ _ ?_)
  have ok := cellsFrom_ok scope.names (s.heap.push { cls := .type "frame", data := .dict #[] }) (s.heap.objs.size + 1) [] ⟨fun _ _ hm => (nomatch hm), List.Pairwise.nil⟩ (by rw [Heap.size_push]; exact Nat.le_refl _)
  rw [Heap.size_push] at ok
  rw [show ({ s with heap := s.heap.push { cls := .type "frame", data := .dict #[] } } : Shared).heap.objs.size = s.heap.objs.size + 1 from Heap.size_push ..]
  rw [List.forIn_cons]
  show wpAny M A (((storeName (newEnv scope s.heap.objs.size globals (cellsFrom (s.heap.objs.size + 1) scope.names []) qual func code none builtins) x v >>= fun _ => pure (ForInStep.yield PUnit.unit)) >>= _) >>= fun _ =>
    pure (newEnv scope s.heap.objs.size globals (cellsFrom (s.heap.objs.size + 1) scope.names []) qual func code none builtins)) Q E _
  generalize hE : newEnv scope s.heap.objs.size globals (cellsFrom (s.heap.objs.size + 1) scope.names []) qual func code none builtins = env at hQ ⊢
  have e1 : env.scope = scope := by rw [← hE]; rfl
  have e2 : env.locals = s.heap.objs.size := by rw [← hE]; rfl
  have e3 : env.cells = cellsFrom (s.heap.objs.size + 1) scope.names [] := by rw [← hE]; rfl
  have hl : env.kindOf x = some .local := by unfold Env.kindOf; rw [e1]; exact hx
  have X0 : InCallC s env.locals (fun _ => none) env.cells (fun _ => none) { s with heap := pushCells (s.heap.push { cls := .type "frame", data := .dict #[] }) scope.names } := by
    rw [e2, e3]
    exact ⟨⟨⟨_, _, rfl⟩, (Heap.Ns.new s.heap (.type "frame")).keeps (pushCells_keeps _ _), fun b o e => pushCells_keeps _ _ b o (Heap.get?_push_of_some _ e), Nat.le_refl _⟩,
      fun n c hc => (ok.empty n c (mem_of_lookup hc)).1, ok.apart, fun n c hm => (ok.empty n c hm).2⟩
  refine wpAny_bind (wpAny_bind (wpAny_bind (wpAny_storeName_local hl X0.toInCall.ns (fun h' hn' hs' => ?_) (by rw [e1, hk]; rfl))))
  refine wpAny_pure ?_
  dsimp only
  rw [List.forIn_nil]
  refine wpAny_pure (wpAny_pure (hQ env rfl _ ?_ (Nat.succ_pos _)))
  unfold bindL bindC
  rw [if_pos hl, if_pos hl]
  refine ⟨⟨⟨_, _, rfl⟩, hn', fun b o e => hs'.extBut b o (Nat.ne_of_lt (Nat.lt_of_lt_of_le (Heap.lt_size e) X0.toInCall.fresh)) (X0.toInCall.keep b o e), X0.toInCall.fresh⟩, fun k c hc => ?_, X0.apart, X0.above⟩
  exact (X0.cell k c hc).sameBut hs' (Nat.ne_of_gt (X0.above k c (mem_of_lookup hc)))
end

section
variable {g : G} {n : Nat} {s : Shared} {A : Around}

theorem call_top (G : GOk g) (D : DieOk g) {a : Addr} {names : List (Str × NameKind)} {bdy : Mine.S} {fd : FuncData} (FD : FnData g a names bdy fd) {x : Str} {cv : Value} {v0 : V} {R : Result → Shared → Prop} {l0 : Loc}
    (hfr : A.frames = some []) (hhd : A.handled = none) (hdp : A.depth + 2 * (n + 1) < recursionLimit) (st : g.base.StaysIn s.heap) (hb : bindArgs fd ⟨[cv], []⟩ = pure [(x, cv)]) (hx : names.lookup x = some .local)
    (hl0 : l0.length = names.length) (hl : ∀ (i : Nat) y k v, names[i]? = some (y, k) → l0[i]? = some (some v) → y = x ∧ v = v0) (rv : vrel cv v0)
    {QA : V → AHeap → Prop} (w : wpS g n bdy (fp QA) (fun _ => False) l0 (fun _ => none))
    (P : ∀ v cv H' s', QA v H' → vrel cv v → (∀ b o, s.heap.get? b = some o → s'.heap.get? b = some o) → s'.os = s.os → s'.gens = s.gens → R (.ok (.ret cv)) s') :
    codeAny (model g.prog g.w) A (.call (.ref a) ⟨[cv], []⟩) R s := by
  obtain ⟨o, ho, hd⟩ := FD.ob
  obtain ⟨body, f, hbody, hto⟩ := FD.bd
  refine codeAny_call_function (by omega) (st _ _ ho) hd FD.co FD.gn hbody (FD.cd.keeps st) ?_
  rw [FD.cl, hb]
  refine wpAny_pure (newEnv_one FD.kd (by rw [FD.nm]; exact hx) fun env henv s' I ht' => ?_)
  have e1 : env.scope = fd.scope := by rw [henv]; rfl
  have e2 : env.locals = s.heap.objs.size := by rw [henv]; rfl
  have e3 : env.globals = mainGlobals := by rw [henv]; exact FD.gl
  have e4 : env.builtins = builtinsNs := by rw [henv]; exact FD.bl
  have e5 : env.cells = cellsFrom (s.heap.objs.size + 1) names [] := by rw [henv, ← FD.nm]; rfl
  have e6 : env.frame = some env.locals := by rw [henv]; rfl
  have e7 : env.scope.names = names := by rw [e1, FD.nm]
  have hL : s.heap.get? env.locals = none := by rw [e2]; exact get_size_none
  have hcf : ∀ c ∈ cellsOf env, s.heap.get? c = none := fun c hc => by
    obtain ⟨p, hp, rfl⟩ := List.mem_map.mp hc
    have := I.above p.1 p.2 hp
    exact Heap.get?_none_of_le (by rw [e2] at this; exact Nat.le_of_lt this)
  have hcl : ∀ c ∈ cellsOf env, env.locals < c := fun c hc => by
    obtain ⟨p, hp, rfl⟩ := List.mem_map.mp hc
    exact I.above p.1 p.2 hp
  have hkeep := I.toInCall.keep
  have fs : fsOf [env] = [env.locals] := fsOf_cons e6
  have nb : ∀ b, s.heap.get? b = none → g.base.get? b = none := fun b hb => by
    cases e : g.base.get? b with
    | none => rfl
    | some o => have := st _ _ e; rw [hb] at this; cases this
  have knd : ∀ y, env.kindOf y = names.lookup y := fun y => by unfold Env.kindOf; rw [e7]
  let Γ : Cx := { A := A.deeper env, env := env, stack := [env], h₀ := s.heap, mu := fun _ => False, own := cellsOf env, os := s.os, gens := s.gens }
  have OK : Γ.Ok g n := by
    refine ⟨by show (A.frames.map (env :: ·)) = _; rw [hfr]; rfl, hhd, ?_, by show env.scope.kind = _; rw [e1, FD.kd], e3, e4, nb _ hL, ?_, ?_, ?_, by show (env.scope.names.map (·.1)).Nodup; rw [e7]; exact FD.nd, fun c hc => hc, .inl (by show env.locals ∈ fsOf [env]; rw [fs]; exact .head _)⟩
    · show A.depth + 1 + 2 * n < _; omega
    · intro hc; exact Nat.lt_irrefl _ (hcl _ hc)
    · intro c hc
      refine ⟨nb _ (hcf c hc), ?_⟩
      show c ∉ fsOf [env]
      rw [fs]
      intro hm
      rcases List.mem_cons.mp hm with hm | hm
      · exact Nat.ne_of_gt (hcl c hc) hm
      · cases hm
    · exact I.apart
  have hns := I.toInCall.ns
  have CC0 : CC g Γ l0 (fun _ => none) s'.heap s'.heap := {
    stay := fun b o e => hkeep _ _ (st b o e)
    keepX := fun b o e _ _ _ _ => hkeep _ _ e
    keepF := fun b hb hl o e => ⟨o.slots, hkeep _ _ e⟩
    ff := by
      obtain ⟨oL, es, ep, hoL, hdL, _⟩ := id hns
      exact ⟨by rw [e1, FD.kd]; decide, ⟨env.locals, oL, e6, nb _ hL, hoL, fun vs z => by rw [hdL] at z; cases z⟩, trivial⟩
    led := fun b o e => by cases e
    adr := fun b o e => by cases e
    lcs := by
      refine ⟨_, hns, fun i y v h1 h2 => ?_⟩
      have h1' : names[i]? = some (y, .local) := by rw [← e7]; exact h1
      obtain ⟨rfl, rfl⟩ := hl i y _ v h1' h2
      exact ⟨cv, bindL_in (by rw [knd]; exact lookup_nodup _ FD.nd (List.mem_of_getElem? h1')) _ _ (by simp) (.head _), rv⟩
    cel := fun i y h1 => by
      have h1' : names[i]? = some (y, .cell) := by rw [← e7]; exact h1
      obtain ⟨c, hc⟩ := cells_has (k := s.heap.objs.size + 1) (List.mem_of_getElem? h1')
      have hc' : env.cells.lookup y = some c := by rw [e5]; exact hc
      refine ⟨c, _, hc', I.cell y c hc', fun v hv => ?_⟩
      obtain ⟨rfl, rfl⟩ := hl i y _ v h1' hv
      have := lookup_nodup _ FD.nd (List.mem_of_getElem? h1')
      rw [hx] at this; cases this
    cex := fun c hc => by
      obtain ⟨p, hp, rfl⟩ := List.mem_map.mp hc
      have : env.cells.lookup p.1 = some p.2 := by
        have hp' : p ∈ env.cells := hp
        rw [e5] at hp' ⊢
        exact lookup_key _ (cells_nodup FD.nd) hp'
      exact ⟨_, I.cell _ _ this⟩
    len := by show l0.length = env.scope.names.length; rw [e7]; exact hl0 }
  obtain ⟨hh, tk, hs'⟩ := I.toInCall.same
  have St0 : St g n ⟨names, g.gv, g.fns, g.cl, false⟩ Γ l0 (fun _ => none) s' := ⟨OK, e7, ⟨CC0, by rw [hs'], by rw [hs']⟩, ht'⟩
  have FM : Fm Γ := ⟨⟨[], rfl, e6⟩, fun c hc => hc⟩
  refine ⟨(G.nl.keeps st).keeps hkeep, codeAny_func ?_⟩
  refine soundS G D f ⟨rfl, rfl, rfl⟩ body bdy hto n Γ l0 (fun _ => none) s' _ (fun _ => False) _ _ St0 FM w (fun fl cf loc' H' s'' w' fr y => ?_) (fun e H' s'' hx ec => hx.elim)
  have kp : ∀ b o, s.heap.get? b = some o → s''.heap.get? b = some o := fun b o z => y.sc.cc.keepX b o z (fun q => q) (by
      show b ∉ fsOf [env]
      rw [fs]
      intro hm
      rcases List.mem_cons.mp hm with hm | hm
      · rw [hm, hL] at z; cases z
      · cases hm) (fun q => by have q' : b = env.locals := q; rw [q', hL] at z; cases z) (fun hc => by rw [hcf b hc] at z; cases z)
  cases fl with
  | next => cases cf <;> first | exact P .none .none H' s'' w' trivial kp y.sc.os y.sc.gens | exact fr.elim
  | ret v => cases cf <;> first | exact P v _ H' s'' w' fr kp y.sc.os y.sc.gens | exact fr.elim
end
end Mine
end

section
set_option genSizeOf false
set_option genSizeOfSpec false
open PySem PySem.W PyProof.Rows PySem.Calls
set_option Elab.async false
set_option maxRecDepth 100000
set_option linter.unusedVariables false
set_option linter.unusedSimpArgs false
namespace Mine

theorem binds_self {as : List Str} {cargs : List Value} : ∀ {tbl : List (Str × Value)}, (∀ p ∈ as.zip cargs, tbl.lookup p.1 = some p.2) → as.length = cargs.length → as.filterMap (fun n => (tbl.lookup n).map (n, ·)) = as.zip cargs := by
  induction as generalizing cargs with
  | nil => intro tbl _ _; cases cargs <;> rfl
  | cons n r ih =>
    intro tbl h hl
    cases cargs with
    | nil => cases hl
    | cons v vs =>
      rw [List.filterMap_cons, h (n, v) (.head _), List.zip_cons_cons, ← ih (fun p hp => h p (.tail _ hp)) (Nat.succ.inj hl)]; rfl

theorem bind_plain {fd : FuncData} {as : List Arg} {kd : List (Option Expr)} {df : List Expr} (hp : fd.params = ⟨[], as, none, [], kd, none, df⟩) (hd : fd.defaults = .none) (nd : (as.map (·.arg)).Nodup) {cargs : List Value}
    (hl : cargs.length = as.length) : bindArgs fd ⟨cargs, []⟩ = pure ((as.map (·.arg)).zip cargs) := by
  obtain ⟨⟩ := fd
  cases hp
  cases hd
  have hlen : (as.map (·.arg)).length = cargs.length := by rw [List.length_map, hl]
  have hkeys : ((as.map (·.arg)).zip cargs).map (·.1) = as.map (·.arg) := by rw [List.map_fst_zip]; exact Nat.le_of_eq hlen
  have hlook : ∀ p ∈ (as.map (·.arg)).zip cargs, ((as.map (·.arg)).zip cargs).lookup p.1 = some p.2 := fun p hp => lookup_key _ (by rw [hkeys]; exact nd) hp
  have hb := binds_self hlook hlen
  have hmiss : (as.map (·.arg)).filter (fun n => (((as.map (·.arg)).zip cargs).lookup n).isNone) = [] := by
    rw [List.filter_eq_nil_iff]
    intro n hn hx
    rw [← hkeys] at hn
    obtain ⟨p, hp, rfl⟩ := List.mem_map.mp hn
    rw [hlook p hp] at hx; cases hx
  have hb' : List.filterMap (fun n => Option.map (fun x => (n, x)) (List.lookup n ((as.map (·.arg)).zip cargs))) (as.map (·.arg) ++ []) = (as.map (·.arg)).zip cargs := by rw [List.append_nil]; exact hb
  refine ite_ne (c := (decide (cargs.length > (as.map (·.arg)).length) && true) = true) ?_ (ite_ne (c := (!(List.filter (fun n => (((as.map (·.arg)).zip cargs).lookup n).isNone) ((as.map (·.arg)).take ((as.map (·.arg)).length - (List.drop (0 - (as.map (·.arg)).length) ([] : List Value)).length))).isEmpty) = true) ?_ ?_)
  · rw [hlen, decide_eq_false (Nat.lt_irrefl _)]; exact noB
  · rw [List.drop_nil, List.length_nil, Nat.sub_zero, List.take_length, hmiss]; exact noB
  · show Bind.bind (forIn (List.zip (List.drop ((as.map (·.arg)).length - (List.drop (0 - (as.map (·.arg)).length) ([] : List Value)).length) (as.map (·.arg))) (List.drop (0 - (as.map (·.arg)).length) ([] : List Value))) _ _) _ = _
    rw [List.drop_nil, List.zip_nil_right]
    exact congrArg (pure : List (Str × Value) → Sem (List (Str × Value))) hb'
noncomputable def onFunc {β : Type} (d : Data) (f : FuncData → Option β) : Option β := match d with
  | .func fd => f fd
  | _ => none
theorem onFuncE {β : Type} {c : β} {P : Prop} {d : Data} {f : FuncData → Option β} (k : ∀ fd, d = .func fd → f fd = some c → P) : onFunc d f = some c → P := by
  cases d <;> first | exact k _ rfl | exact noS
noncomputable def onStmts {β : Type} (d : FuncBody) (f : List Stmt → Option β) : Option β := match d with
  | .stmts b => f b
  | _ => none
theorem onStmtsE {β : Type} {c : β} {P : Prop} {d : FuncBody} {f : List Stmt → Option β} (k : ∀ b, d = .stmts b → f b = some c → P) : onStmts d f = some c → P := by
  cases d <;> first | exact k _ rfl | exact noS
noncomputable def onPlain {β : Type} (p : Arguments) (f : List Arg → Option β) : Option β := on0 p.posonlyargs (on0 p.kwonlyargs (orK p.vararg (fun _ => none) (orK p.kwarg (fun _ => none) (f p.args))))
theorem onPlainE {β : Type} {c : β} {P : Prop} {p : Arguments} {f : List Arg → Option β} (h : onPlain p f = some c) (k : ∀ as kd df, p = ⟨[], as, none, [], kd, none, df⟩ → f as = some c → P) : P := by
  obtain ⟨l1, as, v, l2, kd, w, df⟩ := p
  refine on0E (M := fun l => (∀ as' kd' df', (⟨l, as, v, l2, kd, w, df⟩ : Arguments) = ⟨[], as', none, [], kd', none, df'⟩ → f as' = some c → P) → P) h (fun h => ?_) k
  refine on0E (M := fun l => (∀ as' kd' df', (⟨[], as, v, l, kd, w, df⟩ : Arguments) = ⟨[], as', none, [], kd', none, df'⟩ → f as' = some c → P) → P) h fun h k => ?_
  refine onNo (o := v) h fun e h => onNo (o := w) h fun e' h => ?_
  subst e; subst e'
  exact k _ _ _ rfl h

noncomputable def fnFits (K : Frag) (fd : FuncData) (as : List Arg) : Bool :=
  !fd.scope.isCoroutine && (!fd.scope.isGenerator && (codeIn K fd.code fd.qualname && (fd.globals == mainGlobals && (fd.builtins == builtinsNs && (fd.scope.kind == .function && (decide ((fd.scope.names.map (·.1)).Nodup) &&
         (decide ((fd.scope.names.take as.length).map (·.1) = as.map (·.arg)) && ((fd.scope.names.take as.length).all (fun p => p.2 == .local || p.2 == .cell) && decide (as.length ≤ fd.scope.names.length)))))))))

/-- what a function's object says, when it is of the plain kind -/
noncomputable def fnSum (K : Frag) (a : Addr) (gv : List (Str × V)) (fns cls : List (Str × String)) : Option (List (Str × NameKind) × Nat × Mine.S × Value) :=
  (K.lookup a).bind fun o => onFunc o.data fun fd => on0 fd.closure (onStmts fd.body fun body => onPlain fd.params fun as => if fnFits K fd as then (toSs 100 ⟨fd.scope.names, gv, fns, cls, false⟩ body).map fun b => (fd.scope.names, as.length, b, fd.defaults) else none)

theorem fnSum_of {g : G} (KX : g.K.In g.base) {a : Addr} {names : List (Str × NameKind)} {n : Nat} {b : Mine.S} {dv : Value} (h : fnSum g.K a g.gv g.fns g.cl = some (names, n, b, dv)) :
    ∃ fd as kd df, FnData g a names b fd ∧ fd.defaults = dv ∧ fd.params = ⟨[], as, none, [], kd, none, df⟩ ∧ as.length = n ∧ (names.take n).map (·.1) = as.map (·.arg) ∧ (∀ p ∈ names.take n, p.2 = .local ∨ p.2 = .cell) ∧ n ≤ names.length := by
  refine bindS h fun o ho h => onFuncE (fun fd hfd h => ?_) h
  have hcl : fd.closure = [] := by
    cases e : fd.closure with
    | nil => rfl
    | cons => rw [e] at h; exact noS h
  rw [hcl] at h
  refine onStmtsE (fun body hb h => onPlainE h fun as kd df hp h => iteS h fun hc h => ?_) h
  refine andB hc fun c1 hc => andB hc fun c2 hc => andB hc fun c3 hc => andB hc fun c4 hc => andB hc fun c5 hc => andB hc fun c6 hc => andB hc fun c7 hc => andB hc fun c8 hc => andB hc fun c9 c10 => ?_
  obtain ⟨b', hs, e⟩ := Option.map_eq_some_iff.mp h
  cases e
  exact ⟨fd, as, kd, df, ⟨⟨_, KX _ _ ho, hfd⟩, notB c1, notB c2, codeRec_of KX c3, eq_of_beq c4, eq_of_beq c5, hcl, eq_of_beq c6, rfl, of_decide_eq_true c7, body, 100, hb, hs⟩, rfl, hp, rfl, of_decide_eq_true c8,
    fun p hp => (Bool.or_eq_true _ _ ▸ List.all_eq_true.mp c9 p hp : _ ∨ _).imp eq_of_beq eq_of_beq, of_decide_eq_true c10⟩

theorem fnOk_of {g : G} (KX : g.K.In g.base) {f : String} {F : Fn} (h : fnSum g.K (g.addr f) g.gv g.fns g.cl = some (F.names, F.params, F.body, .none)) : FnOk g f F := by
  obtain ⟨fd, as, kd, df, FD, hdv, hp, hn, h1, h2, h3⟩ := fnSum_of KX h
  refine ⟨⟨fd, FD, fun cargs hl => ?_⟩, h3, h2⟩
  have nd : (as.map (·.arg)).Nodup := by rw [← h1]; exact FD.nd.sublist (List.Sublist.map _ (List.take_sublist _ _))
  rw [bind_plain hp hdv nd (by rw [hl, hn]), h1]

theorem initOk_of {g : G} (KX : g.K.In g.base) {c : String} {F : Fn} {fI : Addr} (h : fnSum g.K fI g.gv g.fns g.cl = some (F.names, F.params, F.body, .none)) (hi : findIn g.K (.ref (g.addr c)) "__init__" = some (some (.ref fI)))
    (ht : typeIn g.K (.ref fI) = some (.type "function")) : InitOk g c F := by
  obtain ⟨fd, as, kd, df, FD, hdv, hp, hn, h1, h2, h3⟩ := fnSum_of KX h
  refine ⟨⟨fI, fd, FD, hi, ht, fun cargs hl => ?_⟩, h3, h2⟩
  have nd : (as.map (·.arg)).Nodup := by rw [← h1]; exact FD.nd.sublist (List.Sublist.map _ (List.take_sublist _ _))
  rw [bind_plain hp hdv nd (by rw [hl, hn]), h1]

/-! ## the global names -/
noncomputable def vrelB : Value → V → Bool
  | .none, .none => true
  | .bool b, .bool c => b == c
  | .int i _, .int j => decide (i = j)
  | .str x _, .str s => decide (x.cps.toList = s)
  | .ref a, .ref b => decide (a = b)
  | _, _ => false
theorem vrelB_of {cv : Value} {v : V} : vrelB cv v = true → vrel cv v := by
  cases v <;> cases cv <;> first | exact noB | exact fun _ => trivial | exact fun h => eq_of_beq h | exact fun h => of_decide_eq_true (p := _ = _) h

noncomputable def onGv (o : Option (Option Value)) (v : V) : Bool := o.any fun o => o.any fun cv => vrelB cv v
theorem onGvE {o : Option (Option Value)} {v : V} {P : Prop} (h : onGv o v = true) (k : ∀ cv, o = some (some cv) → vrelB cv v = true → P) : P := by
  cases o with
  | none => exact noB h
  | some o =>
    cases o with
    | none => exact noB h
    | some cv => exact k cv rfl h
noncomputable def gvChk (K : Frag) (tab : List (Str × V)) : Bool := tab.all fun p => onGv (nsIn K mainGlobals p.1) p.2
noncomputable def fnsChk (K : Frag) (addr : String → Addr) (tab : List (Str × String)) : Bool := tab.all fun p => nsIn K mainGlobals p.1 == some (some (.ref (addr p.2))) && keepIn K (.ref (addr p.2))
noncomputable def noneChk (K : Frag) (l : List Str) : Bool := l.all fun x => nsIn K mainGlobals x == some none

theorem lookup_mem {α : Type} {x : Str} {v : α} : ∀ {l : List (Str × α)}, l.lookup x = some v → (x, v) ∈ l
  | [], h => by cases h
  | (y, u) :: r, h => by
    rw [List.lookup_cons] at h
    by_cases e : x == y
    · rw [e] at h; cases h; rw [eq_of_beq e]; exact .head _
    · rw [Bool.not_eq_true] at e; rw [e] at h; exact .tail _ (lookup_mem h)

theorem gvs_of {g : G} (KX : g.K.In g.base) (hmg : g.base.Ns mainGlobals g.mg) (h : gvChk g.K g.gv = true) : ∀ x v, g.gv.lookup x = some v → ∃ cv, g.mg x = some cv ∧ vrel cv v := fun x v hx => by
  exact onGvE (List.all_eq_true.mp h _ (lookup_mem hx)) fun cv hc hv => ⟨cv, mg_of KX hmg hc, vrelB_of hv⟩
theorem fns_of {g : G} (KX : g.K.In g.base) (hmg : g.base.Ns mainGlobals g.mg) {tab : List (Str × String)} (h : fnsChk g.K g.addr tab = true) : ∀ x f, tab.lookup x = some f → g.mg x = some (.ref (g.addr f)) ∧ keepIn g.K (.ref (g.addr f)) = true := fun x f hx => by
  have := List.all_eq_true.mp h _ (lookup_mem hx)
  rw [Bool.and_eq_true, beq_iff_eq] at this
  exact ⟨mg_of KX hmg this.1, this.2⟩
theorem none_of {g : G} (KX : g.K.In g.base) (hmg : g.base.Ns mainGlobals g.mg) {l : List Str} (h : noneChk g.K l = true) : ∀ x ∈ l, g.mg x = none := fun x hx => by
  have := List.all_eq_true.mp h _ hx
  exact mg_none_of KX hmg (beq_iff_eq.mp this)

noncomputable def clsChk (K : Frag) (c : Addr) : Bool := findIn K (.ref c) "__getattribute__" == some (some (.builtin "object.__getattribute__")) && findIn K (.ref c) "__setattr__" == some (some (.builtin "object.__setattr__")) &&
  plainOver K c && hasDictIn K c && attrStrs.all (fun n => findIn K (.ref c) (Str.ofString n) == some none) && makesIn K c
theorem cls_of {g : G} {c : String} (h : clsChk g.K (g.addr c) = true) : ClsOk g c := by
  unfold clsChk at h
  simp only [Bool.and_eq_true, beq_iff_eq, List.all_eq_true] at h
  obtain ⟨⟨⟨⟨⟨h1, h2⟩, h3⟩, h4⟩, h5⟩, h6⟩ := h
  exact ⟨h1, h2, h3, h4, h5, h6⟩

/-! ## the text's own objects -/
noncomputable def sdChk (P : Params) : List DictEntry → List (List Nat × Int) → Prop
  | [], [] => True
  | e :: es, f :: fs => (∃ t, e.key = .str ⟨f.1.toArray⟩ t) ∧ e.hash = PyData.keyHash P ⟨f.1.toArray⟩ ∧ (∃ t, e.val = .int f.2 t) ∧ sdChk P es fs
  | _, _ => False

theorem sd_parts {prog : Program} {w : World} : ∀ {es : List DictEntry} {fs : List (List Nat × Int)}, sdChk w.params es fs →
    (∀ e ∈ es, ∃ k, (PySem.strKind prog w).is k e.key = true ∧ e.hash = (PySem.strKind prog w).hash k) ∧ ∃ ckvs, Pairs (PySem.strKind prog w) es ckvs ∧ ckvs.map (·.1) = fs.map (fun f => (⟨f.1.toArray⟩ : Str)) ∧ sdRel ckvs fs
  | [], [], _ => ⟨fun _ h => (by cases h), [], .nil, rfl, trivial⟩
  | e :: es, f :: fs, ⟨⟨t, h1⟩, h2, ⟨t', h3⟩, h4⟩ => by
    obtain ⟨a, ckvs, b, c, d⟩ := sd_parts (prog := prog) h4
    have hk : (PySem.strKind prog w).is ⟨f.1.toArray⟩ e.key = true := by rw [h1]; exact beq_self_eq_true _
    refine ⟨fun x hx => ?_, (⟨f.1.toArray⟩, e.val) :: ckvs, .cons hk rfl b, by rw [List.map_cons, List.map_cons, c], rfl, ⟨t', h3⟩, d⟩
    rcases List.mem_cons.mp hx with rfl | hx
    · exact ⟨_, hk, h2⟩
    · exact a x hx
  | [], _ :: _, h => h.elim
  | _ :: _, [], h => h.elim

theorem ro_sdict {g : G} {es : Array DictEntry} {n : Nat} {kvs : List (List Nat × Int)} (h : sdChk g.w.params es.toList kvs) (nd : (kvs.map fun f => (⟨f.1.toArray⟩ : Str)).Nodup) :
    ORo g ⟨.type "dict", none, .dict es n, #[]⟩ (.sdict kvs) := by
  obtain ⟨a, ckvs, b, c, d⟩ := sd_parts (prog := g.prog) h
  exact ⟨⟨rfl, rfl, rfl⟩, es, n, ckvs, rfl, fun e he => a e (Array.mem_toList_iff.mpr he), b, by rw [c]; exact nd, d⟩

noncomputable def vrelsB : List Value → List V → Bool
  | [], [] => true
  | c :: cs, v :: vs => vrelB c v && vrelsB cs vs
  | _, _ => false
theorem vrelsB_of : ∀ {cs : List Value} {vs : List V}, vrelsB cs vs = true → vrels cs vs
  | [], [], _ => trivial
  | c :: cs, v :: vs, h => by
    exact andB h fun h1 h2 => ⟨vrelB_of h1, vrelsB_of h2⟩
  | [], _ :: _, h => noB h
  | _ :: _, [], h => noB h
theorem ro_tup {g : G} {od : Option Addr} {cvs : Array Value} {n : Nat} {sl : Array (Option Value)} {vs : List V} (h : vrelsB cvs.toList vs = true) : ORo g ⟨.type "tuple", od, .seq cvs n, sl⟩ (.tup vs) := ⟨rfl, cvs, n, rfl, vrelsB_of h⟩

theorem vrels_ints : ∀ {cs : List Value} {xs : List Int}, IntsAre cs xs → vrels cs (xs.map V.int)
  | _, _, .nil => trivial
  | _, _, .cons _ _ h => ⟨rfl, vrels_ints h⟩

/-! ## the built-in names -/
noncomputable def biChk : Bool := biNames.all (fun p => bootBuiltins p.1 == some (biV p.2) && p.1 != "__name__")
theorem i_bi : biChk = true := by kernel_rfl
theorem i_bi2 : bootBuiltins "isinstance" = some (.builtin "isinstance") ∧ bootBuiltins "range" = some (.type "range") ∧ bootBuiltins "Exception" = some (.type "Exception") ∧ bootBuiltins "int" = some (.type "int") ∧ bootBuiltins "str" = some (.type "str") :=
  ⟨by kernel_rfl, by kernel_rfl, by kernel_rfl, by kernel_rfl, by kernel_rfl⟩
end Mine
end

section
set_option genSizeOf false
set_option genSizeOfSpec false
open PySem PySem.W PyProof.Rows PySem.Calls
set_option Elab.async false
set_option maxRecDepth 100000
set_option linter.unusedVariables false
namespace Mine

noncomputable def addrTab : List (String × Addr) := [("wrap_number", 21), ("number_head", 28), ("numeric_text", 35), ("number_text", 42), ("Ref", 157), ("thing_word", 168), ("hex_of", 175), ("ref_text", 182), ("to_text", 189), ("to_number", 196), ("Die", 233),
  ("chr_text", 242), ("Directive", 260), ("ValueRow", 281), ("take_value", 292), ("figures_at", 299), ("index_at", 306), ("read_flags", 313), ("read_size", 320), ("read_directive", 327), ("check_size", 334), ("settle_stars", 341),
  ("base_text", 348), ("sign_ahead", 355), ("prefix_of", 362), ("with_precision", 369), ("signed_parts", 376), ("unsigned_parts", 381), ("text_part", 388), ("laid_out", 395), ("directive_text", 402), ("format_text", 409), ("Limits", 427),
  ("_law_rest", 438), ("_law_draw", 445), ("_law_run", 452), ("_law_place", 457), ("_law_sized", 464), ("_law_cut", 471), ("_law_value", 478), ("_law_number", 485), ("_law_told", 492), ("_law_formatted", 499), ("law", 504)]
noncomputable def addrF (f : String) : Addr := (addrTab.lookup f).getD 0
noncomputable def clTab : List (Str × String) := ["Directive", "ValueRow", "Limits"].map fun s => (Str.ofString s, s)
noncomputable def noneL : List Str := biNames.map (·.1) ++ [Str.ofString "isinstance", Str.ofString "range", Str.ofString "Exception", Str.ofString "int", Str.ofString "str"]

/-- what is read off the heap behind the text's head -/
structure KF (P : Params) (K : Frag) : Prop where
  i_gv : gvChk K gvTab = true
  i_fn : fnsChk K addrF fnTab = true
  i_cl : fnsChk K addrF clTab = true
  i_none : noneChk K noneL = true
  i_c1 : clsChk K (addrF "Directive") = true
  i_c2 : clsChk K (addrF "ValueRow") = true
  i_c3 : clsChk K (addrF "Limits") = true
  i_fam : (famList.map fun p => fnSum K (addrF p.1) gvTab fnTab clTab) = famList.map fun p => some (p.2.names, p.2.params, p.2.body, .none)
  i_law : (lawL.map fun p => fnSum K (addrF p.1) gvTab fnTab clTab) = lawL.map fun p => some (p.2.names, p.2.params, p.2.body, .none)
  i_dir : fnSum K 257 gvTab fnTab clTab = some (F_Directive__init.names, F_Directive__init.params, F_Directive__init.body, .none)
  i_row : fnSum K 278 gvTab fnTab clTab = some (F_ValueRow__init.names, F_ValueRow__init.params, F_ValueRow__init.body, .none)
  i_lim : fnSum K 424 gvTab fnTab clTab = some (F_Limits__init.names, F_Limits__init.params, F_Limits__init.body, .ref 417)
  i_dirI : findIn K (.ref 260) "__init__" = some (some (.ref 257)) ∧ typeIn K (.ref 257) = some (.type "function")
  i_rowI : findIn K (.ref 281) "__init__" = some (some (.ref 278)) ∧ typeIn K (.ref 278) = some (.type "function")
  i_limI : findIn K (.ref 427) "__init__" = some (some (.ref 424)) ∧ typeIn K (.ref 424) = some (.type "function")
  i_ref : isNotIn K "str" 157 = true
  i_limT : ∃ oc od n sl, K.lookup 417 = some ⟨oc, od, .seq #[.int 64 812, .int 50 813, .int 1000000 816, .int 100000 819, .int 10000 822] n, sl⟩
  i_bases : ∃ es n, K.lookup 243 = some ⟨.type "dict", none, .dict es n, #[]⟩ ∧ sdChk P es.toList baseTab
  i_law504 : nsIn K mainGlobals "law" = some (some (.ref 504))
  i_ref1 : nsIn K mainGlobals "Ref" = some (some (.ref 157))
  i_die1 : nsIn K mainGlobals "Die" = some (some (.ref 233))
  i_pe1 : nsIn K mainGlobals "PerlError" = some (some (.ref 213))
  i_d1 : keepIn K (.ref 233) = true ∧ typeIn K (.ref 233) = some (.type "type") ∧ (clsIn K 233).isSome = true ∧ subIn K (.ref 233) (.type "BaseException") = some true ∧ subIn K (.ref 233) (.ref 233) = some true ∧
    instIn K (.ref 233) (.type "tuple") = some false
  i_d2 : ∃ nm q N bs sn sub ab col dd k0 k1 k2 k3 k5, K.lookup 233 = some (excClassObj nm q 233 N bs (upLine 213) true sn sub ab col dd k0 k1 k2 k3 k5 "Exception.__new__")
  i_d3 : findIn K (.ref 233) "__init__" = some (some (.ref 230)) ∧ typeIn K (.ref 230) = some (.type "function") ∧ readsIn K 213 (.type "type") = true ∧
    specialIn K (.ref 213) "__getattribute__" = some (some (.builtin "type.__getattribute__")) ∧ keepIn K (.ref 210) = true ∧
    findIn K (.ref 233) "__setattr__" = some (some (.builtin "object.__setattr__")) ∧ takerIn K 233 "text" = some none ∧ takerIn K 233 "value" = some none ∧ subIn K (.ref 233) (.type "Exception") = some true
  i_d4 : findCls K (.ref 213) (.type "type") "__init__" = some (.val (.ref 210))
  i_d5 : findCls K (.type "Exception") (.type "type") "__init__" = some (.val (.builtin "Exception.__init__"))
  i_d6 : ∃ o fd p1 p2 p3 p4 p5 p6 p7 p8 p9 p10, K.lookup 230 = some o ∧ o.data = .func fd ∧ fd.scope.isCoroutine = false ∧ fd.scope.isGenerator = false ∧ fd.body = .stmts
    [.Expr (.Call (.Attribute (.Name "PerlError" p1) "__init__" p2) [.Name "self" p3, .Constant (.str "died") 0 p4] [] p5) p6, .Assign [.Attribute (.Name "self" p7) "value" p8] (.Name "value" p9) p10] ∧ codeIn K fd.code fd.qualname = true ∧
    fd.globals = mainGlobals ∧ fd.builtins = builtinsNs ∧ fd.closure = [] ∧ fd.scope.kind = .function ∧ fd.scope.names = [(Str.ofString "self", NameKind.local), (Str.ofString "value", NameKind.local), (Str.ofString "PerlError", NameKind.globalImplicit)] ∧ (∃ as kd df, fd.params = ⟨[], as, none, [], kd, none, df⟩ ∧ as.map (·.arg) = [Str.ofString "self", Str.ofString "value"]) ∧ fd.defaults = .none ∧ (p2.endLine == p5.line) = true
  i_d7 : ∃ o fd p1 p2 p3 p4 p5 p6 p7 p8 p9 p10, K.lookup 210 = some o ∧ o.data = .func fd ∧ fd.scope.isCoroutine = false ∧ fd.scope.isGenerator = false ∧ fd.body = .stmts
    [.Expr (.Call (.Attribute (.Name "Exception" p1) "__init__" p2) [.Name "self" p3, .Name "text" p4] [] p5) p6, .Assign [.Attribute (.Name "self" p7) "text" p8] (.Name "text" p9) p10] ∧ codeIn K fd.code fd.qualname = true ∧
    fd.globals = mainGlobals ∧ fd.builtins = builtinsNs ∧ fd.closure = [] ∧ fd.scope.kind = .function ∧ fd.scope.names = [(Str.ofString "self", NameKind.local), (Str.ofString "text", NameKind.local), (Str.ofString "Exception", NameKind.globalImplicit)] ∧ (∃ as kd df, fd.params = ⟨[], as, none, [], kd, none, df⟩ ∧ as.map (·.arg) = [Str.ofString "self", Str.ofString "text"]) ∧ fd.defaults = .none ∧ (p2.endLine == p5.line) = true
theorem use_kf {P : Params} {K : Frag} {base : Heap} {R : Prop} (KX : K.In base) (h : KF P K) (k : KF P K → R) : R := k h
end Mine
end

section
set_option genSizeOf false
set_option genSizeOfSpec false
open PySem PySem.W PyProof.Rows PySem.Calls
set_option Elab.async false
set_option maxRecDepth 100000
set_option linter.unusedVariables false
set_option linter.unusedSimpArgs false
namespace Mine

noncomputable def gI (w : World) (K : Frag) (base : Heap) (mg mb : Str → Option Value) (sA : Addr) (xs : List Int) : G where
  prog := Challenge.rw_nz0189_02.row.prog
  w := w
  K := K
  base := base
  mg := mg
  mb := mb
  addr := addrF
  ro := fun a => if a = 243 then some (.sdict baseTab) else if a = sA then some (.list (xs.map V.int)) else none
  gv := gvTab
  fns := fnTab
  cl := clTab
  T := fun _ => none

structure Gd (w : World) (K : Frag) (base : Heap) (mg mb : Str → Option Value) (sA : Addr) (xs : List Int) : Prop where
  F : KF w.params K
  X : K.In base
  hmg : base.Ns mainGlobals mg
  hmb : base.Ns builtinsNs mb
  nl : base.NoLimit
  hb : ∀ x : Str, x ≠ "__name__" → mb x = bootBuiltins x
  sc : ∃ cvs, base.IsList sA cvs ∧ IntsAre cvs.toList xs

section
variable {w : World} {K : Frag} {base : Heap} {mg mb : Str → Option Value} {sA : Addr} {xs : List Int}

theorem e_Ref : addrF "Ref" = 157 := by decide +kernel
theorem e_Die : addrF "Die" = 233 := by decide +kernel
theorem e_Dir : addrF "Directive" = 260 := by decide +kernel
theorem e_Row : addrF "ValueRow" = 281 := by decide +kernel
theorem e_Lim : addrF "Limits" = 427 := by decide +kernel
theorem e_law : addrF "law" = 504 := by decide +kernel

theorem none_of' (D : Gd w K base mg mb sA xs) {x : Str} (h : x ∈ noneL) : mg x = none := none_of (g := gI w K base mg mb sA xs) D.X D.hmg D.F.i_none x h

theorem gI_ok (D : Gd w K base mg mb sA xs) : GOk (gI w K base mg mb sA xs) where
  hmg := D.hmg
  hmb := D.hmb
  nl := D.nl
  KX := D.X
  ro := fun a o h => by
    change (if a = 243 then some (AObj.sdict baseTab) else if a = sA then some (.list (xs.map V.int)) else none) = some o at h
    split at h
    · rename_i e; cases h; subst e
      obtain ⟨es, n, h1, h2⟩ := D.F.i_bases
      exact ⟨_, D.X _ _ h1, ro_sdict (g := gI w K base mg mb sA xs) h2 (by decide +kernel)⟩
    · split at h
      · rename_i e; cases h; subst e
        obtain ⟨cvs, ⟨o, h1, h2, n, h3⟩, h4⟩ := D.sc
        exact ⟨o, h1, h2, cvs, n, h3, vrels_ints h4⟩
      · cases h
  cls := fun c hc => by
    unfold clsNames at hc
    simp only [List.mem_cons, List.not_mem_nil, or_false] at hc
    rcases hc with rfl | rfl | rfl
    · exact cls_of D.F.i_c1
    · exact cls_of D.F.i_c2
    · exact cls_of D.F.i_c3
  isR := by show isNotIn _ _ (addrF "Ref") = true; rw [e_Ref]; exact D.F.i_ref
  gvs := gvs_of (g := gI w K base mg mb sA xs) D.X D.hmg D.F.i_gv
  fn := fns_of (g := gI w K base mg mb sA xs) D.X D.hmg D.F.i_fn
  clv := fns_of (g := gI w K base mg mb sA xs) D.X D.hmg D.F.i_cl
  bi := fun x b h => by
    have hm := lookup_mem h
    have := List.all_eq_true.mp i_bi _ hm
    rw [Bool.and_eq_true, beq_iff_eq, bne_iff_ne] at this
    exact ⟨none_of' D (List.mem_append_left _ (List.mem_map.mpr ⟨_, hm, rfl⟩)), (D.hb x this.2).trans this.1⟩
  isi := ⟨none_of' D (by decide +kernel), (D.hb _ (by decide +kernel)).trans i_bi2.1⟩
  rng := ⟨none_of' D (by decide +kernel), (D.hb _ (by decide +kernel)).trans i_bi2.2.1⟩
  ty := fun x t h => by
    have hm := lookup_mem h
    unfold tyNames at hm
    simp only [List.mem_cons, List.not_mem_nil, or_false] at hm
    rcases hm with e | e | e <;> cases e
    · exact .inr ⟨none_of' D (by decide +kernel), (D.hb _ (by decide +kernel)).trans i_bi2.2.2.2.1⟩
    · exact .inr ⟨none_of' D (by decide +kernel), (D.hb _ (by decide +kernel)).trans i_bi2.2.2.2.2⟩
    · exact .inl ((mg_of D.X D.hmg D.F.i_ref1).trans (by show _ = some (Value.ref (addrF "Ref")); rw [e_Ref]))
  die := (mg_of D.X D.hmg D.F.i_die1).trans (by show _ = some (Value.ref (addrF "Die")); rw [e_Die])

theorem gI_dieK (D : Gd w K base mg mb sA xs) : DieK (gI w K base mg mb sA xs) 213 230 210 := by
  have eD : (gI w K base mg mb sA xs).addr "Die" = 233 := e_Die
  obtain ⟨a1, a2, a3, a4, a5, a6, a7, a8, a9⟩ := D.F.i_d3
  refine ⟨by rw [eD]; exact D.F.i_d2, by rw [eD]; exact a1, a2, ?_, ?_, mg_of D.X D.hmg D.F.i_pe1, ⟨none_of' D (by decide +kernel), (D.hb _ (by decide +kernel)).trans i_bi2.2.2.1⟩, a3, a4, D.F.i_d4, D.F.i_d5, a5, by rw [eD]; exact a6, by rw [eD]; exact a7, by rw [eD]; exact a8, by rw [eD]; exact a9⟩
  · obtain ⟨o, fd, p1, p2, p3, p4, p5, p6, p7, p8, p9, p10, b1, b2, b3, b4, b5, b6, b7, b8, b9, b10, b11, ⟨as, kd, df, b12, b13⟩, b14, b15⟩ := D.F.i_d6
    refine ⟨p1, p2, p3, p4, p5, p6, p7, p8, p9, p10, b15, ⟨o, fd, b1, b2, b3, b4, b5, b6, b7, b8, b9, b10, b11, fun a b => ?_⟩, by decide +kernel, by decide +kernel, by decide +kernel⟩
    rw [bind_plain b12 b14 (by rw [b13]; decide +kernel) (by have := congrArg List.length b13; rw [List.length_map] at this; exact this.symm), b13]; rfl
  · obtain ⟨o, fd, p1, p2, p3, p4, p5, p6, p7, p8, p9, p10, b1, b2, b3, b4, b5, b6, b7, b8, b9, b10, b11, ⟨as, kd, df, b12, b13⟩, b14, b15⟩ := D.F.i_d7
    refine ⟨p1, p2, p3, p4, p5, p6, p7, p8, p9, p10, b15, ⟨o, fd, b1, b2, b3, b4, b5, b6, b7, b8, b9, b10, b11, fun a b => ?_⟩, by decide +kernel, by decide +kernel, by decide +kernel⟩
    rw [bind_plain b12 b14 (by rw [b13]; decide +kernel) (by have := congrArg List.length b13; rw [List.length_map] at this; exact this.symm), b13]; rfl

theorem gI_die (D : Gd w K base mg mb sA xs) : DieOk (gI w K base mg mb sA xs) := by
  have eD : (gI w K base mg mb sA xs).addr "Die" = 233 := e_Die
  obtain ⟨a1, a2, a3, a4, a5, a6⟩ := D.F.i_d1
  exact ⟨die_make (gI_ok D) (gI_dieK D), by rw [eD]; exact a1, by rw [eD]; exact a2, by rw [eD]; exact a3, by rw [eD]; exact a4, by rw [eD]; exact a5, by rw [eD]; exact a6⟩

theorem gI_fam (D : Gd w K base mg mb sA xs) : Fam (gI w K base mg mb sA xs) where
  G := gI_ok D
  D := gI_die D
  fn := fun p hp => fnOk_of (g := gI w K base mg mb sA xs) D.X (List.map_inj_left.mp D.F.i_fam p hp)
  dir := initOk_of (g := gI w K base mg mb sA xs) D.X D.F.i_dir (by show findIn _ (.ref (addrF "Directive")) _ = _; rw [e_Dir]; exact D.F.i_dirI.1) D.F.i_dirI.2
  row := initOk_of (g := gI w K base mg mb sA xs) D.X D.F.i_row (by show findIn _ (.ref (addrF "ValueRow")) _ = _; rw [e_Row]; exact D.F.i_rowI.1) D.F.i_rowI.2
  bases := rfl

theorem lim_binds {fd : FuncData} {as : List Arg} {kd : List (Option Expr)} {df : List Expr} (hp : fd.params = ⟨[], as, none, [], kd, none, df⟩) (hn : as.map (·.arg) = [Str.ofString "self", Str.ofString "width", Str.ofString "depth", Str.ofString "steps", Str.ofString "text", Str.ofString "items"])
    {T : Addr} (hd : fd.defaults = .ref T) {s : Shared} {o : Obj} {n : Nat} {d1 d2 d3 d4 d5 : Value} (ho : s.heap.get? T = some o) (hs : o.data = .seq #[d1, d2, d3, d4, d5] n) {a v2 : Value} :
    BindsTo s fd ⟨[a], [(Str.ofString "text", v2)]⟩ [(Str.ofString "self", a), (Str.ofString "width", d1), (Str.ofString "depth", d2), (Str.ofString "steps", d3), (Str.ofString "text", v2), (Str.ofString "items", d5)] := by
  refine BindsTo.of_defaults hd ho hs (k := ?_) ?_ ?_
  rotate_left
  · unfold bindArgs
    simp only [hp, hn]
    rfl
  · rfl

theorem gI_limits (D : Gd w K base mg mb sA xs) {n : Nat} {H : AHeap} {Q : V → AHeap → Prop} {X : AHeap → Prop} (hn : 2 ≤ n) (hQ : ∀ a H', Ext H H' → Lim H' a 64 200 → Q (.ref a) H') :
    NewSem (gI w K base mg mb sA xs) n "Limits" [] ["text"] [.int 200] H Q X := by
  obtain ⟨fd, as, kd, df, FD, hdv, hp, hl, h1, h2, h3⟩ := fnSum_of (g := gI w K base mg mb sA xs) D.X D.F.i_lim
  obtain ⟨oc, od, m, sl, hT⟩ := D.F.i_limT
  have hnm : as.map (·.arg) = [Str.ofString "self", Str.ofString "width", Str.ofString "depth", Str.ofString "steps", Str.ofString "text", Str.ofString "items"] := by rw [← h1]; rfl
  refine NewSem.mono (n := 0 + 2) (new_core (gI_ok D) (gI_die D) mem_cls.2.2 FD (by show findIn _ (.ref (addrF "Limits")) _ = _; rw [e_Lim]; exact D.F.i_limI.1) D.F.i_limI.2
    (l0 := fun a => [some (.ref a), some (.int 64), some (.int 50), some (.int 1000000), some (.int 200), some (.int 10000)]) ?_ (fun a => rfl) (fun a d ha hd had => ?_)) hn
  · intro s cargs ckvs a st r1 r2
    match cargs, ckvs, r1, r2 with
    | [], [v2], _, ⟨r3, _⟩ =>
      refine ⟨_, lim_binds hp hnm hdv (st _ _ (D.X _ _ hT)) rfl, (by show [Str.ofString "self", Str.ofString "width", Str.ofString "depth", Str.ofString "steps", Str.ofString "text", Str.ofString "items"].Nodup; decide +kernel), fun p hpm => ?_, fun i y k v q1 q2 => ?_⟩
      · simp only [List.mem_cons, List.not_mem_nil, or_false] at hpm
        rcases hpm with rfl | rfl | rfl | rfl | rfl | rfl <;> exact .inl (by show List.lookup (Str.ofString _) n_Limits__init = _; decide +kernel)
      · match i, q1, q2 with
        | 0, q1, q2 => cases q1; cases q2; exact ⟨_, .head _, rfl⟩
        | 1, q1, q2 => cases q1; cases q2; exact ⟨_, .tail _ (.head _), rfl⟩
        | 2, q1, q2 => cases q1; cases q2; exact ⟨_, .tail _ (.tail _ (.head _)), rfl⟩
        | 3, q1, q2 => cases q1; cases q2; exact ⟨_, .tail _ (.tail _ (.tail _ (.head _))), rfl⟩
        | 4, q1, q2 => cases q1; cases q2; exact ⟨_, .tail _ (.tail _ (.tail _ (.tail _ (.head _)))), r3⟩
        | 5, q1, q2 => cases q1; cases q2; exact ⟨_, .tail _ (.tail _ (.tail _ (.tail _ (.tail _ (.head _))))), rfl⟩
        | _ + 6, q1, q2 => cases q1
  · show wpS _ 0 b_Limits__init _ X _ _
    unfold b_Limits__init
    refine S_seq (S_setA ?_); simp only [ze2, List.getElem?_cons_zero, List.getElem?_cons_succ]
    refine new_set had mem_cls.2.2 (by simp [attrStrs]) (by simp []) ?_
    refine S_seq (S_setA ?_); simp only [ze2, List.getElem?_cons_zero, List.getElem?_cons_succ]
    refine new_set had mem_cls.2.2 (by simp [attrStrs]) (by simp [putF]) ?_
    refine S_seq (S_setA ?_); simp only [ze2, List.getElem?_cons_zero, List.getElem?_cons_succ]
    refine new_set had mem_cls.2.2 (by simp [attrStrs]) (by simp [putF]) ?_
    refine S_seq (S_setA ?_); simp only [ze2, List.getElem?_cons_zero, List.getElem?_cons_succ]
    refine new_set had mem_cls.2.2 (by simp [attrStrs]) (by simp [putF]) ?_
    refine S_seq (S_setA ?_); simp only [ze2, List.getElem?_cons_zero, List.getElem?_cons_succ]
    refine new_set had mem_cls.2.2 (by simp [attrStrs]) (by simp [putF]) ?_
    refine S_nil ⟨by trivial, ?_⟩
    refine hQ a _ ((Ext.upd hd).trans (Ext.upd (by rw [upd_ne _ _ had]; exact ha))) ⟨d, .int 50, .int 1000000, .int 10000, upd_same _ _ _, ?_⟩
    rw [upd_ne _ _ (Ne.symm had), upd_same]; rfl

theorem gI_lfam (D : Gd w K base mg mb sA xs) : LFam (gI w K base mg mb sA xs) where
  toFam := gI_fam D
  lfn := fun p hp => fnOk_of (g := gI w K base mg mb sA xs) D.X (List.map_inj_left.mp D.F.i_law p hp)
  limits := fun hn hQ => gI_limits D hn hQ
end
end Mine
end

section
set_option genSizeOf false
set_option genSizeOfSpec false
open PySem PySem.W PyProof.Rows PySem.Calls
set_option Elab.async false
set_option maxRecDepth 100000
set_option maxHeartbeats 0
set_option linter.unusedVariables false
namespace Mine

theorem top_law {w : World} {K : Frag} {s₁ : Shared} {mg mb : Str → Option Value} {xs : List Int} {vals : List Value} {l : Addr} {R : Result → Shared → Prop} (D : Gd w K s₁.heap mg mb l xs) (hl : s₁.heap.IsList l vals.toArray) (hx : xs.length ≤ 63)
    (P : ∀ s', (∀ b o, s₁.heap.get? b = some o → s'.heap.get? b = some o) → s'.os = s₁.os → s'.gens = s₁.gens → R (.ok (.ret (.bool true))) s') :
    codeAny (model Challenge.rw_nz0189_02.row.prog w) callerA (.call (.ref 504) ⟨[.ref l], []⟩) R s₁ := by
  have W := gI_lfam D
  obtain ⟨fd, as, kd, df, FD, hdv, hp, hn, h1, h2, h3⟩ := fnSum_of (g := gI w K s₁.heap mg mb l xs) D.X (List.map_inj_left.mp D.F.i_law ("law", F_law) (List.mem_of_getElem? (i := 10) rfl))
  rw [show addrF "law" = 504 from e_law] at FD
  have ha : as.map (·.arg) = [Str.ofString "script"] := by rw [← h1]; rfl
  have hb : bindArgs fd ⟨[.ref l], []⟩ = pure [(Str.ofString "script", .ref l)] := by
    rw [bind_plain hp hdv (by rw [ha]; decide +kernel) (by have := congrArg List.length ha; rw [List.length_map] at this; exact this.symm), ha]; rfl
  have hO : Ob (gI w K s₁.heap mg mb l xs) (fun _ => none) l (.list (xs.map V.int)) := by
    refine .inr ?_
    obtain ⟨o, q1, q2, n, q3⟩ := hl
    have n1 : l ≠ 243 := fun e => by
      obtain ⟨es, m, z, _⟩ := D.F.i_bases
      have := D.X _ _ z; rw [← e, q1] at this; cases this; cases q3
    show (if l = 243 then _ else if l = l then _ else _) = _
    rw [if_neg n1, if_pos rfl]
  refine call_top (n := 7) (gI_ok D) (gI_die D) FD (x := Str.ofString "script") (v0 := .ref l) (l0 := [some (.ref l), none, none, none, none, none, none, none, none, none, none, none, none, none, none, none, none, none, none, none])
    rfl rfl (by decide +kernel) (fun b o e => e) hb (by show List.lookup _ n_law = _; decide +kernel) rfl ?_ rfl (w_law (Q := fun v _ => v = .bool true) (X := fun _ => False) W hO hx fun _ => rfl) ?_
  · intro i y k v q1 q2
    match i, q1, q2 with
    | 0, q1, q2 => cases q1; cases q2; exact ⟨rfl, rfl⟩
    | i + 1, q1, q2 =>
      have hm : some v ∈ List.replicate 19 (none : Option V) := List.mem_of_getElem? (i := i) q2
      rw [List.mem_replicate] at hm
      cases hm.2
  · rintro v cv H' s' rfl rv k ho hg
    rw [vrel_bool rv]
    exact P s' k ho hg

end Mine
end

section
set_option genSizeOf false
set_option genSizeOfSpec false
open PySem PySem.W PyProof.Rows PySem.Calls
set_option Elab.async true
set_option maxRecDepth 100000
set_option maxHeartbeats 0
set_option linter.unusedVariables false
namespace Mine
theorem Z.tw10012486843448002182 : True := trivial
theorem Z.tw10015447140357356283 : True := trivial
theorem Z.tw10055253765861733712 : True := trivial
theorem Z.tw10074662124178236881 : True := trivial
theorem Z.tw10167445526837549386 : True := trivial
theorem Z.tw1017632994626658408 : True := trivial
theorem Z.tw10208074729774953824 : True := trivial
theorem Z.tw10319956436528705596 : True := trivial
theorem Z.tw10341883148735433792 : True := trivial
theorem Z.tw10457728356634976928 : True := trivial
theorem Z.tw10488401762875644283 : True := trivial
theorem Z.tw10659314413618107638 : True := trivial
theorem Z.tw10682592578946264668 : True := trivial
theorem Z.tw1072480684664855031 : True := trivial
theorem Z.tw10724824680733677382 : True := trivial
theorem Z.tw10742521120614189678 : True := trivial
theorem Z.tw10751614842528475040 : True := trivial
theorem Z.tw10754825061594369294 : True := trivial
theorem Z.tw10782835413503306078 : True := trivial
theorem Z.tw10784857128844959094 : True := trivial
theorem Z.tw107933296256501694 : True := trivial
theorem Z.tw10797310215331599245 : True := trivial
theorem Z.tw10848000216755996202 : True := trivial
theorem Z.tw10856722580334323664 : True := trivial
theorem Z.tw10887500831715813266 : True := trivial
theorem Z.tw11015851759294976507 : True := trivial
theorem Z.tw1101995824614804486 : True := trivial
theorem Z.tw11020092053276584723 : True := trivial
theorem Z.tw11031387153449883391 : True := trivial
theorem Z.tw11043563265305893968 : True := trivial
theorem Z.tw11171413685171802227 : True := trivial
theorem Z.tw11180295773583646630 : True := trivial
theorem Z.tw11201445722420288051 : True := trivial
theorem Z.tw11244634168344678011 : True := trivial
theorem Z.tw11253950567890616722 : True := trivial
theorem Z.tw11286955897190088646 : True := trivial
theorem Z.tw11315738341862087998 : True := trivial
theorem Z.tw11408178785761488675 : True := trivial
theorem Z.tw1143754200251044170 : True := trivial
theorem Z.tw11446296455726422578 : True := trivial
theorem Z.tw11458936504227990663 : True := trivial
theorem Z.tw11470478173346087018 : True := trivial
theorem Z.tw11522005470709663671 : True := trivial
theorem Z.tw11569987530760343284 : True := trivial
theorem Z.tw11666483641090342989 : True := trivial
theorem Z.tw11673341490677583086 : True := trivial
theorem Z.tw11682796889759544831 : True := trivial
theorem Z.tw11692973197794699921 : True := trivial
theorem Z.tw11734797247096873790 : True := trivial
theorem Z.tw11775459224315123598 : True := trivial
theorem Z.tw11860482335260572172 : True := trivial
theorem Z.tw11892175929897457275 : True := trivial
theorem Z.tw11917142931897112145 : True := trivial
theorem Z.tw11983539279360033548 : True := trivial
theorem Z.tw11997135840973288141 : True := trivial
theorem Z.tw12020048368247296172 : True := trivial
theorem Z.tw12040079081233769004 : True := trivial
theorem Z.tw12063803239420205231 : True := trivial
theorem Z.tw12069189819455730818 : True := trivial
theorem Z.tw1209101970859179276 : True := trivial
theorem Z.tw12199585400732083631 : True := trivial
theorem Z.tw12224630997186704294 : True := trivial
theorem Z.tw12233934773807810109 : True := trivial
theorem Z.tw12240202780581643245 : True := trivial
theorem Z.tw12261215049303615281 : True := trivial
theorem Z.tw12300782403875977853 : True := trivial
theorem Z.tw12304850911225583732 : True := trivial
theorem Z.tw12329231386653923437 : True := trivial
theorem Z.tw12335449231579380433 : True := trivial
theorem Z.tw12449642025725634448 : True := trivial
theorem Z.tw12454983231090956658 : True := trivial
theorem Z.tw1246998290186338901 : True := trivial
theorem Z.tw12471376889077189626 : True := trivial
theorem Z.tw12485944579869220948 : True := trivial
theorem Z.tw12587805009549949946 : True := trivial
theorem Z.tw12607091938859004498 : True := trivial
theorem Z.tw12620485547512580937 : True := trivial
theorem Z.tw12621063972001165851 : True := trivial
theorem Z.tw12668808895726755971 : True := trivial
theorem Z.tw12702427182939414357 : True := trivial
theorem Z.tw12754653724845080715 : True := trivial
theorem Z.tw12774942664982783046 : True := trivial
theorem Z.tw12800227669297824798 : True := trivial
theorem Z.tw12805233810956954479 : True := trivial
theorem Z.tw12880822811524612346 : True := trivial
theorem Z.tw13017348506334770763 : True := trivial
theorem Z.tw13034026204425115471 : True := trivial
theorem Z.tw1304142966141041538 : True := trivial
theorem Z.tw13047454910646533995 : True := trivial
theorem Z.tw13293574557863337315 : True := trivial
theorem Z.tw133237866109282437 : True := trivial
theorem Z.tw13333923107290932208 : True := trivial
theorem Z.tw13347346793393086034 : True := trivial
theorem Z.tw13363919362029153881 : True := trivial
theorem Z.tw13403177524349076579 : True := trivial
theorem Z.tw13405288711829358952 : True := trivial
theorem Z.tw13466611981730552093 : True := trivial
theorem Z.tw13495758863604482008 : True := trivial
theorem Z.tw13560328539702284130 : True := trivial
theorem Z.tw13607298476689865580 : True := trivial
theorem Z.tw13608777463802061846 : True := trivial
theorem Z.tw1362780714423723456 : True := trivial
theorem Z.tw13633662897999847116 : True := trivial
theorem Z.tw13650199541762607584 : True := trivial
theorem Z.tw13663497697010576904 : True := trivial
theorem Z.tw13780987122981548367 : True := trivial
theorem Z.tw13816115259951747748 : True := trivial
theorem Z.tw13827204902324771338 : True := trivial
theorem Z.tw13891526533489063422 : True := trivial
theorem Z.tw13938109914520371750 : True := trivial
theorem Z.tw13956571596605633760 : True := trivial
theorem Z.tw13993309253958868510 : True := trivial
theorem Z.tw14019146538907721353 : True := trivial
theorem Z.tw14043863122808800027 : True := trivial
theorem Z.tw14086041974983634314 : True := trivial
theorem Z.tw14104514968573622612 : True := trivial
theorem Z.tw14106879317325721476 : True := trivial
theorem Z.tw14225883970577523686 : True := trivial
theorem Z.tw14236801500866118102 : True := trivial
theorem Z.tw14246403783370029946 : True := trivial
theorem Z.tw1425801262823679761 : True := trivial
theorem Z.tw1431146359311352669 : True := trivial
theorem Z.tw14348010037787971806 : True := trivial
theorem Z.tw14351749622213818294 : True := trivial
theorem Z.tw1435389143837879689 : True := trivial
theorem Z.tw14397936363129857680 : True := trivial
theorem Z.tw14456142522925091882 : True := trivial
theorem Z.tw14457366220218641588 : True := trivial
theorem Z.tw1450514844889276828 : True := trivial
theorem Z.tw14516130388864555325 : True := trivial
theorem Z.tw14516290056507950345 : True := trivial
theorem Z.tw14526931146423244040 : True := trivial
theorem Z.tw14555814886640267002 : True := trivial
theorem Z.tw14561857041596542953 : True := trivial
theorem Z.tw1457534080064398124 : True := trivial
theorem Z.tw14595954982733512637 : True := trivial
theorem Z.tw14677310203454882341 : True := trivial
theorem Z.tw14683534354081594420 : True := trivial
theorem Z.tw14698410559435683487 : True := trivial
theorem Z.tw14710296998397018751 : True := trivial
theorem Z.tw14780479746298389607 : True := trivial
theorem Z.tw14830185002341640027 : True := trivial
theorem Z.tw14851110393069371858 : True := trivial
theorem Z.tw14883074365041116528 : True := trivial
theorem Z.tw14905673886863078858 : True := trivial
theorem Z.tw14924457650397483573 : True := trivial
theorem Z.tw14937676470769328190 : True := trivial
theorem Z.tw14954608971215404302 : True := trivial
theorem Z.tw1496714416332305161 : True := trivial
theorem Z.tw14969730435971139590 : True := trivial
theorem Z.tw14981691579744446142 : True := trivial
theorem Z.tw15000441440516832436 : True := trivial
theorem Z.tw15044967560694154501 : True := trivial
theorem Z.tw15045177005308698178 : True := trivial
theorem Z.tw15054512610848077410 : True := trivial
theorem Z.tw15073183697780814136 : True := trivial
theorem Z.tw15075432841548484700 : True := trivial
theorem Z.tw15096719832534418700 : True := trivial
theorem Z.tw15142489583774399663 : True := trivial
theorem Z.tw15198504684318580388 : True := trivial
theorem Z.tw15246083071461836776 : True := trivial
theorem Z.tw15261951841083182227 : True := trivial
theorem Z.tw15280659861605828559 : True := trivial
theorem Z.tw15297222377256596340 : True := trivial
theorem Z.tw15326975401691155537 : True := trivial
theorem Z.tw15400839740913436893 : True := trivial
theorem Z.tw15560034646358423961 : True := trivial
theorem Z.tw1564261220310851424 : True := trivial
theorem Z.tw15677825654437773425 : True := trivial
theorem Z.tw15703484582500798361 : True := trivial
theorem Z.tw15703871751007857319 : True := trivial
theorem Z.tw15710940566991143024 : True := trivial
theorem Z.tw15762388805326351771 : True := trivial
theorem Z.tw15805847646114139957 : True := trivial
theorem Z.tw15834134751488259971 : True := trivial
theorem Z.tw158355369758139858 : True := trivial
theorem Z.tw15837602182017773231 : True := trivial
theorem Z.tw15855791034378181576 : True := trivial
theorem Z.tw15959770491373558236 : True := trivial
theorem Z.tw15976781654072767381 : True := trivial
theorem Z.tw16039383887763271030 : True := trivial
theorem Z.tw16047659769920454660 : True := trivial
theorem Z.tw16067616015635212325 : True := trivial
theorem Z.tw16086490403453975894 : True := trivial
theorem Z.tw16169877716360804473 : True := trivial
theorem Z.tw16213600643227029060 : True := trivial
theorem Z.tw16224747044537638314 : True := trivial
theorem Z.tw16245692649232765369 : True := trivial
theorem Z.tw16256475323743886968 : True := trivial
theorem Z.tw16264659602385280137 : True := trivial
theorem Z.tw16302748248892103422 : True := trivial
theorem Z.tw16326656163066660261 : True := trivial
theorem Z.tw16327700213317852841 : True := trivial
theorem Z.tw16336502475335408482 : True := trivial
theorem Z.tw16355023590042947493 : True := trivial
theorem Z.tw16366299669633575266 : True := trivial
theorem Z.tw16375939865989805793 : True := trivial
theorem Z.tw1640745273651499126 : True := trivial
theorem Z.tw16419201766000841989 : True := trivial
theorem Z.tw16442966243166288828 : True := trivial
theorem Z.tw16452855143098038779 : True := trivial
theorem Z.tw16457126378777270082 : True := trivial
theorem Z.tw16496707711566291880 : True := trivial
theorem Z.tw16524196062539422709 : True := trivial
theorem Z.tw16527160083283522909 : True := trivial
theorem Z.tw16560889622016649079 : True := trivial
theorem Z.tw1657800324397190109 : True := trivial
theorem Z.tw1658398933884155669 : True := trivial
theorem Z.tw16591785747519114847 : True := trivial
theorem Z.tw16606582509536956473 : True := trivial
theorem Z.tw16618388865225954565 : True := trivial
theorem Z.tw16636084020588593561 : True := trivial
theorem Z.tw16647666040628462391 : True := trivial
theorem Z.tw16660849969163088432 : True := trivial
theorem Z.tw16670228088773729616 : True := trivial
theorem Z.tw16695390285836971683 : True := trivial
theorem Z.tw16723049329974527088 : True := trivial
theorem Z.tw16759682145619281441 : True := trivial
theorem Z.tw16808044276163181996 : True := trivial
theorem Z.tw16858247034346241202 : True := trivial
theorem Z.tw16888945537653408984 : True := trivial
theorem Z.tw16897411716732614964 : True := trivial
theorem Z.tw16904221536340511806 : True := trivial
theorem Z.tw16949535541245961314 : True := trivial
theorem Z.tw16979521912995363302 : True := trivial
theorem Z.tw17145446697877017819 : True := trivial
theorem Z.tw17186320954198758731 : True := trivial
theorem Z.tw17246783731105787919 : True := trivial
theorem Z.tw17250719565462191822 : True := trivial
theorem Z.tw17257040743598399575 : True := trivial
theorem Z.tw17290759757318889104 : True := trivial
theorem Z.tw17366353826031542322 : True := trivial
theorem Z.tw17397917282441755827 : True := trivial
theorem Z.tw17533440376770432792 : True := trivial
theorem Z.tw17577542911439880423 : True := trivial
theorem Z.tw17616277722163163982 : True := trivial
theorem Z.tw17620857820129062199 : True := trivial
theorem Z.tw17754251271949550292 : True := trivial
theorem Z.tw17764863140182627176 : True := trivial
theorem Z.tw17788611687644995897 : True := trivial
theorem Z.tw1782800726689393938 : True := trivial
theorem Z.tw17830663353680100575 : True := trivial
theorem Z.tw17838991386103052460 : True := trivial
theorem Z.tw1784461061664977167 : True := trivial
theorem Z.tw17877486923363561193 : True := trivial
theorem Z.tw17897406114873353317 : True := trivial
theorem Z.tw1806142594495163370 : True := trivial
theorem Z.tw18164547853583572963 : True := trivial
theorem Z.tw18241649755692191597 : True := trivial
theorem Z.tw18286083867661030532 : True := trivial
theorem Z.tw18299462206661353265 : True := trivial
theorem Z.tw1838050157080734879 : True := trivial
theorem Z.tw18438769612429391580 : True := trivial
theorem Z.tw1855475838225300184 : True := trivial
theorem Z.tw1902394704776894054 : True := trivial
theorem Z.tw1911447870576804745 : True := trivial
theorem Z.tw2025940550762927515 : True := trivial
theorem Z.tw2032029570049217307 : True := trivial
theorem Z.tw2039522522097759338 : True := trivial
theorem Z.tw2144892132413517404 : True := trivial
theorem Z.tw2157981709217901316 : True := trivial
theorem Z.tw224366827283949367 : True := trivial
theorem Z.tw2321127479511386487 : True := trivial
theorem Z.tw2460557231804601214 : True := trivial
theorem Z.tw2525160502047457404 : True := trivial
theorem Z.tw2547176933536183487 : True := trivial
theorem Z.tw2571301220486850467 : True := trivial
theorem Z.tw2616314770958566471 : True := trivial
theorem Z.tw2619478283123684868 : True := trivial
theorem Z.tw262079962846005895 : True := trivial
theorem Z.tw2662266502654085149 : True := trivial
theorem Z.tw2665314721124847796 : True := trivial
theorem Z.tw2675867563698402189 : True := trivial
theorem Z.tw27077799358463570 : True := trivial
theorem Z.tw2729834785763528114 : True := trivial
theorem Z.tw2732115867738254403 : True := trivial
theorem Z.tw2774656767402736358 : True := trivial
theorem Z.tw2851998197427702320 : True := trivial
theorem Z.tw2880271858920920779 : True := trivial
theorem Z.tw2964703082589248831 : True := trivial
theorem Z.tw2971344464007898544 : True := trivial
theorem Z.tw298104367420068292 : True := trivial
theorem Z.tw306647770083546216 : True := trivial
theorem Z.tw3094356889618150570 : True := trivial
theorem Z.tw3096788168472870732 : True := trivial
theorem Z.tw3097312888456697689 : True := trivial
theorem Z.tw3138403400003868272 : True := trivial
theorem Z.tw3233732346697205837 : True := trivial
theorem Z.tw3310407902815743282 : True := trivial
theorem Z.tw3419959216170791864 : True := trivial
theorem Z.tw3433127834831987826 : True := trivial
theorem Z.tw3471034943456602511 : True := trivial
theorem Z.tw3549077785818554041 : True := trivial
theorem Z.tw3550109402684254260 : True := trivial
theorem Z.tw3554024684831760495 : True := trivial
theorem Z.tw3585421079702326236 : True := trivial
theorem Z.tw3678363763647510986 : True := trivial
theorem Z.tw3715340665896292088 : True := trivial
theorem Z.tw384222877344616845 : True := trivial
theorem Z.tw3854090982173545224 : True := trivial
theorem Z.tw389677232111017838 : True := trivial
theorem Z.tw3925850838612758233 : True := trivial
theorem Z.tw3954033199470233056 : True := trivial
theorem Z.tw3963010160897615060 : True := trivial
theorem Z.tw4027896033318969079 : True := trivial
theorem Z.tw4089755328650550736 : True := trivial
theorem Z.tw4121084433870912064 : True := trivial
theorem Z.tw4141890133716225812 : True := trivial
theorem Z.tw4216011193228184405 : True := trivial
theorem Z.tw4225280296062989906 : True := trivial
theorem Z.tw423221893270439057 : True := trivial
theorem Z.tw4241599999358828969 : True := trivial
theorem Z.tw4311355872518889208 : True := trivial
theorem Z.tw4327529782833364752 : True := trivial
theorem Z.tw4341515109386934537 : True := trivial
theorem Z.tw4499121943639397829 : True := trivial
theorem Z.tw4526208361388741405 : True := trivial
theorem Z.tw4529534655784897876 : True := trivial
theorem Z.tw454407195359512736 : True := trivial
theorem Z.tw456871201235668266 : True := trivial
theorem Z.tw4645936259875986796 : True := trivial
theorem Z.tw4695773958098244060 : True := trivial
theorem Z.tw4734154200357221911 : True := trivial
theorem Z.tw4808377822432481934 : True := trivial
theorem Z.tw4839165370722523694 : True := trivial
theorem Z.tw4841712289400275757 : True := trivial
theorem Z.tw4864706896329602039 : True := trivial
theorem Z.tw4887454382940986100 : True := trivial
theorem Z.tw4893677108253553962 : True := trivial
theorem Z.tw4918735651910252642 : True := trivial
theorem Z.tw4929603140369027958 : True := trivial
theorem Z.tw5056454053985336237 : True := trivial
theorem Z.tw5056659717894033234 : True := trivial
theorem Z.tw5079600126114677592 : True := trivial
theorem Z.tw5114023012694900306 : True := trivial
theorem Z.tw5130422960381871979 : True := trivial
theorem Z.tw5186587547268057039 : True := trivial
theorem Z.tw5193014818341015757 : True := trivial
theorem Z.tw5220489907077119185 : True := trivial
theorem Z.tw5242078932038952167 : True := trivial
theorem Z.tw5288196184578537829 : True := trivial
theorem Z.tw5309041390727006167 : True := trivial
theorem Z.tw5333661794908512536 : True := trivial
theorem Z.tw5354176646658589072 : True := trivial
theorem Z.tw5416170292922530320 : True := trivial
theorem Z.tw5473695710559436449 : True := trivial
theorem Z.tw5479174620212771048 : True := trivial
theorem Z.tw5489807376739758410 : True := trivial
theorem Z.tw5533650235169708970 : True := trivial
theorem Z.tw5536389949797230359 : True := trivial
theorem Z.tw5621460513438612459 : True := trivial
theorem Z.tw5642347875071872050 : True := trivial
theorem Z.tw5725196107107451289 : True := trivial
theorem Z.tw5781880330645013017 : True := trivial
theorem Z.tw5828741863828044563 : True := trivial
theorem Z.tw5855263224278182880 : True := trivial
theorem Z.tw5926014419159862939 : True := trivial
theorem Z.tw5941869314768076636 : True := trivial
theorem Z.tw6014484645913643798 : True := trivial
theorem Z.tw6034727767723340065 : True := trivial
theorem Z.tw6073945570929925946 : True := trivial
theorem Z.tw6075081417690137856 : True := trivial
theorem Z.tw6094679869168191714 : True := trivial
theorem Z.tw6095393074433631655 : True := trivial
theorem Z.tw6097328792019108707 : True := trivial
theorem Z.tw6100879297916715500 : True := trivial
theorem Z.tw6121711021379939390 : True := trivial
theorem Z.tw6167688757256821673 : True := trivial
theorem Z.tw6210875274854479419 : True := trivial
theorem Z.tw623495918386448355 : True := trivial
theorem Z.tw6263713206895344615 : True := trivial
theorem Z.tw6263796728221010833 : True := trivial
theorem Z.tw6330874852059520542 : True := trivial
theorem Z.tw6360447961524525870 : True := trivial
theorem Z.tw6434143010482283394 : True := trivial
theorem Z.tw6440211054397071727 : True := trivial
theorem Z.tw6442054895002620816 : True := trivial
theorem Z.tw6445648886772057964 : True := trivial
theorem Z.tw645123765787776112 : True := trivial
theorem Z.tw6497337848697349700 : True := trivial
theorem Z.tw6537093058810076209 : True := trivial
theorem Z.tw6559497975381538528 : True := trivial
theorem Z.tw6725910797917518662 : True := trivial
theorem Z.tw6776117324171071867 : True := trivial
theorem Z.tw6797460832969585478 : True := trivial
theorem Z.tw6804711314923179773 : True := trivial
theorem Z.tw6830508015312920512 : True := trivial
theorem Z.tw684638938858583553 : True := trivial
theorem Z.tw6867671051521940852 : True := trivial
theorem Z.tw6882177525041340573 : True := trivial
theorem Z.tw6909423452951827746 : True := trivial
theorem Z.tw6910611996510065336 : True := trivial
theorem Z.tw695573154999103171 : True := trivial
theorem Z.tw699644305336063662 : True := trivial
theorem Z.tw7005872397730318440 : True := trivial
theorem Z.tw7040199014068196684 : True := trivial
theorem Z.tw7046014544116386337 : True := trivial
theorem Z.tw7052616598133591330 : True := trivial
theorem Z.tw7073997516985138681 : True := trivial
theorem Z.tw7094942831046069978 : True := trivial
theorem Z.tw7130334056604676035 : True := trivial
theorem Z.tw715028041634971935 : True := trivial
theorem Z.tw7171815187833618628 : True := trivial
theorem Z.tw720119711746409170 : True := trivial
theorem Z.tw7223244990357378345 : True := trivial
theorem Z.tw7238014164323443058 : True := trivial
theorem Z.tw7243749551825868594 : True := trivial
theorem Z.tw7267642781309603346 : True := trivial
theorem Z.tw7292321048561526359 : True := trivial
theorem Z.tw7337589363562635951 : True := trivial
theorem Z.tw7349470549035367419 : True := trivial
theorem Z.tw7370606022454550799 : True := trivial
theorem Z.tw7384829143553419651 : True := trivial
theorem Z.tw7559743661716759134 : True := trivial
theorem Z.tw7568637235483939290 : True := trivial
theorem Z.tw7597231584175757188 : True := trivial
theorem Z.tw7624839780277780427 : True := trivial
theorem Z.tw7648475801321003391 : True := trivial
theorem Z.tw7674422767089572879 : True := trivial
theorem Z.tw7687606909409053379 : True := trivial
theorem Z.tw7701021462856884188 : True := trivial
theorem Z.tw7723928849634725256 : True := trivial
theorem Z.tw7766613917663829633 : True := trivial
theorem Z.tw7781919582470054271 : True := trivial
theorem Z.tw7853597962701073701 : True := trivial
theorem Z.tw7890462826911216237 : True := trivial
theorem Z.tw7916994859466636017 : True := trivial
theorem Z.tw7936315358508750763 : True := trivial
theorem Z.tw7959330939889171489 : True := trivial
theorem Z.tw8028241359400479741 : True := trivial
theorem Z.tw8062861795192737570 : True := trivial
theorem Z.tw8117886548774006484 : True := trivial
theorem Z.tw8129889619157991994 : True := trivial
theorem Z.tw8160497042182097179 : True := trivial
theorem Z.tw8165434908714252567 : True := trivial
theorem Z.tw8237504306375320967 : True := trivial
theorem Z.tw8240336392237830403 : True := trivial
theorem Z.tw8253383251167213366 : True := trivial
theorem Z.tw8269509035114450247 : True := trivial
theorem Z.tw8275346329734526936 : True := trivial
theorem Z.tw8385876185362534900 : True := trivial
theorem Z.tw8487471065598013241 : True := trivial
theorem Z.tw8498419324005531519 : True := trivial
theorem Z.tw8539296840557614977 : True := trivial
theorem Z.tw8614918332739244023 : True := trivial
theorem Z.tw8636926810549699591 : True := trivial
theorem Z.tw8637041857763236149 : True := trivial
theorem Z.tw8676829437097053010 : True := trivial
theorem Z.tw8683297821072297149 : True := trivial
theorem Z.tw8694963051233024429 : True := trivial
theorem Z.tw8833203796282502399 : True := trivial
theorem Z.tw8839605663255820414 : True := trivial
theorem Z.tw8865009256274461228 : True := trivial
theorem Z.tw8868765534922591649 : True := trivial
theorem Z.tw8869759573709877277 : True := trivial
theorem Z.tw8952623730599797220 : True := trivial
theorem Z.tw9052087542614588326 : True := trivial
theorem Z.tw9061548887038232765 : True := trivial
theorem Z.tw9144946905579936370 : True := trivial
theorem Z.tw9147255594891983166 : True := trivial
theorem Z.tw9180146116718657817 : True := trivial
theorem Z.tw9193949738365654616 : True := trivial
theorem Z.tw9200102081848033152 : True := trivial
theorem Z.tw9205051818510292420 : True := trivial
theorem Z.tw9263100948160450037 : True := trivial
theorem Z.tw9276564622752545341 : True := trivial
theorem Z.tw9321742359102528540 : True := trivial
theorem Z.tw9341717257096202848 : True := trivial
theorem Z.tw9356594833951106190 : True := trivial
theorem Z.tw944129901199601110 : True := trivial
theorem Z.tw9517670768742480397 : True := trivial
theorem Z.tw9594606686324559751 : True := trivial
theorem Z.tw9706700295082486985 : True := trivial
theorem Z.tw9716957872391725644 : True := trivial
theorem Z.tw9739668719313015743 : True := trivial
theorem Z.tw974506787891615510 : True := trivial
theorem Z.tw9754533835584585326 : True := trivial
theorem Z.tw9780673267879218056 : True := trivial
theorem Z.tw9875628224089290845 : True := trivial
theorem Z.tw9887584868580530300 : True := trivial
theorem Z.tw9901276794826269565 : True := trivial
theorem Z.tw9918376985088552293 : True := trivial
theorem Z.tw9919819820682397160 : True := trivial
theorem Z.tw9950500810101567170 : True := trivial
theorem Z.tw9957138880396331551 : True := trivial

theorem Z : PySem.Challenge.rw_nz0189_02.Holds := by
  w_on; o_law; k_head; (case hw => w_witness2)
  intro w s₀ s₁ mg mb G Y fa o pm cd doc dV kV ho hd hcd hD hmg hg args vals as hpre hlay hrd hwl hlo
  have KX := kIn_of Y
  have T := topRead_of G.T
  wrow_args hpre hlay hrd hwl hlo
  rename_i xs _ _ _ _ _ _ _ l vals _ hL _ _ _ hI _ hc _
  refine use_kf (P := w.params) KX ?_ fun F => ?_
  · refine ⟨?_, ?_, ?_, ?_, ?_, ?_, ?_, ?_, ?_, ?_, ?_, ?_, ?_, ?_, ?_, ?_, ?_, ?_, ?_, ?_, ?_, ?_, ?_, ?_, ?_, ?_, ?_, ?_, ?_⟩
    · kernel_rfl
    · kernel_rfl
    · kernel_rfl
    · kernel_rfl
    · kernel_rfl
    · kernel_rfl
    · kernel_rfl
    · kernel_rfl
    · kernel_rfl
    · kernel_rfl
    · kernel_rfl
    · kernel_rfl
    · exact ⟨by kernel_rfl, by kernel_rfl⟩
    · exact ⟨by kernel_rfl, by kernel_rfl⟩
    · exact ⟨by kernel_rfl, by kernel_rfl⟩
    · kernel_rfl
    · exact ⟨_, _, _, _, rfl⟩
    · exact ⟨_, _, rfl, ⟨⟨_, rfl⟩, rfl, ⟨_, rfl⟩, ⟨_, rfl⟩, rfl, ⟨_, rfl⟩, ⟨_, rfl⟩, rfl, ⟨_, rfl⟩, ⟨_, rfl⟩, rfl, ⟨_, rfl⟩, ⟨_, rfl⟩, rfl, ⟨_, rfl⟩, ⟨_, rfl⟩, rfl, ⟨_, rfl⟩, ⟨_, rfl⟩, rfl, ⟨_, rfl⟩, ⟨_, rfl⟩, rfl, ⟨_, rfl⟩, trivial⟩⟩
    · kernel_rfl
    · kernel_rfl
    · kernel_rfl
    · kernel_rfl
    · exact ⟨by kernel_rfl, by kernel_rfl, by kernel_rfl, by kernel_rfl, by kernel_rfl, by kernel_rfl⟩
    · exact ⟨_, _, _, _, _, _, _, _, _, _, _, _, _, _, rfl⟩
    · exact ⟨by kernel_rfl, by kernel_rfl, by kernel_rfl, by kernel_rfl, by kernel_rfl, by kernel_rfl, by kernel_rfl, by kernel_rfl, by kernel_rfl⟩
    · kernel_rfl
    · kernel_rfl
    · exact ⟨_, _, _, _, _, _, _, _, _, _, _, _, rfl, rfl, rfl, rfl, rfl, by kernel_rfl, rfl, rfl, rfl, rfl, rfl, ⟨_, _, _, rfl, rfl⟩, rfl, rfl⟩
    · exact ⟨_, _, _, _, _, _, _, _, _, _, _, _, rfl, rfl, rfl, rfl, rfl, by kernel_rfl, rfl, rfl, rfl, rfl, rfl, ⟨_, _, _, rfl, rfl⟩, rfl, rfl⟩
  have hfa : fa = 504 := by
    have h1 := mg_of KX T.g F.i_law504
    have h2 : mg "law" = some (.ref fa) := hmg
    rw [h1] at h2; cases h2; rfl
  subst hfa
  refine enter_call (codeAny_mono ?_ (fun _ _ g => GoodW.toG g))
  refine top_law (xs := xs) ⟨F, KX, T.g, T.b, T.nolimit, T.builtins, ⟨_, hL, by simpa using hI⟩⟩ hL (by omega) fun s' k hos hgs => ?_
  refine ⟨.inl ⟨.bool true, .bool true, [], rfl, ?_, .bool true, ?_, ?_⟩, k, hos, by rw [hgs]; exact hg⟩
  · intro cls; rfl
  · kernel_rfl
  · exact fun _ => ⟨List.nodup_nil, fun a h => by cases h⟩
end Mine
end

theorem PySem.Challenge.cw_nz0189_02_holds : PySem.Challenge.rw_nz0189_02.Holds := by
  exact Mine.Z
