import PyProof.Rows.All
import HandS.ForMost
import HandS.TupAny
import HandS.Zip
import HandS.Gcd
import HandS.Wide
import HandS.Flow
import HandS.IsInst
import HandS.Exc
import HandS.ExcOwn
import HandS.Defaults
import HandS.HeadEnd
import HandS.HeadHook1
import HandS.HeadHook2
import HandS.Head0
import HandS.Head1
import HandS.Head2
import HandS.HeadHook3
import HandS.HeadHook4
import Wide.All
import OpenK.AllK
import Wide.FinOn
import KE.KStateDown
import KE.HD3
import Lean
import PySem.Challenge.RW_gamesweighed_k54_whole_inspections
set_option Elab.async false
set_option linter.all false
set_option maxRecDepth 100000
set_option maxHeartbeats 4000000
/-! DL1: plain data, draws, own syntax, its interpreter -/
namespace DL
open PySem

inductive D where
  | non | bl (b : Bool) | int (i : Int) | str (x : Str)
  | tup (xs : List D) | lst (xs : List D)
  | ref (n : Nat) | fn (k : Nat) | cls (k : Nat) | ty (n : String) | scr (ns : List Int)
deriving Inhabited

/-- what a ref stands for: a list, a dict (keys ints and texts; keys tuples of them), a thing frozen, the cup of draws -/
inductive Ob where
  | lst (xs : List D) | dK (kvs : List (D × D)) | dT (kvs : List (D × D)) | fro (d : D) | cup
abbrev Mem := List Ob

/-- demonic draws -/
inductive T (α : Type) where
  | ret (a : α) | roll (n : Nat) (k : Nat → T α)
def T.bind {α β : Type} : T α → (α → T β) → T β
  | .ret a, f => f a
  | .roll n k, f => .roll n fun r => (k r).bind f
/-- whatever is drawn, Q holds at the end -/
def T.good {α : Type} : T α → (α → Prop) → Prop
  | .ret a, Q => Q a
  | .roll n k, Q => ∀ r, r < n → (k r).good Q
def allBelow (p : Nat → Bool) : Nat → Bool
  | 0 => true
  | n + 1 => allBelow p n && p n
def T.all {α : Type} : T α → (α → Bool) → Bool
  | .ret a, Q => Q a
  | .roll n k, Q => allBelow (fun r => (k r).all Q) n

inductive R (α : Type) where
  | ok (a : α) (μ : Mem) | exc (c : Nat) (xs : List D) (μ : Mem) | bad
abbrev M (α : Type) := Mem → T (R α)
def M.pure {α : Type} (a : α) : M α := fun μ => .ret (.ok a μ)
def M.bad {α : Type} : M α := fun _ => .ret .bad
def M.andThen {α β : Type} (f : α → M β) : R α → T (R β)
  | .ok a μ => f a μ
  | .exc c xs μ => .ret (.exc c xs μ)
  | .bad => .ret .bad
def M.bind {α β : Type} (m : M α) (f : α → M β) : M β := fun μ => (m μ).bind (M.andThen f)
def M.opt {α : Type} : Option α → M α
  | some a => M.pure a
  | none => M.bad
instance : Monad M where
  pure := M.pure
  bind := M.bind

/-! ### data -/
mutual
def D.py : D → Option PyData
  | .non => some .none
  | .bl b => some (.bool b)
  | .int i => some (.int i)
  | .str x => some (.str x)
  | .tup xs => match D.pys xs with
    | some ys => some (.tuple ys)
    | none => none
  | .lst xs => match D.pys xs with
    | some ys => some (.list ys)
    | none => none
  | _ => none
def D.pys : List D → Option (List PyData)
  | [] => some []
  | x :: xs => match D.py x, D.pys xs with
    | some y, some ys => some (y :: ys)
    | _, _ => none
end
def D.eqv (a b : D) : Option Bool := match a.py, b.py with
  | some x, some y => if SeqAt.shaped x && SeqAt.shaped y then some (PyData.eqv x y) else none
  | _, _ => none
def D.flat : D → Bool
  | .non | .bl _ | .int _ | .str _ => true
  | _ => false
def D.isNon : D → Bool
  | .non => true
  | _ => false
def D.eqF : D → D → Bool
  | .non, .non => true
  | .bl a, .bl b => a == b
  | .bl a, .int j => (if a then 1 else 0) == j
  | .int i, .bl b => i == (if b then 1 else 0)
  | .int i, .int j => i == j
  | .str x, .str y => decide (x = y)
  | _, _ => false

abbrev Env := List (Option D)
def get (ρ : Env) (i : Nat) : M D := match ρ[i]? with
  | some (some d) => M.pure d
  | _ => M.bad
/-- a ref to a frozen thing is the thing -/
def res (d : D) : M D := fun μ => match d with
  | .ref n => match μ[n]? with
    | some (.fro x) => .ret (.ok x μ)
    | _ => .ret (.ok d μ)
  | _ => .ret (.ok d μ)
/-- freeze -/
def frz (d : D) : M D := fun μ => match d with
  | .ref n => match μ[n]? with
    | some (.fro x) => .ret (.ok x μ)
    | some (.lst xs) => .ret (.ok (.lst xs) (μ.set n (.fro (.lst xs))))
    | _ => .ret .bad
  | _ => .ret (.ok d μ)
def alloc (o : Ob) : M D := fun μ => .ret (.ok (.ref μ.length) (μ ++ [o]))
/-- a list's or a tuple's items -/
def seqL (d : D) : M (List D) := fun μ => match d with
  | .lst xs => .ret (.ok xs μ)
  | .ref n => match μ[n]? with
    | some (.lst xs) => .ret (.ok xs μ)
    | _ => .ret .bad
  | _ => .ret .bad
def seqT (d : D) : M (List D) := match d with
  | .tup xs => M.pure xs
  | _ => M.bad
def seqA (d : D) : M (List D) := match d with
  | .tup xs => M.pure xs
  | _ => seqL d
/-- .. that stand still -/
def still (d : D) : M (List D) := match d with
  | .tup xs => M.pure xs
  | .lst xs => M.pure xs
  | _ => M.bad
def truth (d : D) : M Bool := match d with
  | .non => M.pure false
  | .bl b => M.pure b
  | .int i => M.pure (i != 0)
  | .str x => if x.length ≤ sizeLine then M.pure ((x.length : Int) != 0) else M.bad
  | .tup xs => M.pure !xs.isEmpty
  | .lst xs => M.pure !xs.isEmpty
  | .ref n => fun μ => match μ[n]? with
    | some (.lst xs) => .ret (.ok (!xs.isEmpty) μ)
    | some (.dK kvs) => .ret (.ok (!kvs.isEmpty) μ)
    | _ => .ret .bad
  | _ => M.bad

/-! ### own syntax -/
inductive Op2 where
  | add | sub | mul | fdiv | mod | pow | shl | shr | band | bor | bxor
deriving DecidableEq
inductive Cp where
  | eq | ne | lt | le | gt | ge | isN | notN | mem | nmem
deriving DecidableEq
inductive Bf where
  | len | abs | sum | min2 | max2 | int | list | tuple | gcd | isin | all | any
deriving DecidableEq
inductive Tz where
  | nm (i : Nat) | tp (ts : Tz) | nil | cons (t ts : Tz)
deriving DecidableEq
inductive Ez where
  | non | bl (b : Bool) | int (i : Int) | str (x : Str)
  | var (i : Nat) | frz (i : Nat)
  | gfn (k : Nat) | gcon (k : Nat) | gty (n : String)
  | bin (o : Op2) (a b : Ez) | neg (a : Ez)
  | cmp (c : Cp) (a b : Ez) | chain (c c' : Cp) (a b d : Ez)
  | bool (o : BoolOp) (es : Ez) | not (a : Ez) | ife (c a b : Ez)
  | tup (es : Ez) | lst (es : Ez) | idx (a i : Ez) | slc (a : Ez) (lo hi : Ez)
  | mkl (a : Ez) | call (k : Nat) (es : Ez) | bf (f : Bf) (es : Ez)
  | lc (tg : Tz) (it cond elt : Ez)
  | range1 (a : Ez) | range2 (a b : Ez) | enum (a : Ez) | zip (a b : Ez)
  | nil | cons (e es : Ez)
inductive Sz where
  | set (i : Nat) (e : Ez) | tset (ts : Tz) (e : Ez) | par (is : List Nat) (e : Ez)
  | setix (o i e : Ez) | expr (e : Ez) | ret (e : Ez) | ite (c : Ez) (a b : Sz)
  | for (tg : Tz) (it : Ez) (b : Sz) | while (n : Nat) (c : Ez) (b : Sz)
  | never | pass | brk | cont
  | nil | cons (s ss : Sz)

/-! ### operators -/
def lim : Int := 2 ^ 62
/-- operators that make a new list -/
def binopL (o : Op2) (a b : D) : M (List D) := match o with
  | .add => (seqL a).bind fun xs => (seqL b).bind fun ys => if xs.length + ys.length ≤ sizeLine then M.pure (xs ++ ys) else M.bad
  | .mul => match b with
    | .int k => (seqL a).bind fun xs => if (-(2 ^ 63) ≤ k ∧ k < 2 ^ 63) ∧ xs.length * k.toNat ≤ sizeLine then M.pure (List.replicate k.toNat xs).flatten else M.bad
    | _ => M.bad
  | _ => M.bad
def binop (o : Op2) (a b : D) : M D := match o, a, b with
  | .add, .int i, .int j => M.pure (.int (i + j))
  | .add, .tup xs, .tup ys => if xs.length + ys.length ≤ sizeLine then M.pure (.tup (xs ++ ys)) else M.bad
  | .add, .str x, .str y => if x.length + y.length ≤ sizeLine then M.pure (.str (x ++ y)) else M.bad
  | .sub, .int i, .int j => M.pure (.int (i - j))
  | .mul, .int i, .int j => if (decide (-(2 ^ 64) < i) && decide (i < 2 ^ 64)) || (decide (-(2 ^ 64) < j) && decide (j < 2 ^ 64)) then M.pure (.int (i * j)) else
      if i.natAbs.log2 + j.natAbs.log2 < 1000000 then M.pure (.int (i * j)) else M.bad
  | .fdiv, .int i, .int j => if j ≠ 0 ∧ j.natAbs < 1073741824 then M.pure (.int (i.fdiv j)) else
      if 0 < j ∧ j.natAbs.log2 < 9000 then M.pure (.int (i.fdiv j)) else M.bad
  | .mod, .int i, .int j => if j ≠ 0 then M.pure (.int (i.fmod j)) else M.bad
  | .pow, .int i, .int j => if 0 ≤ j ∧ j ≤ 1000000 ∧ i.natAbs < 2 ^ 64 then M.pure (.int (i ^ j.toNat)) else M.bad
  | .shl, .int i, .int j => if 0 ≤ j ∧ j ≤ 1000000 ∧ i.natAbs < 2 ^ 64 then M.pure (.int (i * 2 ^ j.toNat)) else M.bad
  | .shr, .int i, .int j => if 0 ≤ j then M.pure (.int (i / 2 ^ j.toNat)) else M.bad
  | .band, .int i, .int j => M.pure (.int (Builtin.bitAnd i j))
  | .bor, .int i, .int j => M.pure (.int (Builtin.bitOr i j))
  | .bxor, .int i, .int j => M.pure (.int (Builtin.bitXor i j))
  | o, a, b => (binopL o a b).bind fun xs => M.pure (.lst xs)
def cmpop (c : Cp) (a b : D) : M D := match c, a, b with
  | .eq, a, b => match D.eqv a b with
    | some k => M.pure (.bl k)
    | none => M.bad
  | .ne, a, b => match D.eqv a b with
    | some k => M.pure (.bl !k)
    | none => M.bad
  | .lt, .int i, .int j => M.pure (.bl (decide (i < j)))
  | .le, .int i, .int j => M.pure (.bl (decide (i ≤ j)))
  | .gt, .int i, .int j => M.pure (.bl (decide (j < i)))
  | .ge, .int i, .int j => M.pure (.bl (decide (j ≤ i)))
  | .isN, a, .non => M.pure (.bl a.isNon)
  | .notN, a, .non => M.pure (.bl (!a.isNon))
  | .mem, a, b => (seqA b).bind fun xs => if a.flat && xs.all D.flat then M.pure (.bl (xs.any fun y => D.eqF y a)) else M.bad
  | .nmem, a, b => (seqA b).bind fun xs => if a.flat && xs.all D.flat then M.pure (.bl !(xs.any fun y => D.eqF y a)) else M.bad
  | _, _, _ => M.bad
/-- the type's name, for isinstance -/
def tyName : D → Option String
  | .non => some "NoneType"
  | .bl _ => some "bool"
  | .int _ => some "int"
  | .str _ => some "str"
  | .tup _ => some "tuple"
  | .lst _ => some "list"
  | _ => none
def isTy (a n : String) : Bool := a == n || (a == "bool" && n == "int")
def tyOk (n : String) : Bool := n == "bool" || n == "int" || n == "str" || n == "tuple" || n == "list"
def intsOf : List D → Option (List Int)
  | [] => some []
  | .int i :: xs => match intsOf xs with
    | some is => some (i :: is)
    | none => none
  | _ => none
def blsOf : List D → Option (List Bool)
  | [] => some []
  | .bl i :: xs => match blsOf xs with
    | some is => some (i :: is)
    | none => none
  | _ => none
/-- list(x) -/
def bfL (f : Bf) (as : List D) : M (List D) := match f, as with
  | .list, [.scr ns] => M.pure (ns.map D.int)
  | .list, [a] => seqA a
  | _, _ => M.bad
def bfop (f : Bf) (as : List D) : M D := match f, as with
  | .len, [a] => (seqA a).bind fun xs => M.pure (.int xs.length)
  | .abs, [.int i] => M.pure (.int (if i < 0 then -i else i))
  | .int, [.int i] => M.pure (.int i)
  | .min2, [.int i, .int j] => M.pure (.int (if j < i then j else i))
  | .max2, [.int i, .int j] => M.pure (.int (if j > i then j else i))
  | .gcd, [.int i, .int j] => M.pure (.int ((Nat.gcd i.natAbs j.natAbs : Nat) : Int))
  | .sum, [a] => (seqL a).bind fun xs => (M.opt (intsOf xs)).bind fun is => M.pure (.int is.sum)
  | .all, [a] => (seqL a).bind fun xs => (M.opt (blsOf xs)).bind fun is => M.pure (.bl (is.all id))
  | .any, [a] => (seqL a).bind fun xs => (M.opt (blsOf xs)).bind fun is => M.pure (.bl (is.any id))
  | .tuple, [a] => (seqA a).bind fun xs => M.pure (.tup xs)
  | .isin, [a, .ty n] => match tyName a with
    | some t => if tyOk n then M.pure (.bl (isTy t n)) else M.bad
    | none => M.bad
  | .list, as => (bfL .list as).bind fun xs => M.pure (.lst xs)
  | _, _ => M.bad
def idxop (a b : D) : M D := match b with
  | .int i => (seqA a).bind fun xs => M.opt (L2.atI xs i)
  | _ => M.bad
def part (d : Option D) : Option (Option Int) := match d with
  | none => some none
  | some (.int i) => some (some i)
  | _ => none
def cut (xs : List D) (lo hi : Option Int) : List D := (xs.drop (HT.sIx xs.length 0 lo)).take (HT.sIx xs.length xs.length hi - HT.sIx xs.length 0 lo)

/-! ### targets -/
mutual
def bindT : Tz → D → Env → Option Env
  | .nm i, d, ρ => if i < ρ.length then some (ρ.set i (some d)) else none
  | .tp ts, d, ρ => match d with
    | .tup xs => bindTs ts xs ρ
    | _ => none
  | .nil, _, _ => none
  | .cons _ _, _, _ => none
def bindTs : Tz → List D → Env → Option Env
  | .nil, [], ρ => some ρ
  | .cons t ts, d :: ds, ρ => match bindT t d ρ with
    | some ρ' => bindTs ts ds ρ'
    | none => none
  | _, _, _ => none
end
def Tz.slots : Tz → List Nat
  | .nm i => [i]
  | .tp ts => ts.slots
  | .nil => []
  | .cons t ts => t.slots ++ ts.slots
def wipeE (ρ : Env) : List Nat → Env
  | [] => ρ
  | i :: is => (wipeE ρ is).set i none

/-! ### the interpreter -/
def lcGo (ds : List D) (f : D → M (Option D)) : M (List D) := match ds with
  | [] => M.pure []
  | d :: ds => (f d).bind fun r => (lcGo ds f).bind fun rs => M.pure (match r with
    | some e => e :: rs
    | none => rs)
/-- no exception leaves -/
def calmR {α : Type} : R α → T (R α)
  | .ok a μ' => .ret (.ok a μ')
  | _ => .ret .bad
def calmM {α : Type} (m : M α) : M α := fun μ => (m μ).bind calmR
/-- what a piece of syntax is worth: as an expression, a test, written items, what is walked, a part of a slice, a chain of and | or (as a value, as a test), a new list -/
structure Fn where
  e : Env → M D
  t : Env → M Bool
  es : Env → M (List D)
  i : Env → M (List D)
  p : Env → M (Option Int)
  b : BoolOp → Env → M D
  bt : BoolOp → Env → M Bool
  l : Env → M (List D)
  nil : Bool
def asInt : D → M (Option Int)
  | .int i => M.pure (some i)
  | _ => M.bad
def Fn.ofE (f : Env → M D) : Fn where
  e := f
  t := fun ρ => (f ρ).bind truth
  es := fun _ => M.bad
  i := fun ρ => (f ρ).bind still
  p := fun ρ => (f ρ).bind asInt
  b := fun _ _ => M.bad
  bt := fun _ _ => M.bad
  l := fun _ => M.bad
  nil := false
def Fn.ofL (f : Env → M (List D)) : Fn := { Fn.ofE (fun ρ => (f ρ).bind fun xs => M.pure (.lst xs)) with l := f }
def Fn.ofI (f : Env → M (List D)) : Fn := { Fn.ofE (fun _ => M.bad) with i := f }
def negop : D → M D
  | .int i => M.pure (.int (-i))
  | _ => M.bad
def chainop (c' : Cp) (y : D) (z : M D) : D → M D
  | .bl true => z.bind fun z => cmpop c' y z
  | .bl false => M.pure (.bl false)
  | _ => M.bad
def slcop (l h : Option Int) (x : D) : M D := match x with
  | .tup xs => M.pure (.tup (cut xs l h))
  | _ => (seqL x).bind fun xs => M.pure (.lst (cut xs l h))
def lenOk (xs : List D) : M (List D) := if xs.length ≤ sizeLine then M.pure xs else M.bad
def boolV (o : BoolOp) (k : Bool) (x : D) (rest : M D) : M D := match o, k with
  | .And, true => rest
  | .And, false => M.pure x
  | .Or, true => M.pure x
  | .Or, false => rest
def boolT (o : BoolOp) (k : Bool) (rest : M Bool) : M Bool := match o, k with
  | .And, true => rest
  | .And, false => M.pure false
  | .Or, true => M.pure true
  | .Or, false => rest
def rng1 : D → M (List D)
  | .int n => if -lim ≤ n ∧ n < lim then M.pure ((List.range n.toNat).map fun (i : Nat) => D.int (i : Int)) else M.bad
  | _ => M.bad
def rng2 : D → D → M (List D)
  | .int i, .int j => if (-lim ≤ i ∧ i < lim) ∧ (-lim ≤ j ∧ j < lim) then M.pure ((List.range (j - i).toNat).map fun (k : Nat) => D.int (i + (k : Int))) else M.bad
  | _, _ => M.bad
def enumD (xs : List D) : List D := xs.zipIdx.map fun p => .tup [.int p.2, p.1]
def enumop : D → M (List D)
  | .lst xs => M.pure (enumD xs)
  | _ => M.bad
def zipD (xs ys : List D) : List D := (xs.zip ys).map fun p => .tup [p.1, p.2]
def zipop : D → D → M (List D)
  | .lst xs, .lst ys => M.pure (zipD xs ys)
  | .tup xs, .tup ys => M.pure (zipD xs ys)
  | _, _ => M.bad
def lcTurn (tg : Tz) (cond : Env → M Bool) (elt : Env → M D) (ρ : Env) (d : D) : M (Option D) := calmM ((M.opt (bindT tg d (wipeE ρ tg.slots))).bind fun ρ' => (cond ρ').bind fun k => if k = true then (elt ρ').bind fun x => M.pure (some x) else M.pure none)
section
variable (C : Nat → List D → M D) (K : Nat → D)
def ev : Ez → Fn
  | .non => .ofE fun _ => M.pure .non
  | .bl b => .ofE fun _ => M.pure (.bl b)
  | .int i => .ofE fun _ => M.pure (.int i)
  | .str x => .ofE fun _ => M.pure (.str x)
  | .var i => .ofE fun ρ => (get ρ i).bind res
  | .frz i => .ofE fun ρ => (get ρ i).bind frz
  | .gfn k => .ofE fun _ => M.pure (.fn k)
  | .gcon k => .ofE fun _ => M.pure (K k)
  | .gty n => .ofE fun _ => M.pure (.ty n)
  | .bin o a b =>
    let A := ev a
    let B := ev b
    { Fn.ofE (fun ρ => (A.e ρ).bind fun x => (B.e ρ).bind fun y => binop o x y) with
      l := fun ρ => (A.e ρ).bind fun x => (B.e ρ).bind fun y => binopL o x y }
  | .neg a =>
    let A := ev a
    .ofE fun ρ => (A.e ρ).bind negop
  | .cmp c a b =>
    let A := ev a
    let B := ev b
    .ofE fun ρ => (A.e ρ).bind fun x => (B.e ρ).bind fun y => cmpop c x y
  | .chain c c' a b d =>
    let A := ev a
    let B := ev b
    let D := ev d
    .ofE fun ρ => (A.e ρ).bind fun x => (B.e ρ).bind fun y => (cmpop c x y).bind (chainop c' y (D.e ρ))
  | .bool o es =>
    let A := ev es
    { Fn.ofE (A.b o) with t := A.bt o }
  | .not a =>
    let A := ev a
    { Fn.ofE (fun ρ => (A.e ρ).bind fun x => (truth x).bind fun k => M.pure (.bl !k)) with
      t := fun ρ => (A.t ρ).bind fun k => M.pure !k }
  | .ife c a b =>
    let P := ev c
    let A := ev a
    let B := ev b
    .ofE fun ρ => (P.t ρ).bind fun k => if k = true then A.e ρ else B.e ρ
  | .tup es =>
    let A := ev es
    .ofE fun ρ => (A.es ρ).bind fun xs => (lenOk xs).bind fun xs => M.pure (.tup xs)
  | .lst es =>
    let A := ev es
    .ofL fun ρ => (A.es ρ).bind lenOk
  | .idx a i =>
    let A := ev a
    let B := ev i
    .ofE fun ρ => (A.e ρ).bind fun x => (B.e ρ).bind fun y => idxop x y
  | .slc a lo hi =>
    let A := ev a
    let L := ev lo
    let U := ev hi
    { Fn.ofE (fun ρ => (A.e ρ).bind fun x => (L.p ρ).bind fun l => (U.p ρ).bind fun h => slcop l h x) with
      l := fun ρ => (A.e ρ).bind fun x => (L.p ρ).bind fun l => (U.p ρ).bind fun h => (seqL x).bind fun xs => M.pure (cut xs l h) }
  | .mkl a =>
    let A := ev a
    .ofE fun ρ => (A.l ρ).bind fun xs => alloc (.lst xs)
  | .call k es =>
    let A := ev es
    .ofE fun ρ => (A.es ρ).bind (C k)
  | .bf f es =>
    let A := ev es
    { Fn.ofE (fun ρ => (A.es ρ).bind (bfop f)) with l := fun ρ => (A.es ρ).bind (bfL f) }
  | .lc tg it cond elt =>
    let I := ev it
    let P := ev cond
    let A := ev elt
    .ofL fun ρ => (I.i ρ).bind fun ds => (lenOk ds).bind fun ds => lcGo ds (lcTurn tg P.t A.e ρ)
  | .range1 a =>
    let A := ev a
    .ofI fun ρ => (A.e ρ).bind rng1
  | .range2 a b =>
    let A := ev a
    let B := ev b
    .ofI fun ρ => (A.e ρ).bind fun x => (B.e ρ).bind fun y => rng2 x y
  | .enum a =>
    let A := ev a
    .ofI fun ρ => (A.e ρ).bind enumop
  | .zip a b =>
    let A := ev a
    let B := ev b
    .ofI fun ρ => (A.e ρ).bind fun x => (B.e ρ).bind fun y => zipop x y
  | .nil => { Fn.ofE (fun _ => M.bad) with
      t := fun _ => M.pure true
      es := fun _ => M.pure []
      p := fun _ => M.pure none
      nil := true }
  | .cons e es =>
    let A := ev e
    let B := ev es
    { Fn.ofE (fun _ => M.bad) with
      t := fun _ => M.bad
      es := fun ρ => (A.e ρ).bind fun x => (B.es ρ).bind fun xs => M.pure (x :: xs)
      p := fun _ => M.bad
      b := fun o ρ => if B.nil then A.e ρ else (A.e ρ).bind fun x => (truth x).bind fun k => boolV o k x (B.b o ρ)
      bt := fun o ρ => if B.nil then A.t ρ else (A.t ρ).bind fun k => boolT o k (B.bt o ρ) }
/-- a statement's ends -/
inductive Out where
  | nx (ρ : Env) | rt (d : D) | bk (ρ : Env) | ct (ρ : Env)
def forGo (tg : Tz) (b : Env → M Out) : List D → Env → M Out
  | [], ρ => M.pure (.nx ρ)
  | d :: ds, ρ => (M.opt (bindT tg d ρ)).bind fun ρ' => (b ρ').bind fun o => match o with
    | .nx ρ1 => forGo tg b ds ρ1
    | .ct ρ1 => forGo tg b ds ρ1
    | .bk ρ1 => M.pure (.nx ρ1)
    | .rt d => M.pure (.rt d)
def whileGo (c : Env → M Bool) (b : Env → M Out) : Nat → Env → M Out
  | 0, _ => M.bad
  | n + 1, ρ => (c ρ).bind fun k => if k = true then (b ρ).bind fun o => match o with
      | .nx ρ1 => whileGo c b n ρ1
      | .ct ρ1 => whileGo c b n ρ1
      | .bk ρ1 => M.pure (.nx ρ1)
      | .rt d => M.pure (.rt d)
    else M.pure (.nx ρ)
def setE (ρ : Env) (i : Nat) (d : D) : M Out := if i < ρ.length then M.pure (.nx (ρ.set i (some d))) else M.bad
/-- o[i] = x, of a list -/
def storeL (o i x : D) : M Unit := fun μ => match o, i with
  | .ref n, .int k => match μ[n]? with
    | some (.lst xs) => match L2.ixN xs.length k with
      | some j => .ret (.ok () (μ.set n (.lst (xs.set j x))))
      | none => .ret .bad
    | _ => .ret .bad
  | _, _ => .ret .bad
def setAll : List (Nat × D) → Env → Option Env
  | [], ρ => some ρ
  | (i, d) :: r, ρ => if i < ρ.length then setAll r (ρ.set i (some d)) else none
/-- names that are stored from the right -/
def setPar (is : List Nat) (d : D) (ρ : Env) : Option Env := match d with
  | .tup xs => if xs.length = is.length then setAll (is.zip xs).reverse ρ else none
  | _ => none
def evS : Sz → Env → M Out
  | .set i e, ρ => ((ev C K e).e ρ).bind fun d => setE ρ i d
  | .tset ts e, ρ => ((ev C K e).e ρ).bind fun d => (M.opt (bindT (.tp ts) d ρ)).bind fun ρ' => M.pure (.nx ρ')
  | .par is e, ρ => ((ev C K e).e ρ).bind fun d => (M.opt (setPar is d ρ)).bind fun ρ' => M.pure (.nx ρ')
  | .setix o i e, ρ => ((ev C K e).e ρ).bind fun x => ((ev C K o).e ρ).bind fun y => ((ev C K i).e ρ).bind fun k => (storeL y k x).bind fun _ => M.pure (.nx ρ)
  | .expr e, ρ => ((ev C K e).e ρ).bind fun _ => M.pure (.nx ρ)
  | .ret e, ρ => ((ev C K e).e ρ).bind fun d => M.pure (.rt d)
  | .ite c a b, ρ => ((ev C K c).t ρ).bind fun k => if k = true then evS a ρ else evS b ρ
  | .for tg it b, ρ => ((ev C K it).i ρ).bind fun ds => forGo tg (evS b) ds ρ
  | .while n c b, ρ => whileGo (ev C K c).t (evS b) n ρ
  | .never, _ => M.bad
  | .pass, ρ => M.pure (.nx ρ)
  | .brk, ρ => M.pure (.bk ρ)
  | .cont, ρ => M.pure (.ct ρ)
  | .nil, ρ => M.pure (.nx ρ)
  | .cons s ss, ρ => (evS s ρ).bind fun o => match o with
    | .nx ρ1 => evS ss ρ1
    | o => M.pure o
/-- a def's body, entered -/
def run (n : Nat) (b : Sz) (as : List D) : M D := (evS C K b (as.map some ++ List.replicate (n - as.length) none)).bind fun o => match o with
  | .nx _ => M.pure .non
  | .rt d => M.pure d
  | _ => M.bad
end
mutual
/-- no ref from n on -/
def D.noRef (n : Nat) : D → Bool
  | .ref k => Nat.blt k n
  | .tup xs => D.noRefs n xs
  | .lst xs => D.noRefs n xs
  | _ => true
def D.noRefs (n : Nat) : List D → Bool
  | [] => true
  | x :: xs => D.noRef n x && D.noRefs n xs
end
def Ob.noRef (n : Nat) : Ob → Bool
  | .lst xs => D.noRefs n xs
  | .fro d => d.noRef n
  | .cup => true
  | _ => false
/-- what was made and is not told is let go -/
def popM (m : M D) : M D := fun μ => (m μ).bind fun r => match r with
  | .ok a μ' => if a.noRef μ.length && (μ'.take μ.length).all (Ob.noRef μ.length) then .ret (.ok a (μ'.take μ.length)) else .ret (.ok a μ')
  | .exc c xs μ' => .ret (.exc c xs μ')
  | .bad => .ret .bad
/-- a def: how many names, how many parameters, its body -/
structure Df where
  names : Nat
  pars : Nat
  body : Sz
/-- the prims: what is not by the text -/
def callF (K : Nat → D) (defs : List Df) (prim : Nat → Option (List D → M D)) : Nat → Nat → List D → M D
  | 0, _, _ => M.bad
  | n + 1, k, as => match prim k with
    | some f => f as
    | none => match defs[k]? with
      | some d => if as.length = d.pars then popM (run (callF K defs prim n) K d.names d.body as) else M.bad
      | none => M.bad
end DL
/-! DL2: worlds: how plain data lie in the abstract heap; what a run is worth in a world -/
namespace DL
open PySem PySem.Spec PyProof.Rows L2

/-- what stands fixed: the program, the world, the written part, where defs and classes stand -/
structure Gx where
  P : Program
  w : World
  K : PySem.W.Frag
  mg : Str → Option Value
  base : Heap
  fa : Nat → Addr
  ca : Nat → Addr

/-- a world: the addresses of the refs, what they hold, the abstract heap -/
structure Wd where
  m : List Addr
  μ : Mem
  H : Hp
def live (μ : Mem) (i : Nat) : Prop := match μ[i]? with
  | some (.fro _) => False
  | some _ => True
  | none => False
def Wd.lv (W : Wd) (b : Addr) : Prop := ∃ i, live W.μ i ∧ W.m[i]? = some b
open Classical in
/-- the part of the heap that stands still: not what refs hold, not what is being made at z -/
noncomputable def Wd.F (z : List Addr) (W : Wd) : Hp := fun b => if b ∈ z ∨ W.lv b then none else W.H b
theorem Wd.F_some {z : List Addr} {W : Wd} {b : Addr} {o : HO} (h : W.F z b = some o) : W.H b = some o ∧ b ∉ z ∧ ¬ W.lv b := by
  unfold Wd.F at h
  split at h
  · cases h
  · rename_i q
    exact ⟨h, fun hz => q (.inl hz), fun hz => q (.inr hz)⟩
theorem Wd.F_of {z : List Addr} {W : Wd} {b : Addr} {o : HO} (h : W.H b = some o) (hz : b ∉ z) (hl : ¬ W.lv b) : W.F z b = some o := by
  unfold Wd.F
  rw [if_neg (fun q => q.elim hz hl)]
  exact h

def Ext (F F' : Hp) : Prop := ∀ b o, F b = some o → (∀ ps, o ≠ .tbl ps) → F' b = some o
theorem Ext.refl (F : Hp) : Ext F F := fun _ _ h _ => h
theorem Ext.trans {F F1 F2 : Hp} (a : Ext F F1) (b : Ext F1 F2) : Ext F F2 := fun c o h n => b c o (a c o h n) n
theorem Ext.sqT {K : PySem.W.Frag} {F F' : Hp} {a : Addr} {vs : List V} (e : Ext F F') (h : SqT K F a vs) : SqT K F' a vs := by
  rcases h with (h | ⟨o, h⟩) | h
  · exact .inl (.inl (e _ _ h (fun _ q => nomatch q)))
  · exact .inl (.inr ⟨o, e _ _ h (fun _ q => nomatch q)⟩)
  · exact .inr h
theorem Ext.sqL {K : PySem.W.Frag} {F F' : Hp} {a : Addr} {vs : List V} (e : Ext F F') (h : SqL K F a vs) : SqL K F' a vs := by
  rcases h with (h | ⟨o, h⟩) | h
  · exact .inl (.inl (e _ _ h (fun _ q => nomatch q)))
  · exact .inl (.inr ⟨o, e _ _ h (fun _ q => nomatch q)⟩)
  · exact .inr h
theorem sqL_sub {K : PySem.W.Frag} {F H : Hp} {a : Addr} {vs : List V} (e : ∀ b o, F b = some o → H b = some o) (h : SqL K F a vs) : SqL K H a vs := by
  rcases h with (h | ⟨o, h⟩) | h
  · exact .inl (.inl (e _ _ h))
  · exact .inl (.inr ⟨o, e _ _ h⟩)
  · exact .inr h
theorem sqT_sub {K : PySem.W.Frag} {F H : Hp} {a : Addr} {vs : List V} (e : ∀ b o, F b = some o → H b = some o) (h : SqT K F a vs) : SqT K H a vs := by
  rcases h with (h | ⟨o, h⟩) | h
  · exact .inl (.inl (e _ _ h))
  · exact .inl (.inr ⟨o, e _ _ h⟩)
  · exact .inr h

mutual
/-- the value v lies in F as the datum d -/
inductive Rp (G : Gx) (F : Hp) (m : List Addr) : D → V → Prop
  | non : Rp G F m .non .non
  | bl (b : Bool) : Rp G F m (.bl b) (.bl b)
  | int (i : Int) : Rp G F m (.int i) (.int i)
  | str (x : Str) : Rp G F m (.str x) (.str x)
  | tup {a : Addr} {vs : List V} {ds : List D} (h : SqT G.K F a vs) (r : Rps G F m ds vs) : Rp G F m (.tup ds) (.ref a)
  | lst {a : Addr} {vs : List V} {ds : List D} (h : F a = some (.lst vs)) (r : Rps G F m ds vs) : Rp G F m (.lst ds) (.ref a)
  | ref {n : Nat} {a : Addr} (h : m[n]? = some a) : Rp G F m (.ref n) (.ref a)
  | fn (k : Nat) : Rp G F m (.fn k) (.ref (G.fa k))
  | cls (k : Nat) : Rp G F m (.cls k) (.ref (G.ca k))
  | ty (n : String) : Rp G F m (.ty n) (.ty n)
  | scr {a : Addr} {ns : List Int} (h : SqL G.K F a (ns.map V.int)) : Rp G F m (.scr ns) (.ref a)
inductive Rps (G : Gx) (F : Hp) (m : List Addr) : List D → List V → Prop
  | nil : Rps G F m [] []
  | cons {d : D} {v : V} {ds : List D} {vs : List V} (h : Rp G F m d v) (t : Rps G F m ds vs) : Rps G F m (d :: ds) (v :: vs)
end
section
variable {G : Gx} {F F' : Hp} {m m' : List Addr}
mutual
theorem Rp.mono (e : Ext F F') (hm : ∀ (i : Nat) (a : Addr), m[i]? = some a → m'[i]? = some a) : ∀ {d : D} {v : V}, Rp G F m d v → Rp G F' m' d v
  | _, _, .non => .non
  | _, _, .bl b => .bl b
  | _, _, .int i => .int i
  | _, _, .str x => .str x
  | _, _, .tup h r => .tup (e.sqT h) (Rps.mono e hm r)
  | _, _, .lst h r => .lst (e _ _ h (fun _ q => nomatch q)) (Rps.mono e hm r)
  | _, _, .ref h => .ref (hm _ _ h)
  | _, _, .fn k => .fn k
  | _, _, .cls k => .cls k
  | _, _, .ty n => .ty n
  | _, _, .scr h => .scr (e.sqL h)
theorem Rps.mono (e : Ext F F') (hm : ∀ (i : Nat) (a : Addr), m[i]? = some a → m'[i]? = some a) : ∀ {ds : List D} {vs : List V}, Rps G F m ds vs → Rps G F' m' ds vs
  | _, _, .nil => .nil
  | _, _, .cons h t => .cons (Rp.mono e hm h) (Rps.mono e hm t)
end
theorem Rps.len : ∀ {ds : List D} {vs : List V}, Rps G F m ds vs → ds.length = vs.length
  | _, _, .nil => rfl
  | _, _, .cons _ t => by rw [List.length_cons, List.length_cons, t.len]
theorem Rps.get : ∀ {ds : List D} {vs : List V}, Rps G F m ds vs → ∀ {i : Nat} {d : D}, ds[i]? = some d → ∃ v, vs[i]? = some v ∧ Rp G F m d v
  | _, _, .nil, i, d, e => by simp at e
  | _, _, .cons h t, 0, d, e => by
    simp at e
    subst e
    exact ⟨_, rfl, h⟩
  | _, _, .cons h t, i + 1, d, e => by
    obtain ⟨v, h1, h2⟩ := t.get (i := i) (d := d) (by simpa using e)
    exact ⟨v, by simpa using h1, h2⟩
theorem Rps.getV : ∀ {ds : List D} {vs : List V}, Rps G F m ds vs → ∀ {i : Nat} {v : V}, vs[i]? = some v → ∃ d, ds[i]? = some d ∧ Rp G F m d v
  | _, _, .nil, i, d, e => by simp at e
  | _, _, .cons h t, 0, d, e => by
    simp at e
    subst e
    exact ⟨_, rfl, h⟩
  | _, _, .cons h t, i + 1, d, e => by
    obtain ⟨v, h1, h2⟩ := t.getV (i := i) (v := d) (by simpa using e)
    exact ⟨v, by simpa using h1, h2⟩
theorem Rps.append : ∀ {ds es : List D} {vs us : List V}, Rps G F m ds vs → Rps G F m es us → Rps G F m (ds ++ es) (vs ++ us)
  | _, _, _, _, .nil, s => s
  | _, _, _, _, .cons h t, s => .cons h (t.append s)
theorem Rps.take : ∀ {ds : List D} {vs : List V} (n : Nat), Rps G F m ds vs → Rps G F m (ds.take n) (vs.take n)
  | _, _, 0, _ => by simp; exact .nil
  | _, _, n + 1, .nil => by simp; exact .nil
  | _, _, n + 1, .cons h t => by simp; exact .cons h (t.take n)
theorem Rps.drop : ∀ {ds : List D} {vs : List V} (n : Nat), Rps G F m ds vs → Rps G F m (ds.drop n) (vs.drop n)
  | _, _, 0, r => by simpa using r
  | _, _, n + 1, .nil => by simp; exact .nil
  | _, _, n + 1, .cons h t => by simpa using t.drop n
theorem Rps.rep {ds : List D} {vs : List V} (r : Rps G F m ds vs) : ∀ k : Nat, Rps G F m (List.replicate k ds).flatten (List.replicate k vs).flatten
  | 0 => by simp; exact .nil
  | k + 1 => by
    rw [List.replicate_succ, List.replicate_succ, List.flatten_cons, List.flatten_cons]
    exact r.append (r.rep k)
theorem Rps.set {d : D} {v : V} (h : Rp G F m d v) : ∀ {ds : List D} {vs : List V} (i : Nat), Rps G F m ds vs → Rps G F m (ds.set i d) (vs.set i v)
  | _, _, _, .nil => by simp; exact .nil
  | _, _, 0, .cons _ t => by simp; exact .cons h t
  | _, _, i + 1, .cons q t => by simp; exact .cons q (Rps.set h i t)
end

def fields : List D → Option (List (Str × D)) := fun _ => none
/-- what a ref holds -/
def ObR (G : Gx) (F : Hp) (m : List Addr) (H : Hp) (a : Addr) : Ob → Prop
  | .lst xs => ∃ vs, H a = some (.lst vs) ∧ Rps G F m xs vs
  | .dK kvs => ∃ ks : List (Key × V), H a = some (.dK ks) ∧ Paired (fun (p : D × D) (q : Key × V) => Rp G F m p.1 (kV q.1) ∧ Rp G F m p.2 q.2) kvs ks
  | .dT kvs => ∃ ks : List (List Key × V), H a = some (.dT ks) ∧ Paired (fun (p : D × D) (q : List Key × V) => (∃ ds, p.1 = .tup ds ∧ Rps G F m ds (q.1.map kV)) ∧ Rp G F m p.2 q.2) kvs ks
  | .fro d => Rp G F m d (.ref a)
  | .cup => ∃ x y : Int, H a = some (.lst [.int x, .int y]) ∧ 0 ≤ x ∧ 0 ≤ y ∧ y < 2 ^ 32
structure Mok (G : Gx) (z : List Addr) (W : Wd) : Prop where
  len : W.m.length = W.μ.length
  inj : ∀ (i j : Nat) (a : Addr), live W.μ i → live W.μ j → W.m[i]? = some a → W.m[j]? = some a → i = j
  zl : ∀ b ∈ z, ¬ W.lv b
  zs : ∀ b ∈ z, ∃ o, W.H b = some o
  ob : ∀ (i : Nat) (a : Addr) (o : Ob), W.m[i]? = some a → W.μ[i]? = some o → ObR G (W.F z) W.m W.H a o
/-- from one world to a later one -/
structure Le (z : List Addr) (W W' : Wd) : Prop where
  pre : ∀ (i : Nat) (a : Addr), W.m[i]? = some a → W'.m[i]? = some a
  ext : Ext (W.F z) (W'.F z)
  zk : ∀ b ∈ z, W'.H b = W.H b
theorem Le.refl (z : List Addr) (W : Wd) : Le z W W := ⟨fun _ _ h => h, Ext.refl _, fun _ _ => rfl⟩
theorem Le.trans {z : List Addr} {W W1 W2 : Wd} (a : Le z W W1) (b : Le z W1 W2) : Le z W W2 := ⟨fun i c h => b.pre i c (a.pre i c h), a.ext.trans b.ext, fun c h => (b.zk c h).trans (a.zk c h)⟩
abbrev RpW (G : Gx) (z : List Addr) (W : Wd) (d : D) (v : V) : Prop := Rp G (W.F z) W.m d v
abbrev RpsW (G : Gx) (z : List Addr) (W : Wd) (d : List D) (v : List V) : Prop := Rps G (W.F z) W.m d v
theorem Rp.le {G : Gx} {z : List Addr} {W W' : Wd} {d : D} {v : V} (h : RpW G z W d v) (l : Le z W W') : RpW G z W' d v := Rp.mono l.ext l.pre h
theorem Rps.le {G : Gx} {z : List Addr} {W W' : Wd} {d : List D} {v : List V} (h : RpsW G z W d v) (l : Le z W W') : RpsW G z W' d v := Rps.mono l.ext l.pre h
/-- names and slots -/
structure EnvR (G : Gx) (z : List Addr) (W : Wd) (ρ : Env) (σ : L2.St) : Prop where
  len : ρ.length = σ.length
  at_ : ∀ (i : Nat) (d : D), ρ[i]? = some (some d) → ∃ v, σ[i]? = some (some v) ∧ RpW G z W d v
theorem EnvR.le {G : Gx} {z : List Addr} {W W' : Wd} {ρ : Env} {σ : L2.St} (h : EnvR G z W ρ σ) (l : Le z W W') : EnvR G z W' ρ σ :=
  ⟨h.len, fun i d e => let ⟨v, h1, h2⟩ := h.at_ i d e; ⟨v, h1, h2.le l⟩⟩
theorem EnvR.set {G : Gx} {z : List Addr} {W : Wd} {ρ : Env} {σ : L2.St} {d : D} {v : V} (h : EnvR G z W ρ σ) (r : RpW G z W d v) (i : Nat) : EnvR G z W (ρ.set i (some d)) (σ.set i (some v)) := by
  refine ⟨by rw [List.length_set, List.length_set, h.len], fun j e hj => ?_⟩
  by_cases hij : i = j
  · subst hij
    by_cases hl : i < ρ.length
    · rw [List.getElem?_set_self hl] at hj
      cases hj
      exact ⟨v, List.getElem?_set_self (by rw [← h.len]; exact hl), r⟩
    · rw [List.getElem?_eq_none (by rw [List.length_set]; omega)] at hj
      cases hj
  · rw [List.getElem?_set_ne hij] at hj ⊢
    exact h.at_ j e hj
theorem EnvR.unset {G : Gx} {z : List Addr} {W : Wd} {ρ : Env} {σ : L2.St} (h : EnvR G z W ρ σ) (i : Nat) : EnvR G z W (ρ.set i none) (σ.set i none) := by
  refine ⟨by rw [List.length_set, List.length_set, h.len], fun j e hj => ?_⟩
  by_cases hij : i = j
  · subst hij
    by_cases hl : i < ρ.length
    · rw [List.getElem?_set_self hl] at hj
      cases hj
    · rw [List.getElem?_eq_none (by rw [List.length_set]; omega)] at hj
      cases hj
  · rw [List.getElem?_set_ne hij] at hj ⊢
    exact h.at_ j e hj
theorem EnvR.wipe {G : Gx} {z : List Addr} {W : Wd} {ρ : Env} {σ : L2.St} (h : EnvR G z W ρ σ) : ∀ is : List Nat, EnvR G z W (wipeE ρ is) (L2.wipe σ is)
  | [] => h
  | i :: is => (h.wipe is).unset i
theorem wipeE_len (ρ : Env) : ∀ is : List Nat, (wipeE ρ is).length = ρ.length
  | [] => rfl
  | i :: is => by
    show ((wipeE ρ is).set i none).length = _
    rw [List.length_set, wipeE_len ρ is]

/-! ### worlds change -/
section
variable {G : Gx} {z : List Addr} {W : Wd} {p : Addr} {o : HO}
theorem Mok.nz (k : Mok G z W) (h : W.H p = none) : p ∉ z := fun hz => by
  obtain ⟨o, e⟩ := k.zs p hz
  rw [h] at e
  cases e
theorem Mok.there (k : Mok G z W) {i : Nat} {a : Addr} (hl : live W.μ i) (hm : W.m[i]? = some a) : ∃ o, W.H a = some o := by
  unfold live at hl
  cases e : W.μ[i]? with
  | none =>
    rw [e] at hl
    exact hl.elim
  | some o =>
    have r := k.ob i a o hm e
    cases o with
    | lst xs => obtain ⟨vs, h, _⟩ := r; exact ⟨_, h⟩
    | dK xs => obtain ⟨vs, h, _⟩ := r; exact ⟨_, h⟩
    | dT xs => obtain ⟨vs, h, _⟩ := r; exact ⟨_, h⟩
    | cup => obtain ⟨x, y, h, _⟩ := r; exact ⟨_, h⟩
    | fro d =>
      rw [e] at hl
      exact hl.elim
theorem Mok.nlv (k : Mok G z W) (h : W.H p = none) : ¬ W.lv p := fun ⟨i, hl, hm⟩ => by
  obtain ⟨o, e⟩ := k.there hl hm
  rw [h] at e
  cases e
theorem ObR.mono {F F' H H' : Hp} {m m' : List Addr} {a : Addr} {ob : Ob} (e : Ext F F') (hm : ∀ (i : Nat) (a : Addr), m[i]? = some a → m'[i]? = some a)
    (hh : (∀ d, ob ≠ .fro d) → ∀ o, H a = some o → H' a = some o) (h : ObR G F m H a ob) : ObR G F' m' H' a ob := by
  cases ob with
  | lst xs => obtain ⟨vs, h1, h2⟩ := h; exact ⟨vs, hh (fun _ q => nomatch q) _ h1, h2.mono e hm⟩
  | dK xs =>
    obtain ⟨vs, h1, h2⟩ := h
    exact ⟨vs, hh (fun _ q => nomatch q) _ h1, Paired.mapP h2 fun a b r => ⟨r.1.mono e hm, r.2.mono e hm⟩⟩
  | dT xs =>
    obtain ⟨vs, h1, h2⟩ := h
    exact ⟨vs, hh (fun _ q => nomatch q) _ h1, Paired.mapP h2 fun a b r => ⟨let ⟨ds, e1, e2⟩ := r.1; ⟨ds, e1, e2.mono e hm⟩, r.2.mono e hm⟩⟩
  | fro d => exact Rp.mono e hm h
  | cup => obtain ⟨x, y, h1, h2⟩ := h; exact ⟨x, y, hh (fun _ q => nomatch q) _ h1, h2⟩
/-- a new object that nothing will change -/
theorem Mok.new (k : Mok G z W) (h : W.H p = none) : Mok G z ⟨W.m, W.μ, upd W.H p o⟩ ∧ Le z W ⟨W.m, W.μ, upd W.H p o⟩ ∧ Wd.F z ⟨W.m, W.μ, upd W.H p o⟩ p = some o := by
  have nz := k.nz h
  have nl := k.nlv h
  have ext : Ext (W.F z) (Wd.F z ⟨W.m, W.μ, upd W.H p o⟩) := fun b u e n => by
    obtain ⟨h1, h2, h3⟩ := Wd.F_some e
    exact Wd.F_of (by show upd W.H p o b = _; rw [upd_ne (ne_of_none h1 h)]; exact h1) h2 h3
  refine ⟨⟨k.len, k.inj, k.zl, fun b hb => ?_, fun i a ob h1 h2 => ?_⟩, ⟨fun _ _ q => q, ext, fun b hb => ?_⟩, Wd.F_of upd_same nz nl⟩
  · obtain ⟨u, e⟩ := k.zs b hb
    exact ⟨u, by show upd W.H p o b = _; rw [upd_ne (ne_of_none e h)]; exact e⟩
  · refine (k.ob i a ob h1 h2).mono ext (fun _ _ q => q) fun _ u e => ?_
    show upd W.H p o a = _
    rw [upd_ne (ne_of_none e h)]
    exact e
  · show upd W.H p o b = _
    rw [upd_ne (fun e => nz (by rw [← e]; exact hb))]
theorem live_app {μ : Mem} {ob : Ob} {i : Nat} : live (μ ++ [ob]) i ↔ live μ i ∨ (i = μ.length ∧ ∀ d, ob ≠ .fro d) := by
  unfold live
  by_cases h : i < μ.length
  · rw [List.getElem?_append_left h]
    constructor
    · exact fun q => .inl q
    · rintro (q | ⟨e, _⟩)
      · exact q
      · omega
  · by_cases e : i = μ.length
    · subst e
      rw [List.getElem?_append_right (Nat.le_refl _), Nat.sub_self]
      have hn : μ[μ.length]? = none := List.getElem?_eq_none (Nat.le_refl _)
      rw [hn]
      cases ob <;> simp
    · have h1 : (μ ++ [ob])[i]? = none := List.getElem?_eq_none (by rw [List.length_append]; simp; omega)
      have h2 : μ[i]? = none := List.getElem?_eq_none (by omega)
      rw [h1, h2]
      simp [e]
/-- a new object that a ref holds -/
theorem Mok.newRef {ob : Ob} (k : Mok G z W) (h : W.H p = none) (hf : ∀ d, ob ≠ .fro d)
    (hob : ∀ F, Ext (W.F z) F → ObR G F (W.m ++ [p]) (upd W.H p o) p ob) :
    Mok G z ⟨W.m ++ [p], W.μ ++ [ob], upd W.H p o⟩ ∧ Le z W ⟨W.m ++ [p], W.μ ++ [ob], upd W.H p o⟩ ∧ (W.m ++ [p])[W.μ.length]? = some p := by
  have nz := k.nz h
  have nl := k.nlv h
  have hpre : ∀ (i : Nat) (a : Addr), W.m[i]? = some a → (W.m ++ [p])[i]? = some a := fun i a e => by
    have hi : i < W.m.length := (List.getElem?_eq_some_iff.mp e).1
    rw [List.getElem?_append_left hi]
    exact e
  have lvi : ∀ b, Wd.lv ⟨W.m ++ [p], W.μ ++ [ob], upd W.H p o⟩ b → W.lv b ∨ b = p := fun b ⟨i, hl, hm⟩ => by
    rcases live_app.mp hl with q | ⟨e, _⟩
    · have hi : i < W.m.length := by
        rw [k.len]
        unfold live at q
        cases e : W.μ[i]? with
        | none => rw [e] at q; exact q.elim
        | some _ => exact (List.getElem?_eq_some_iff.mp e).1
      refine .inl ⟨i, q, ?_⟩
      have hm' : (W.m ++ [p])[i]? = some b := hm
      rw [List.getElem?_append_left hi] at hm'
      exact hm'
    · subst e
      have hm' : (W.m ++ [p])[W.μ.length]? = some b := hm
      rw [← k.len, List.getElem?_append_right (Nat.le_refl _), Nat.sub_self] at hm'
      exact .inr (Option.some.inj hm').symm
  have ext : Ext (W.F z) (Wd.F z ⟨W.m ++ [p], W.μ ++ [ob], upd W.H p o⟩) := fun b u e n => by
    obtain ⟨h1, h2, h3⟩ := Wd.F_some e
    have nb : b ≠ p := ne_of_none h1 h
    exact Wd.F_of (by show upd W.H p o b = _; rw [upd_ne nb]; exact h1) h2 fun q => (lvi b q).elim h3 nb
  have lastm : (W.m ++ [p])[W.μ.length]? = some p := by rw [← k.len, List.getElem?_append_right (Nat.le_refl _), Nat.sub_self]; rfl
  refine ⟨⟨?_, fun i j a hi hj h1 h2 => ?_, fun b hb q => ?_, fun b hb => ?_, fun i a ob' h1 h2 => ?_⟩, ⟨hpre, ext, fun b hb => ?_⟩, lastm⟩
  · show (W.m ++ [p]).length = (W.μ ++ [ob]).length
    rw [List.length_append, List.length_append, k.len]
    rfl
  · have key : ∀ i a, live (W.μ ++ [ob]) i → (W.m ++ [p])[i]? = some a → (live W.μ i ∧ W.m[i]? = some a) ∨ (i = W.μ.length ∧ a = p) := fun i a hi h1 => by
      rcases live_app.mp hi with q | ⟨e, _⟩
      · have hi : i < W.m.length := by
          rw [k.len]
          unfold live at q
          cases e : W.μ[i]? with
          | none => rw [e] at q; exact q.elim
          | some _ => exact (List.getElem?_eq_some_iff.mp e).1
        rw [List.getElem?_append_left hi] at h1
        exact .inl ⟨q, h1⟩
      · subst e
        rw [lastm] at h1
        exact .inr ⟨rfl, (Option.some.inj h1).symm⟩
    rcases key i a hi h1 with ⟨a1, a2⟩ | ⟨a1, a2⟩ <;> rcases key j a hj h2 with ⟨b1, b2⟩ | ⟨b1, b2⟩
    · exact k.inj i j a a1 b1 a2 b2
    · subst b2
      exact absurd ⟨i, a1, a2⟩ nl
    · subst a2
      exact absurd ⟨j, b1, b2⟩ nl
    · rw [a1, b1]
  · rcases lvi b q with q | q
    · exact k.zl b hb q
    · exact nz (q ▸ hb)
  · obtain ⟨u, e⟩ := k.zs b hb
    exact ⟨u, by show upd W.H p o b = _; rw [upd_ne (ne_of_none e h)]; exact e⟩
  · by_cases hi : i < W.μ.length
    · have h1' : W.m[i]? = some a := by
        have h1 : (W.m ++ [p])[i]? = some a := h1
        rw [List.getElem?_append_left (by rw [k.len]; exact hi)] at h1
        exact h1
      have h2' : W.μ[i]? = some ob' := by
        have h2 : (W.μ ++ [ob])[i]? = some ob' := h2
        rw [List.getElem?_append_left hi] at h2
        exact h2
      refine (k.ob i a ob' h1' h2').mono ext hpre fun _ u e => ?_
      show upd W.H p o a = _
      rw [upd_ne (ne_of_none e h)]
      exact e
    · have e : i = W.μ.length := by
        have h2 : (W.μ ++ [ob])[i]? = some ob' := h2
        have := (List.getElem?_eq_some_iff.mp h2).1
        rw [List.length_append] at this
        simp at this
        omega
      subst e
      have h1 : (W.m ++ [p])[W.μ.length]? = some a := h1
      have h2 : (W.μ ++ [ob])[W.μ.length]? = some ob' := h2
      rw [lastm] at h1
      rw [List.getElem?_append_right (Nat.le_refl _), Nat.sub_self] at h2
      cases h1
      cases h2
      exact hob _ ext
  · show upd W.H p o b = _
    rw [upd_ne (fun e => nz (by rw [← e]; exact hb))]
theorem live_set {μ : Mem} {ob : Ob} {i n : Nat} (hn : live μ n) (hf : ∀ d, ob ≠ .fro d) : live (μ.set n ob) i ↔ live μ i := by
  unfold live
  by_cases h : n = i
  · subst h
    have hl : n < μ.length := by
      unfold live at hn
      cases e : μ[n]? with
      | none => rw [e] at hn; exact hn.elim
      | some _ => exact (List.getElem?_eq_some_iff.mp e).1
    rw [List.getElem?_set_self hl]
    have hn' : (match μ[n]? with | some (.fro _) => False | some _ => True | none => False) := hn
    constructor
    · exact fun _ => hn'
    · intro _
      cases ob with
      | fro d => exact absurd rfl (hf d)
      | _ => trivial
  · rw [List.getElem?_set_ne h]
/-- what a ref holds is changed -/
theorem Mok.write {ob : Ob} {n : Nat} {a : Addr} (k : Mok G z W) (hn : live W.μ n) (hm : W.m[n]? = some a) (hf : ∀ d, ob ≠ .fro d)
    (hob : ObR G (W.F z) W.m (upd W.H a o) a ob) :
    Mok G z ⟨W.m, W.μ.set n ob, upd W.H a o⟩ ∧ Le z W ⟨W.m, W.μ.set n ob, upd W.H a o⟩ := by
  have la : W.lv a := ⟨n, hn, hm⟩
  have lvi : ∀ b, Wd.lv ⟨W.m, W.μ.set n ob, upd W.H a o⟩ b ↔ W.lv b := fun b => by
    constructor
    · rintro ⟨i, hl, h⟩
      exact ⟨i, (live_set hn hf).mp hl, h⟩
    · rintro ⟨i, hl, h⟩
      exact ⟨i, (live_set hn hf).mpr hl, h⟩
  have eF : ∀ b, Wd.F z ⟨W.m, W.μ.set n ob, upd W.H a o⟩ b = W.F z b := fun b => by
    by_cases hb : b ∈ z ∨ W.lv b
    · have h1 : Wd.F z W b = none := by
        unfold Wd.F
        rw [if_pos hb]
      have h2 : Wd.F z ⟨W.m, W.μ.set n ob, upd W.H a o⟩ b = none := by
        unfold Wd.F
        rw [if_pos (hb.imp id (lvi b).mpr)]
      rw [h1, h2]
    · have h1 : Wd.F z W b = W.H b := by
        unfold Wd.F
        rw [if_neg hb]
      have h2 : Wd.F z ⟨W.m, W.μ.set n ob, upd W.H a o⟩ b = upd W.H a o b := by
        unfold Wd.F
        rw [if_neg (fun q => hb (q.imp id (lvi b).mp))]
      rw [h1, h2, upd_ne (fun e => hb (.inr (by rw [e]; exact la)))]
  have ext : Ext (W.F z) (Wd.F z ⟨W.m, W.μ.set n ob, upd W.H a o⟩) := fun b u e _ => by
    rw [eF]
    exact e
  have nza : ∀ b ∈ z, b ≠ a := fun b hb e => k.zl b hb (by rw [e]; exact la)
  refine ⟨⟨?_, fun i j c hi hj h1 h2 => k.inj i j c ((live_set hn hf).mp hi) ((live_set hn hf).mp hj) h1 h2, fun b hb q => k.zl b hb ((lvi b).mp q), fun b hb => ?_, fun i c ob' h1 h2 => ?_⟩, ⟨fun _ _ q => q, ext, fun b hb => ?_⟩⟩
  · show W.m.length = (W.μ.set n ob).length
    rw [List.length_set]
    exact k.len
  · obtain ⟨u, e⟩ := k.zs b hb
    exact ⟨u, by show upd W.H a o b = _; rw [upd_ne (nza b hb)]; exact e⟩
  · by_cases hin : i = n
    · subst hin
      have hl : i < W.μ.length := by
        have := (List.getElem?_eq_some_iff.mp hm).1
        rw [← k.len]
        exact this
      have h2 : (W.μ.set i ob)[i]? = some ob' := h2
      rw [List.getElem?_set_self hl] at h2
      cases h2
      have h1 : W.m[i]? = some c := h1
      rw [hm] at h1
      cases h1
      exact hob.mono ext (fun _ _ q => q) fun _ _ q => q
    · have h2 : (W.μ.set n ob)[i]? = some ob' := h2
      rw [List.getElem?_set_ne (Ne.symm hin)] at h2
      refine (k.ob i c ob' h1 h2).mono ext (fun _ _ q => q) fun hnf u e => ?_
      have hli : live W.μ i := by
        unfold live
        rw [h2]
        cases ob' with
        | fro d => exact absurd rfl (hnf d)
        | _ => trivial
      show upd W.H a o c = _
      rw [upd_ne (fun e2 => hin (k.inj i n c hli hn h1 (by rw [e2]; exact hm)))]
      exact e
  · show upd W.H a o b = _
    rw [upd_ne (nza b hb)]
/-- a list is frozen -/
theorem Mok.freeze {n : Nat} {a : Addr} {xs : List D} (k : Mok G z W) (hm : W.m[n]? = some a) (hn : W.μ[n]? = some (.lst xs)) :
    Mok G z ⟨W.m, W.μ.set n (.fro (.lst xs)), W.H⟩ ∧ Le z W ⟨W.m, W.μ.set n (.fro (.lst xs)), W.H⟩ ∧ RpW G z ⟨W.m, W.μ.set n (.fro (.lst xs)), W.H⟩ (.lst xs) (.ref a) := by
  have hl : n < W.μ.length := (List.getElem?_eq_some_iff.mp hn).1
  have ln : live W.μ n := by
    unfold live
    rw [hn]
    trivial
  have la : W.lv a := ⟨n, ln, hm⟩
  have lvs : ∀ i, live (W.μ.set n (.fro (.lst xs))) i → live W.μ i ∧ i ≠ n := fun i hi => by
    unfold live at hi ⊢
    by_cases h : n = i
    · subst h
      rw [List.getElem?_set_self hl] at hi
      exact hi.elim
    · rw [List.getElem?_set_ne h] at hi
      exact ⟨hi, Ne.symm h⟩
  have lvi : ∀ b, Wd.lv ⟨W.m, W.μ.set n (.fro (.lst xs)), W.H⟩ b → W.lv b ∧ b ≠ a := fun b ⟨i, h1, h2⟩ => by
    obtain ⟨q1, q2⟩ := lvs i h1
    exact ⟨⟨i, q1, h2⟩, fun e => q2 (k.inj i n a q1 ln (by rw [← e]; exact h2) hm)⟩
  have ext : Ext (W.F z) (Wd.F z ⟨W.m, W.μ.set n (.fro (.lst xs)), W.H⟩) := fun b u e _ => by
    obtain ⟨h1, h2, h3⟩ := Wd.F_some e
    exact Wd.F_of h1 h2 fun q => h3 (lvi b q).1
  obtain ⟨vs, hv, rv⟩ : ∃ vs, W.H a = some (.lst vs) ∧ Rps G (W.F z) W.m xs vs := k.ob n a _ hm hn
  have rep : RpW G z ⟨W.m, W.μ.set n (.fro (.lst xs)), W.H⟩ (.lst xs) (.ref a) := .lst (Wd.F_of hv (fun hz => k.zl a hz la) fun q => (lvi a q).2 rfl) (rv.mono ext fun _ _ q => q)
  refine ⟨⟨?_, fun i j c hi hj h1 h2 => k.inj i j c (lvs i hi).1 (lvs j hj).1 h1 h2, fun b hb q => k.zl b hb (lvi b q).1, k.zs, fun i c ob' h1 h2 => ?_⟩, ⟨fun _ _ q => q, ext, fun _ _ => rfl⟩, rep⟩
  · show W.m.length = (W.μ.set n _).length
    rw [List.length_set]
    exact k.len
  · by_cases hin : i = n
    · subst hin
      have h2 : (W.μ.set i (.fro (.lst xs)))[i]? = some ob' := h2
      rw [List.getElem?_set_self hl] at h2
      cases h2
      have h1 : W.m[i]? = some c := h1
      rw [hm] at h1
      cases h1
      exact rep
    · have h2 : (W.μ.set n (.fro (.lst xs)))[i]? = some ob' := h2
      rw [List.getElem?_set_ne (Ne.symm hin)] at h2
      exact (k.ob i c ob' h1 h2).mono ext (fun _ _ q => q) fun _ _ e => e
end

/-! ### runs in worlds -/
theorem T.good_mono {α : Type} {Q Q' : α → Prop} : ∀ {t : T α}, (∀ a, Q a → Q' a) → t.good Q → t.good Q'
  | .ret a, h, q => h a q
  | .roll n k, h, q => fun r hr => T.good_mono h (q r hr)
theorem T.good_bind {α β : Type} {Q : β → Prop} {f : α → T β} : ∀ {t : T α}, (t.bind f).good Q → t.good fun a => (f a).good Q
  | .ret a, q => q
  | .roll n k, q => fun r hr => T.good_bind (q r hr)
theorem T.bind_good {α β : Type} {Q : β → Prop} {f : α → T β} : ∀ {t : T α}, (t.good fun a => (f a).good Q) → (t.bind f).good Q
  | .ret a, q => q
  | .roll n k, q => fun r hr => T.bind_good (q r hr)
/-- the run t in the world W: it comes to P, or lets out an exception as Ex says -/
def Wp (G : Gx) (z : List Addr) (W : Wd) {α : Type} (m : M α) (P : α → Wd → Prop) (Ex : Nat → List D → Wd → Prop) : Prop :=
  (m W.μ).good fun r => match r with
    | .ok a μ' => ∀ W' : Wd, W'.μ = μ' → Mok G z W' → Le z W W' → P a W'
    | .exc c xs μ' => ∀ W' : Wd, W'.μ = μ' → Mok G z W' → Le z W W' → Ex c xs W'
    | .bad => False
section
variable {G : Gx} {z : List Addr} {W : Wd} {α β : Type} {m : M α} {P P' : α → Wd → Prop} {Ex Ex' : Nat → List D → Wd → Prop}
theorem Wp.mono (h : Wp G z W m P Ex) (hp : ∀ a W', Mok G z W' → Le z W W' → P a W' → P' a W') (he : ∀ c xs W', Mok G z W' → Le z W W' → Ex c xs W' → Ex' c xs W') : Wp G z W m P' Ex' := by
  refine T.good_mono (fun r q => ?_) h
  cases r with
  | ok a μ' => exact fun W' e k l => hp a W' k l (q W' e k l)
  | exc c xs μ' => exact fun W' e k l => he c xs W' k l (q W' e k l)
  | bad => exact q
theorem Wp.bind {f : α → M β} {P : β → Wd → Prop} (h : Wp G z W (M.bind m f) P Ex) : Wp G z W m (fun a W' => Wp G z W' (f a) P Ex) Ex := by
  refine T.good_mono (fun r q => ?_) (T.good_bind h)
  cases r with
  | ok a μ' =>
    intro W' e k l
    show ((f a) W'.μ).good _
    rw [e]
    refine T.good_mono (fun r q => ?_) q
    cases r with
    | ok b μ2 => exact fun W2 e2 k2 l2 => q W2 e2 k2 (l.trans l2)
    | exc c xs μ2 => exact fun W2 e2 k2 l2 => q W2 e2 k2 (l.trans l2)
    | bad => exact q
  | exc c xs μ' => exact q
  | bad => exact q
theorem Wp.pure {a : α} (h : Wp G z W (M.pure a) P Ex) (W' : Wd) (e : W'.μ = W.μ) (k : Mok G z W') (l : Le z W W') : P a W' := h W' e k l
theorem Wp.pure0 {a : α} (h : Wp G z W (M.pure a) P Ex) (k : Mok G z W) : P a W := h W rfl k (Le.refl z W)
theorem Wp.pure' {a : α} (h : ∀ W' : Wd, W'.μ = W.μ → Mok G z W' → Le z W W' → P a W') : Wp G z W (M.pure a) P Ex := h
theorem Wp.bad (h : Wp G z W (M.bad : M α) P Ex) : False := h
theorem Wp.opt {o : Option α} (h : Wp G z W (M.opt o) P Ex) (k : Mok G z W) : ∃ a, o = some a ∧ P a W := by
  cases o with
  | none => exact (Wp.bad h).elim
  | some a => exact ⟨a, rfl, h.pure0 k⟩
theorem Wp.ite {c : Prop} [Decidable c] {m' : M α} (h : Wp G z W (if c then m else m') P Ex) : (c ∧ Wp G z W m P Ex) ∨ (¬ c ∧ Wp G z W m' P Ex) := by
  by_cases q : c
  · rw [if_pos q] at h
    exact .inl ⟨q, h⟩
  · rw [if_neg q] at h
    exact .inr ⟨q, h⟩
end
end DL
/-! DL3: own syntax against the text: the check -/
namespace DL
open PySem PyProof.Rows L2 PySem.Spec

/-- where a piece of text stands: its names by slot, its scope, the written scope of the block it stands in (none: a def's own body), the text's defs with their numbers of parameters, its constants -/
structure Cxt where
  N : List Str
  sc : Scope
  own : Option Scope
  fns : List (Str × Nat)
  cns : List Str
  gcd : Bool
def visB (sc : Scope) (x : Str) : Bool := match sc.names.lookup x with
  | some .local => true
  | some .cell => true
  | some .free => true
  | _ => false
def glB (sc : Scope) (x : Str) : Bool := match sc.names.lookup x with
  | some .globalImplicit => true
  | _ => false
def okNm (x : Str) : Bool := !(x == ("__debug__" : Str)) && !(x == ("__classdict__" : Str))
def Cxt.nm (Γ : Cxt) (i : Nat) (x : Str) : Bool := decide (Γ.N[i]? = some x)
def Cxt.asg (Γ : Cxt) (x : Str) : Bool := match Γ.sc.names.lookup x with
  | some .local => true
  | some .cell => match Γ.own with
    | none => true
    | some s => s.names.lookup x == some .cell
  | _ => false
/-! ### which form an expression has -/
def notStar : Expr → Bool
  | .Starred _ _ => false
  | _ => true
def notSet : Expr → Bool
  | .Set _ _ _ => false
  | _ => true
def notSlice : Expr → Bool
  | .Slice _ _ _ _ => false
  | _ => true
def notComp : Expr → Bool
  | .ListComp _ _ _ _ => false
  | .SetComp _ _ _ _ => false
  | .DictComp _ _ _ _ _ => false
  | _ => true
def plainTest : Expr → Bool
  | .UnaryOp .Not _ _ => false
  | .BoolOp _ _ _ => false
  | .IfExp _ _ _ _ => false
  | .Compare _ _ _ _ => false
  | _ => true
theorem star_of {e : Expr} {es : List Expr} {env : PySem.Env} (h : notStar e = true) : starEach (e :: es) env = (false, eval e env) :: starEach es env := by
  cases e <;> first | rfl | cases h
theorem stars_false {env : PySem.Env} {pos : Pos} : ∀ {es : List Expr}, es.all notStar = true → (backTo pos (starEach es env)).any (·.1) = false
  | [], _ => rfl
  | e :: es, h => by
    simp only [List.all_cons, Bool.and_eq_true] at h
    rw [star_of h.1]
    have ih := stars_false (env := env) (pos := pos) h.2
    unfold backTo at ih ⊢
    simpa using ih
theorem assign_of {e : Expr} {es : List Expr} {env : PySem.Env} (h : notStar e = true) : assignEach (e :: es) env = (false, assign e env) :: assignEach es env := by
  cases e <;> first | rfl | cases h
theorem assigns_of {env : PySem.Env} : ∀ {es : List Expr}, es.all notStar = true → assignEach es env = es.map fun e => (false, assign e env)
  | [], _ => rfl
  | e :: es, h => by
    simp only [List.all_cons, Bool.and_eq_true] at h
    rw [assign_of h.1, assigns_of h.2]
    rfl
theorem slice_of {e : Expr} (h : notSlice e = true) : PlainIx e := by
  intro o i
  cases e <;> first | rfl | cases h
theorem set_of {e : Expr} {env : PySem.Env} (h : notSet e = true) : ∀ x, foldedSetIterable e env x = pure x := by
  intro x
  cases e <;> first | rfl | cases h
theorem mark_of {e : Expr} {op : CmpOp} (h : notSet e = true) : behindInMarks op e = false := by
  cases e <;> first | rfl | cases h
theorem swap_none {e : Expr} {n : Nat} {env : PySem.Env} (h : notComp e = true) (t : Option Expr) : swapsWith e t n env = pure false := by
  cases e <;> first | rfl | cases h
theorem plain_of {e : Expr} {env : PySem.Env} (h : plainTest e = true) : ∀ whole, isTrue e env whole = (do let v ← whole; standAt e.pos; holding [v] (truthy v)) := by
  intro whole
  cases e with
  | UnaryOp op a p => cases op <;> first | rfl | cases h
  | BoolOp => cases h
  | IfExp => cases h
  | Compare => cases h
  | _ => rfl

/-! ### targets -/
mutual
def ckT (Γ : Cxt) : Tz → Expr → Bool
  | .nm i, .Name x _ => Γ.nm i x && Γ.asg x
  | .tp ts, .Tuple es _ _ => ckTs Γ ts es
  | _, _ => false
def ckTs (Γ : Cxt) : Tz → List Expr → Bool
  | .nil, [] => true
  | .cons t ts, e :: es => notStar e && ckT Γ t e && ckTs Γ ts es
  | _, _ => false
end
def isTup : Expr → Bool
  | .Tuple _ _ _ => true
  | _ => false
mutual
def namesT : Expr → List Str
  | .Name x _ => [x]
  | .Tuple es _ _ => namesTs es
  | _ => []
def namesTs : List Expr → List Str
  | [] => []
  | e :: es => namesT e ++ namesTs es
end

/-! ### expressions -/
def Op2.op : Op2 → Operator
  | .add => .Add | .sub => .Sub | .mul => .Mult | .fdiv => .FloorDiv | .mod => .Mod | .pow => .Pow
  | .shl => .LShift | .shr => .RShift | .band => .BitAnd | .bor => .BitOr | .bxor => .BitXor
def Cp.op : Cp → CmpOp
  | .eq => .Eq | .ne => .NotEq | .lt => .Lt | .le => .LtE | .gt => .Gt | .ge => .GtE | .isN => .Is | .notN => .IsNot | .mem => .In | .nmem => .NotIn
def Bf.name : Bf → Str
  | .len => "len" | .abs => "abs" | .sum => "sum" | .min2 => "min" | .max2 => "max" | .int => "int" | .list => "list" | .tuple => "tuple" | .gcd => "gcd" | .isin => "isinstance" | .all => "all" | .any => "any"
def Bf.ar : Bf → Nat
  | .min2 => 2 | .max2 => 2 | .gcd => 2 | .isin => 2 | _ => 1
def bfOk (Γ : Cxt) : Bf → Bool
  | .gcd => Γ.gcd
  | _ => true
structure Ck where
  e : Cxt → Expr → Bool
  t : Cxt → Expr → Bool
  es : Cxt → List Expr → Bool
  i : Cxt → Bool → Expr → Bool
  p : Cxt → Option Expr → Bool
  b : Cxt → BoolOp → List Expr → Bool
  bt : Cxt → BoolOp → List Expr → Bool
  l : Cxt → Expr → Bool
def Ck.ofE (f : Cxt → Expr → Bool) : Ck where
  e := f
  t := fun Γ x => f Γ x && plainTest x
  es := fun _ _ => false
  i := fun Γ _ x => f Γ x && notSet x
  p := fun Γ o => match o with
    | some x => f Γ x
    | none => false
  b := fun _ _ _ => false
  bt := fun _ _ _ => false
  l := fun _ _ => false
def Ck.ofI (f : Cxt → Bool → Expr → Bool) : Ck := { Ck.ofE (fun _ _ => false) with i := f }
def isNil : Ez → Bool
  | .nil => true
  | _ => false
def ckLc (tg : Tz) (I P A : Ck) (nl : Bool) (Γ : Cxt) (x : Expr) : Bool := match x with
  | .ListComp y [⟨tgx, itx, ifs, as⟩] s _ => decide (as = 0) && notSet itx && I.i Γ (isTup tgx) itx &&
    decide ((namesT tgx).length = tg.slots.length) && blkC Γ.N Γ.sc s ((namesT tgx).zip tg.slots) &&
    (ckT { Γ with sc := relS s Γ.sc, own := some s } tg tgx && (match ifs with
      | [] => nl
      | [c] => !nl && P.t { Γ with sc := relS s Γ.sc, own := some s } c
      | _ => false) && A.e { Γ with sc := relS s Γ.sc, own := some s } y)
  | _ => false
def ckBf (f : Bf) (A : Ck) (Γ : Cxt) (x : Expr) : Bool := match x with
  | .Call (.Name y _) xs [] _ => decide (y = f.name) && decide (xs.length = f.ar) && glB Γ.sc y && xs.all notStar && bfOk Γ f && A.es Γ xs
  | _ => false
def ck : Ez → Ck
  | .non => .ofE fun _ x => match x with
    | .Constant .none _ _ => true
    | _ => false
  | .bl b => .ofE fun _ x => match x with
    | .Constant (.bool c) _ _ => b == c
    | _ => false
  | .int i => .ofE fun _ x => match x with
    | .Constant (.int j) _ _ => decide (i = j)
    | _ => false
  | .str s => .ofE fun _ x => match x with
    | .Constant (.str t) _ _ => decide (s = t)
    | _ => false
  | .var i => .ofE fun Γ x => match x with
    | .Name y _ => Γ.nm i y && visB Γ.sc y && okNm y
    | _ => false
  | .frz i => .ofE fun Γ x => match x with
    | .Name y _ => Γ.nm i y && visB Γ.sc y && okNm y
    | _ => false
  | .gfn k => .ofE fun Γ x => match x with
    | .Name y _ => (match Γ.fns[k]? with
      | some (z, _) => decide (y = z)
      | none => false) && glB Γ.sc y && okNm y
    | _ => false
  | .gcon k => .ofE fun Γ x => match x with
    | .Name y _ => decide (Γ.cns[k]? = some y) && glB Γ.sc y && okNm y
    | _ => false
  | .gty n => .ofE fun Γ x => match x with
    | .Name y _ => tyOk n && decide (y = Str.ofString n) && glB Γ.sc y
    | _ => false
  | .bin o a b =>
    let f : Cxt → Expr → Bool := fun Γ x => match x with
      | .BinOp l op r _ => decide (op = o.op) && (ck a).e Γ l && (ck b).e Γ r
      | _ => false
    { Ck.ofE f with l := fun Γ x => (decide (o = .add) || decide (o = .mul)) && f Γ x }
  | .neg a => .ofE fun Γ x => match x with
    | .UnaryOp .USub y _ => (ck a).e Γ y
    | _ => false
  | .cmp c a b =>
    let f : Cxt → Expr → Bool := fun Γ x => match x with
      | .Compare l [op] [r] _ => decide (op = c.op) && notSet r && (ck a).e Γ l && (ck b).e Γ r
      | _ => false
    { Ck.ofE f with t := f }
  | .chain c c' a b d =>
    let f : Cxt → Expr → Bool := fun Γ x => match x with
      | .Compare l [op, op'] [m, r] _ => decide (op = c.op) && decide (op' = c'.op) && notSet r && notSet m && (ck a).e Γ l && (ck b).e Γ m && (ck d).e Γ r
      | _ => false
    { Ck.ofE f with t := f }
  | .bool o es =>
    { Ck.ofE fun Γ x => match x with
      | .BoolOp op vs _ => decide (op = o) && (ck es).b Γ o vs
      | _ => false with
      t := fun Γ x => match x with
      | .BoolOp op vs _ => decide (op = o) && (ck es).bt Γ o vs
      | _ => false }
  | .not a =>
    { Ck.ofE fun Γ x => match x with
      | .UnaryOp .Not y _ => (ck a).e Γ y
      | _ => false with
      t := fun Γ x => match x with
      | .UnaryOp .Not y _ => (ck a).t Γ y
      | _ => false }
  | .ife c a b => .ofE fun Γ x => match x with
    | .IfExp t l r _ => (ck c).t Γ t && (ck a).e Γ l && (ck b).e Γ r
    | _ => false
  | .tup es => .ofE fun Γ x => match x with
    | .Tuple xs _ _ => (ck es).es Γ xs
    | _ => false
  | .lst es =>
    let f : Cxt → Expr → Bool := fun Γ x => match x with
      | .List xs _ => (ck es).es Γ xs
      | _ => false
    { Ck.ofE f with l := f }
  | .idx a i => .ofE fun Γ x => match x with
    | .Subscript l r _ => notSlice r && (ck a).e Γ l && (ck i).e Γ r
    | _ => false
  | .slc a lo hi =>
    let f : Cxt → Expr → Bool := fun Γ x => match x with
      | .Subscript l (.Slice p q none _) _ => (ck a).e Γ l && (ck lo).p Γ p && (ck hi).p Γ q
      | _ => false
    { Ck.ofE f with l := f }
  | .mkl a => .ofE fun Γ x => (ck a).l Γ x
  | .call k es => .ofE fun Γ x => match x with
    | .Call (.Name y _) xs [] _ => (match Γ.fns[k]? with
      | some (z, n) => decide (y = z) && decide (xs.length = n)
      | none => false) && glB Γ.sc y && okNm y && xs.all notStar && (ck es).es Γ xs
    | _ => false
  | .bf f es =>
    let c := ckBf f (ck es)
    { Ck.ofE c with l := fun Γ x => decide (f = .list) && c Γ x }
  | .lc tg it cond elt =>
    let f := ckLc tg (ck it) (ck cond) (ck elt) (isNil cond)
    { Ck.ofE f with l := f }
  | .range1 a => .ofI fun Γ _ x => match x with
    | .Call (.Name y _) [e] [] _ => decide (y = ("range" : Str)) && glB Γ.sc y && notStar e && (ck a).e Γ e
    | _ => false
  | .range2 a b => .ofI fun Γ _ x => match x with
    | .Call (.Name y _) [e, u] [] _ => decide (y = ("range" : Str)) && glB Γ.sc y && notStar e && notStar u && (ck a).e Γ e && (ck b).e Γ u
    | _ => false
  | .enum a => .ofI fun Γ tp x => match x with
    | .Call (.Name y _) [e] [] _ => tp && decide (y = ("enumerate" : Str)) && glB Γ.sc y && notStar e && (ck a).e Γ e
    | _ => false
  | .zip a b => .ofI fun Γ tp x => match x with
    | .Call (.Name y _) [e, u] [] _ => tp && decide (y = ("zip" : Str)) && glB Γ.sc y && notStar e && notStar u && (ck a).e Γ e && (ck b).e Γ u
    | _ => false
  | .nil => { Ck.ofE (fun _ _ => false) with
      es := fun _ xs => xs.isEmpty
      p := fun _ o => o.isNone }
  | .cons e es => { Ck.ofE (fun _ _ => false) with
      p := fun _ _ => false
      es := fun Γ xs => match xs with
        | y :: ys => notStar y && (ck e).e Γ y && (ck es).es Γ ys
        | [] => false
      b := fun Γ o xs => match xs with
        | [y] => (match es with
          | .nil => true
          | _ => false) && (ck e).e Γ y
        | y :: z :: ys => (match es with
          | .cons _ _ => true
          | _ => false) && (ck e).e Γ y && (ck es).b Γ o (z :: ys)
        | [] => false
      bt := fun Γ o xs => match xs with
        | [y] => (match es with
          | .nil => true
          | _ => false) && (ck e).t Γ y
        | y :: z :: ys => (match es with
          | .cons _ _ => true
          | _ => false) && (ck e).t Γ y && (ck es).bt Γ o (z :: ys)
        | [] => false }
end DL
/-! DL4: what a checked expression does, by the interpreter: readings, operators -/
namespace DL
open PySem PyProof.Rows L2 PySem.Spec

/-- an exception's fields, by its own dict -/
def ExR (G : Gx) (z : List Addr) (xs : List D) (d : Option Addr) (W : Wd) : Prop := match xs with
  | [] => d = none
  | [x] => ∃ dd f v, d = some dd ∧ W.F z dd = some (.xd [(f, v)]) ∧ RpW G z W x v
  | _ => False
def exW (G : Gx) (z : List Addr) (Wx : WX) (σ : L2.St) : Nat → List D → Wd → Prop := fun c xs W => ∀ d, ExR G z xs d W → Wx (.ref (G.ca c)) d σ W.H
/-- the run of f from these slots and this heap -/
def Run (G : Gx) (Wx : WX) {α : Type} (f : Env → M α) (σ : L2.St) (H : Hp) (P : List Addr → α → Wd → Prop) : Prop :=
  ∃ z ρ W, W.H = H ∧ Mok G z W ∧ EnvR G z W ρ σ ∧ Wp G z W (f ρ) (P z) (exW G z Wx σ)
def tD (G : Gx) (Wx : WX) (f : Env → M D) : TE := fun σ H Q => Run G Wx f σ H fun z d W => ∀ v, RpW G z W d v → Q v W.H
def tT (G : Gx) (Wx : WX) (f : Env → M Bool) : TT := fun σ H Q => Run G Wx f σ H fun z b W => Q b W.H
def tA (G : Gx) (Wx : WX) (f : Env → M (List D)) : TA := fun σ H Q => Run G Wx f σ H fun z ds W => ∀ vs, RpsW G z W ds vs → Q vs W.H
def tL (G : Gx) (Wx : WX) (f : Env → M (List D)) : TE := fun σ H Q => Run G Wx f σ H fun z ds W => ∀ vs, RpsW G z W ds vs → ∀ p, W.H p = none → Q (.ref p) (upd W.H p (.lst vs))
def tO (G : Gx) (Wx : WX) (f : Env → M (Option Int)) : TO := fun σ H Q => Run G Wx f σ H fun z o W => Q o W.H
/-- J yields these data -/
def ItR (G : Gx) (F : Hp) (m : List Addr) (J : It) (ds : List D) : Prop :=
  ∀ (z : List Addr) (W : Wd), Mok G z W → Ext F (W.F z) → (∀ (i : Nat) (a : Addr), m[i]? = some a → W.m[i]? = some a) →
    (∀ i d, ds[i]? = some d → J.go i W.H ∧ ∀ x H', J.yld i W.H x H' → ∃ W' : Wd, W'.H = H' ∧ W'.μ = W.μ ∧ Mok G z W' ∧ Le z W W' ∧ RpW G z W' d x) ∧ (∀ i, ds.length ≤ i → J.stop i W.H)
def tI (G : Gx) (Wx : WX) (f : Env → M (List D)) : TI := fun σ H R => Run G Wx f σ H fun z ds W => ∀ J, ItR G (W.F z) W.m J ds → R J W.H

theorem impPE {X : Cx} {e : Expr} {t t' : TE} (h : PE X e t) (hi : ∀ σ H Q, t' σ H Q → t σ H Q) : PE X e t' := ⟨fun pins s σ H Q I q => h.run pins s σ H Q I (hi σ H Q q)⟩
theorem impPT {X : Cx} {e : Expr} {t t' : TT} (h : PT X e t) (hi : ∀ σ H Q, t' σ H Q → t σ H Q) : PT X e t' := ⟨fun pins s σ H Q I q => h.run pins s σ H Q I (hi σ H Q q)⟩
theorem impPW {X : Cx} {e : Expr} {t t' : TT} (h : PW X e t) (hi : ∀ σ H Q, t' σ H Q → t σ H Q) : PW X e t' := ⟨fun w pins s σ H Q I q => h.run w pins s σ H Q I (hi σ H Q q)⟩
theorem impPA {X : Cx} {e : List Expr} {t t' : TA} (h : PA X e t) (hi : ∀ σ H Q, t' σ H Q → t σ H Q) : PA X e t' := ⟨fun w pins s σ H Q I q => h.run w pins s σ H Q I (hi σ H Q q)⟩
theorem impPI {X : Cx} {g e : Expr} {t t' : TI} (h : PI X g e t) (hi : ∀ σ H Q, t' σ H Q → t σ H Q) : PI X g e t' := ⟨fun pins s σ H Q I q => h.run pins s σ H Q I (hi σ H Q q)⟩
theorem impPO {X : Cx} {e : Option Expr} {t t' : TO} (h : PO X e t) (hi : ∀ σ H Q, t' σ H Q → t σ H Q) : PO X e t' := ⟨fun pins s σ H Q I q => h.run pins s σ H Q I (hi σ H Q q)⟩

section
variable {G : Gx} {Wx : WX} {σ : L2.St} {H : Hp} {α : Type} {P : List Addr → α → Wd → Prop} {z : List Addr} {W : Wd}
theorem un1 {f : Env → M D} {op : Env → D → M α} (h : Run G Wx (fun ρ => (f ρ).bind (op ρ)) σ H P) {R : V → Hp → Prop}
    (hr : ∀ z ρ W d v, Mok G z W → EnvR G z W ρ σ → RpW G z W d v → Wp G z W (op ρ d) (P z) (exW G z Wx σ) → R v W.H) : tD G Wx f σ H R := by
  obtain ⟨z, ρ, W, e, k, r, h⟩ := h
  exact ⟨z, ρ, W, e, k, r, h.bind.mono (fun d1 W1 k1 l1 h1 v1 rv1 => hr z ρ W1 d1 v1 k1 (r.le l1) rv1 h1) fun _ _ _ _ _ q => q⟩
theorem bin2 {f g : Env → M D} {op : Env → D → D → M α} (h : Run G Wx (fun ρ => (f ρ).bind fun x => (g ρ).bind fun y => op ρ x y) σ H P) {R : V → V → Hp → Prop}
    (hr : ∀ z ρ W d1 d2 v1 v2, Mok G z W → EnvR G z W ρ σ → RpW G z W d1 v1 → RpW G z W d2 v2 → Wp G z W (op ρ d1 d2) (P z) (exW G z Wx σ) → R v1 v2 W.H) :
    tD G Wx f σ H fun x H1 => tD G Wx g σ H1 fun y H2 => R x y H2 := by
  refine un1 h fun z ρ W d v k r rv h1 => ?_
  exact ⟨z, ρ, W, rfl, k, r, h1.bind.mono (fun d2 W2 k2 l2 h2 v2 rv2 => hr z ρ W2 d d2 v v2 k2 (r.le l2) (rv.le l2) rv2 h2) fun _ _ _ _ _ q => q⟩

/-! ### data read -/
theorem F_sub {b : Addr} {o : HO} (h : W.F z b = some o) : W.H b = some o := (Wd.F_some h).1
theorem sqT_of {a : Addr} {vs : List V} (h : SqT G.K (W.F z) a vs) : SqT G.K W.H a vs := sqT_sub (fun _ _ q => F_sub q) h
theorem sqL_of {a : Addr} {vs : List V} (h : SqL G.K (W.F z) a vs) : SqL G.K W.H a vs := sqL_sub (fun _ _ q => F_sub q) h
theorem Rp.inv_ref {F : Hp} {m : List Addr} {n : Nat} {v : V} (h : Rp G F m (.ref n) v) : ∃ a, v = .ref a ∧ m[n]? = some a := by
  cases h with
  | ref h => exact ⟨_, rfl, h⟩
theorem seqL_ok {Q : List D → Wd → Prop} {Ex : Nat → List D → Wd → Prop} {d : D} {v : V} (k : Mok G z W) (r : RpW G z W d v) (h : Wp G z W (seqL d) Q Ex) :
    ∃ a xs vs, v = .ref a ∧ W.H a = some (.lst vs) ∧ RpsW G z W xs vs ∧ Q xs W := by
  cases d with
  | lst xs =>
    cases r with
    | lst h1 h2 => exact ⟨_, xs, _, rfl, F_sub h1, h2, h W rfl k (Le.refl _ _)⟩
  | ref n =>
    obtain ⟨a, rfl, hm⟩ := r.inv_ref
    cases e : W.μ[n]? with
    | none =>
      have h' : (seqL (.ref n) W.μ).good _ := h
      simp only [seqL, e] at h'
      exact h'.elim
    | some o =>
      have h' : (seqL (.ref n) W.μ).good _ := h
      simp only [seqL, e] at h'
      cases o with
      | lst xs =>
        obtain ⟨vs, h1, h2⟩ := k.ob n a _ hm e
        exact ⟨a, xs, vs, rfl, h1, h2, h' W rfl k (Le.refl _ _)⟩
      | dK _ => exact h'.elim
      | dT _ => exact h'.elim
      | fro _ => exact h'.elim
      | cup => exact h'.elim
  | _ => exact (show False from h).elim
theorem seqA_ok {Q : List D → Wd → Prop} {Ex : Nat → List D → Wd → Prop} {d : D} {v : V} (k : Mok G z W) (r : RpW G z W d v) (h : Wp G z W (seqA d) Q Ex) :
    ∃ a xs vs, v = .ref a ∧ (SqL G.K W.H a vs ∨ SqT G.K W.H a vs) ∧ RpsW G z W xs vs ∧ Q xs W ∧ ((∃ ds, d = .tup ds) → SqT G.K W.H a vs ∧ SqT G.K (W.F z) a vs) ∧ ((∀ ds, d ≠ .tup ds) → W.H a = some (.lst vs)) := by
  cases d with
  | tup xs =>
    cases r with
    | tup h1 h2 => exact ⟨_, xs, _, rfl, .inr (sqT_of h1), h2, h W rfl k (Le.refl _ _), fun _ => ⟨sqT_of h1, h1⟩, fun q => absurd rfl (q xs)⟩
  | lst xs =>
    obtain ⟨a, xs, vs, e, h1, h2, h3⟩ := seqL_ok k r (show Wp G z W (seqL (.lst xs)) Q Ex from h)
    exact ⟨a, xs, vs, e, .inl (SqL.of h1), h2, h3, fun ⟨_, q⟩ => (nomatch q), fun _ => h1⟩
  | ref n =>
    obtain ⟨a, xs, vs, e, h1, h2, h3⟩ := seqL_ok k r (show Wp G z W (seqL (.ref n)) Q Ex from h)
    exact ⟨a, xs, vs, e, .inl (SqL.of h1), h2, h3, fun ⟨_, q⟩ => (nomatch q), fun _ => h1⟩
  | _ => exact (show False from h).elim

/-! ### data compared -/
mutual
theorem dp_of (k : True) : ∀ {d : D} {v : V} {y : PyData}, RpW G z W d v → d.py = some y → Dp G.K W.H v y
  | .non, _, _, .non, e => by cases e; exact .non
  | .bl b, _, _, .bl _, e => by cases e; exact .bl b
  | .int i, _, _, .int _, e => by cases e; exact .int i
  | .str x, _, _, .str _, e => by cases e; exact .str x
  | .tup xs, _, y, .tup h r, e => by
    simp only [D.py] at e
    cases q : D.pys xs with
    | none => rw [q] at e; cases e
    | some ys =>
      rw [q] at e
      cases e
      exact .tup (sqT_of h) (dps_of k r q)
  | .lst xs, _, y, .lst h r, e => by
    simp only [D.py] at e
    cases q : D.pys xs with
    | none => rw [q] at e; cases e
    | some ys =>
      rw [q] at e
      cases e
      exact .lst (SqL.of (F_sub h)) (dps_of k r q)
  | .ref _, _, _, _, e => by cases e
  | .fn _, _, _, _, e => by cases e
  | .cls _, _, _, _, e => by cases e
  | .ty _, _, _, _, e => by cases e
  | .scr _, _, _, _, e => by cases e
theorem dps_of (k : True) : ∀ {d : List D} {v : List V} {y : List PyData}, RpsW G z W d v → D.pys d = some y → DpAll G.K W.H v y
  | [], _, _, .nil, e => by cases e; exact .nil
  | d :: ds, _, y, .cons h t, e => by
    simp only [D.pys] at e
    cases q1 : d.py with
    | none => rw [q1] at e; cases e
    | some y1 =>
      cases q2 : D.pys ds with
      | none => rw [q1, q2] at e; cases e
      | some ys =>
        rw [q1, q2] at e
        cases e
        exact .cons (dp_of k h q1) (dps_of k t q2)
end
theorem eqv_dp {a b : D} {v w' : V} {c : Bool} (ra : RpW G z W a v) (rb : RpW G z W b w') (h : D.eqv a b = some c) :
    ∃ d e, Dp G.K W.H v d ∧ Dp G.K W.H w' e ∧ SeqAt.shaped d = true ∧ SeqAt.shaped e = true ∧ PyData.eqv d e = c := by
  unfold D.eqv at h
  cases q1 : a.py with
  | none => rw [q1] at h; cases h
  | some x =>
    cases q2 : b.py with
    | none => rw [q1, q2] at h; cases h
    | some y =>
      rw [q1, q2] at h
      simp only at h
      split at h
      · rename_i hs
        simp only [Bool.and_eq_true] at hs
        cases h
        exact ⟨x, y, dp_of trivial ra q1, dp_of trivial rb q2, hs.1, hs.2, rfl⟩
      · cases h
theorem flat_of {d : D} {v : V} (r : RpW G z W d v) (h : d.flat = true) : flatV v = true := by
  cases r <;> first | rfl | cases h
theorem flats_of : ∀ {ds : List D} {vs : List V}, RpsW G z W ds vs → ds.all D.flat = true → vs.all flatV = true
  | _, _, .nil, _ => rfl
  | _, _, .cons h t, e => by
    simp only [List.all_cons, Bool.and_eq_true] at e ⊢
    exact ⟨flat_of h e.1, flats_of t e.2⟩
theorem eqF_of {a b : D} {v w' : V} (ra : RpW G z W a v) (rb : RpW G z W b w') (ha : a.flat = true) (hb : b.flat = true) : eqV v w' = D.eqF a b := by
  cases ra <;> first | (cases ha; done) | skip
  all_goals (cases rb <;> first | (cases hb; done) | rfl)
theorem inV_of {a : D} {v : V} (ra : RpW G z W a v) (ha : a.flat = true) : ∀ {ds : List D} {vs : List V}, RpsW G z W ds vs → ds.all D.flat = true → inV v vs = ds.any fun y => D.eqF y a
  | _, _, .nil, _ => rfl
  | _, _, .cons h t, e => by
    simp only [List.all_cons, Bool.and_eq_true] at e
    have ih := inV_of ra ha t e.2
    unfold inV at ih ⊢
    rw [List.any_cons, List.any_cons, ih, eqF_of h ra e.1 ha]
theorem ints_of : ∀ {ds : List D} {vs : List V} {is : List Int}, RpsW G z W ds vs → intsOf ds = some is → vs = is.map V.int
  | [], _, _, .nil, e => by cases e; rfl
  | d :: ds, _, is, .cons h t, e => by
    cases d with
    | int i =>
      simp only [intsOf] at e
      cases q : intsOf ds with
      | none => rw [q] at e; cases e
      | some js =>
        rw [q] at e
        cases e
        cases h
        rw [ints_of t q]
        rfl
    | _ => cases e
theorem bls_of : ∀ {ds : List D} {vs : List V} {is : List Bool}, RpsW G z W ds vs → blsOf ds = some is → vs = is.map V.bl
  | [], _, _, .nil, e => by cases e; rfl
  | d :: ds, _, is, .cons h t, e => by
    cases d with
    | bl i =>
      simp only [blsOf] at e
      cases q : blsOf ds with
      | none => rw [q] at e; cases e
      | some js =>
        rw [q] at e
        cases e
        cases h
        rw [bls_of t q]
        rfl
    | _ => cases e
theorem atI_of {ds : List D} {vs : List V} {i : Int} {d : D} (r : RpsW G z W ds vs) (h : atI ds i = some d) : ∃ v, atI vs i = some v ∧ RpW G z W d v := by
  unfold atI at h ⊢
  rw [← r.len]
  cases q : ixN ds.length i with
  | none => rw [q] at h; cases h
  | some j =>
    rw [q] at h
    exact r.get (i := j) (d := d) h
theorem cut_of {ds : List D} {vs : List V} {lo hi : Option Int} (r : RpsW G z W ds vs) : RpsW G z W (cut ds lo hi) (cutV vs lo hi) := by
  unfold cut cutV
  rw [r.len]
  exact (r.drop _).take _
theorem truth_ok {Q : Bool → Wd → Prop} {Ex : Nat → List D → Wd → Prop} {d : D} {v : V} (k : Mok G z W) (r : RpW G z W d v) (h : Wp G z W (truth d) Q Ex) :
    ∃ b, TruV G.K v W.H b ∧ Q b W := by
  cases d with
  | non => cases r; exact ⟨_, rfl, h.pure0 k⟩
  | bl b => cases r; exact ⟨_, rfl, h.pure0 k⟩
  | int i => cases r; exact ⟨_, rfl, h.pure0 k⟩
  | str x =>
    cases r
    rcases (show Wp G z W (if x.length ≤ sizeLine then M.pure ((x.length : Int) != 0) else M.bad) Q Ex from h).ite with ⟨q, h⟩ | ⟨q, h⟩
    · exact ⟨_, ⟨q, rfl⟩, h.pure0 k⟩
    · exact h.bad.elim
  | tup xs =>
    cases r with
    | @tup a vs ds h1 h2 =>
      refine ⟨_, .inr (.inl ⟨_, sqT_of h1, rfl⟩), ?_⟩
      have := h.pure0 k
      have e : (!xs.isEmpty) = !vs.isEmpty := by
        cases h2 <;> rfl
      rw [← e]
      exact this
  | lst xs =>
    cases r with
    | @lst a vs ds h1 h2 =>
      refine ⟨_, .inl ⟨_, SqL.of (F_sub h1), rfl⟩, ?_⟩
      have := h.pure0 k
      have e : (!xs.isEmpty) = !vs.isEmpty := by
        cases h2 <;> rfl
      rw [← e]
      exact this
  | ref n =>
    obtain ⟨a, rfl, hm⟩ := r.inv_ref
    cases e : W.μ[n]? with
    | none =>
      have h' : (truth (.ref n) W.μ).good _ := h
      simp only [truth, e] at h'
      exact h'.elim
    | some o =>
      have h' : (truth (.ref n) W.μ).good _ := h
      simp only [truth, e] at h'
      cases o with
      | lst xs =>
        obtain ⟨vs, h1, h2⟩ := k.ob n a _ hm e
        refine ⟨_, .inl ⟨_, SqL.of h1, rfl⟩, ?_⟩
        have := h' W rfl k (Le.refl _ _)
        have e : (!xs.isEmpty) = !vs.isEmpty := by
          cases h2 <;> rfl
        rw [← e]
        exact this
      | dK kvs =>
        obtain ⟨vs, h1, h2⟩ := k.ob n a _ hm e
        refine ⟨_, .inr (.inr ⟨_, h1, rfl⟩), ?_⟩
        have := h' W rfl k (Le.refl _ _)
        have e : (!kvs.isEmpty) = !vs.isEmpty := by
          cases h2 <;> rfl
        rw [← e]
        exact this
      | dT _ => exact h'.elim
      | fro _ => exact h'.elim
      | cup => exact h'.elim
  | _ => exact (show False from h).elim
/-- the answer is a new tuple -/
theorem new_tup {ds : List D} {vs : List V} {Q : VK} {Ex : Nat → List D → Wd → Prop} (k : Mok G z W) (r : RpsW G z W ds vs) (h : Wp G z W (M.pure (.tup ds)) (fun d W' => ∀ v, RpW G z W' d v → Q v W'.H) Ex) :
    ∀ p, W.H p = none → Q (.ref p) (upd W.H p (.tup vs)) := fun p hp => by
  obtain ⟨k1, l1, f1⟩ := k.new (o := .tup vs) hp
  exact h.pure ⟨W.m, W.μ, upd W.H p (.tup vs)⟩ rfl k1 l1 (.ref p) (.tup (SqT.of f1) (r.le l1))
theorem new_lst {ds : List D} {vs : List V} {Q : VK} {Ex : Nat → List D → Wd → Prop} (k : Mok G z W) (r : RpsW G z W ds vs) (h : Wp G z W (M.pure (.lst ds)) (fun d W' => ∀ v, RpW G z W' d v → Q v W'.H) Ex) :
    ∀ p, W.H p = none → Q (.ref p) (upd W.H p (.lst vs)) := fun p hp => by
  obtain ⟨k1, l1, f1⟩ := k.new (o := .lst vs) hp
  exact h.pure ⟨W.m, W.μ, upd W.H p (.lst vs)⟩ rfl k1 l1 (.ref p) (.lst f1 (r.le l1))
/-- from a new list to its datum -/
theorem tD_of_tL {f : Env → M (List D)} {Q : VK} (h : tD G Wx (fun ρ => (f ρ).bind fun xs => M.pure (.lst xs)) σ H Q) : tL G Wx f σ H Q := by
  obtain ⟨z, ρ, W, e, k, r, h⟩ := h
  exact ⟨z, ρ, W, e, k, r, h.bind.mono (fun ds W1 k1 l1 h1 vs rv p hp => new_lst k1 rv h1 p hp) fun _ _ _ _ _ q => q⟩
end
end DL
/-! DL5: operators, built-ins by data -/
namespace DL
open PySem PyProof.Rows L2 PySem.Spec

/-- what is wanted of an answer -/
abbrev Wt (G : Gx) (z : List Addr) (Q : VK) : D → Wd → Prop := fun d W' => ∀ v, RpW G z W' d v → Q v W'.H
abbrev WtL (G : Gx) (z : List Addr) (Q : VK) : List D → Wd → Prop := fun ds W' => ∀ vs, RpsW G z W' ds vs → ∀ p, W'.H p = none → Q (.ref p) (upd W'.H p (.lst vs))
section
variable {G : Gx} {z : List Addr} {W : Wd} {Q : VK} {Ex : Nat → List D → Wd → Prop}
theorem catL {xs ys : List D} {vs us : List V} (k : Mok G z W) (r1 : RpsW G z W xs vs) (r2 : RpsW G z W ys us) (h : Wp G z W (if xs.length + ys.length ≤ sizeLine then M.pure (xs ++ ys) else M.bad) (WtL G z Q) Ex) :
    vs.length + us.length ≤ sizeLine ∧ ∀ p, W.H p = none → Q (.ref p) (upd W.H p (.lst (vs ++ us))) := by
  rcases h.ite with ⟨q, h⟩ | ⟨q, h⟩
  · exact ⟨by rw [← r1.len, ← r2.len]; exact q, fun p hp => h.pure0 k _ (r1.append r2) p hp⟩
  · exact h.bad.elim
/-- operators that make new lists -/
theorem binL_ok {X : Cx} (hK : X.K = G.K) (o : Op2) (ho : o = .add ∨ o = .mul) : ∃ r : R2, OpR X (binaryOp o.op) r ∧
    ∀ (z : List Addr) (W : Wd) (d1 d2 : D) (v1 v2 : V) (Q : VK) (Ex : Nat → List D → Wd → Prop), Mok G z W → RpW G z W d1 v1 → RpW G z W d2 v2 → Wp G z W (binopL o d1 d2) (WtL G z Q) Ex → r v1 v2 W.H Q := by
  rcases ho with rfl | rfl
  · refine ⟨_, op_cat, fun z W d1 d2 v1 v2 Q Ex k r1 r2 h => ?_⟩
    have h : Wp G z W ((seqL d1).bind fun xs => (seqL d2).bind fun ys => if xs.length + ys.length ≤ sizeLine then M.pure (xs ++ ys) else M.bad) (WtL G z Q) Ex := h
    obtain ⟨a, xs, vs, rfl, h1, h2, h3⟩ := seqL_ok k r1 h.bind
    obtain ⟨b, ys, us, rfl, g1, g2, g3⟩ := seqL_ok k r2 h3.bind
    obtain ⟨q1, q2⟩ := catL k h2 g2 g3
    exact ⟨a, b, vs, us, rfl, rfl, h1, g1, q1, q2⟩
  · refine ⟨_, op_rep, fun z W d1 d2 v1 v2 Q Ex k r1 r2 h => ?_⟩
    cases d2 with
    | int i =>
      have h : Wp G z W ((seqL d1).bind fun xs => if (-(2 ^ 63) ≤ i ∧ i < 2 ^ 63) ∧ xs.length * i.toNat ≤ sizeLine then M.pure (List.replicate i.toNat xs).flatten else M.bad) (WtL G z Q) Ex := h
      obtain ⟨a, xs, vs, rfl, h1, h2, h3⟩ := seqL_ok k r1 h.bind
      cases r2
      rcases h3.ite with ⟨q, h3⟩ | ⟨q, h3⟩
      · exact ⟨a, i, vs, rfl, rfl, h1, q.1.1, q.1.2, by rw [← h2.len]; exact q.2, fun p hp => h3.pure0 k _ (h2.rep _) p hp⟩
      · exact h3.bad.elim
    | _ => exact (show False from h).elim
/-- the datum of a new list -/
theorem datum_of {f : M (List D)} (h : Wp G z W (f.bind fun xs => M.pure (.lst xs)) (Wt G z Q) Ex) : Wp G z W f (WtL G z Q) Ex :=
  h.bind.mono (fun ds W1 k1 l1 h1 vs rv p hp => new_lst k1 rv h1 p hp) fun _ _ _ _ _ q => q
theorem add_cases {P : D → Wd → Prop} {a b : D} (h : Wp G z W (binop .add a b) P Ex) : (∃ i j, a = .int i ∧ b = .int j ∧ Wp G z W (M.pure (.int (i + j))) P Ex) ∨
    (∃ xs ys, a = .tup xs ∧ b = .tup ys ∧ Wp G z W (if xs.length + ys.length ≤ sizeLine then M.pure (.tup (xs ++ ys)) else M.bad) P Ex) ∨
    (∃ x y, a = .str x ∧ b = .str y ∧ Wp G z W (if x.length + y.length ≤ sizeLine then M.pure (.str (x ++ y)) else M.bad) P Ex) ∨
    Wp G z W ((binopL .add a b).bind fun xs => M.pure (.lst xs)) P Ex := by
  cases a <;> cases b <;> first
    | exact .inl ⟨_, _, rfl, rfl, h⟩
    | exact .inr (.inl ⟨_, _, rfl, rfl, h⟩)
    | exact .inr (.inr (.inl ⟨_, _, rfl, rfl, h⟩))
    | exact .inr (.inr (.inr h))
theorem mul_cases {P : D → Wd → Prop} {a b : D} (h : Wp G z W (binop .mul a b) P Ex) : (∃ i j, a = .int i ∧ b = .int j ∧ ((((-(2 ^ 64) < i ∧ i < 2 ^ 64) ∨ (-(2 ^ 64) < j ∧ j < 2 ^ 64)) ∨ i.natAbs.log2 + j.natAbs.log2 < 1000000) ∧ Wp G z W (M.pure (.int (i * j))) P Ex)) ∨
    Wp G z W ((binopL .mul a b).bind fun xs => M.pure (.lst xs)) P Ex := by
  by_cases q : ∃ i j, a = .int i ∧ b = .int j
  · obtain ⟨i, j, rfl, rfl⟩ := q
    refine .inl ⟨i, j, rfl, rfl, ?_⟩
    have h : Wp G z W (if (decide (-(2 ^ 64) < i) && decide (i < 2 ^ 64)) || (decide (-(2 ^ 64) < j) && decide (j < 2 ^ 64)) then M.pure (.int (i * j)) else if i.natAbs.log2 + j.natAbs.log2 < 1000000 then M.pure (.int (i * j)) else M.bad) P Ex := h
    rcases h.ite with ⟨c, h⟩ | ⟨c, h⟩
    · refine ⟨.inl ?_, h⟩
      simpa only [Bool.or_eq_true, Bool.and_eq_true, decide_eq_true_eq] using c
    · rcases h.ite with ⟨c, h⟩ | ⟨c, h⟩
      · exact ⟨.inr c, h⟩
      · exact h.bad.elim
  · refine .inr ?_
    cases a <;> first
      | exact h
      | (cases b <;> first | exact h | exact absurd ⟨_, _, rfl, rfl⟩ q)
theorem ints_cases {P : D → Wd → Prop} {a b : D} {o : Op2} (ho : o ≠ .add) (ho2 : o ≠ .mul) (h : Wp G z W (binop o a b) P Ex) : ∃ i j, a = .int i ∧ b = .int j := by
  cases a with
  | int i =>
    cases b with
    | int j => exact ⟨i, j, rfl, rfl⟩
    | _ => cases o <;> first | exact absurd rfl ho | exact absurd rfl ho2 | exact (show False from h).elim
  | _ => cases o <;> first | exact absurd rfl ho | exact absurd rfl ho2 | exact (show False from h).elim
theorem bin_ok {X : Cx} (hK : X.K = G.K) (o : Op2) : ∃ r : R2, OpR X (binaryOp o.op) r ∧
    ∀ (z : List Addr) (W : Wd) (d1 d2 : D) (v1 v2 : V) (Q : VK) (Ex : Nat → List D → Wd → Prop), Mok G z W → RpW G z W d1 v1 → RpW G z W d2 v2 → Wp G z W (binop o d1 d2) (Wt G z Q) Ex → r v1 v2 W.H Q := by
  by_cases ha : o = .add
  · subst ha
    obtain ⟨rl, hl, hl2⟩ := binL_ok (X := X) hK .add (.inl rfl)
    refine ⟨_, op_add.or (op_catA.or (op_add_str.or hl)), fun z W d1 d2 v1 v2 Q Ex k r1 r2 h => ?_⟩
    rcases add_cases h with ⟨i, j, rfl, rfl, h⟩ | ⟨xs, ys, rfl, rfl, h⟩ | ⟨x, y, rfl, rfl, h⟩ | h
    · cases r1
      cases r2
      exact .inl ⟨i, j, rfl, rfl, h.pure0 k _ (.int _)⟩
    · rcases h.ite with ⟨q, h⟩ | ⟨q, h⟩
      · cases r1 with
        | @tup a vs ds h1 g1 =>
          cases r2 with
          | @tup b us es h2 g2 =>
            refine .inr (.inl ⟨a, b, vs, us, rfl, rfl, ?_, ?_, by rw [← g1.len, ← g2.len]; exact q, fun e => ?_, fun _ e => ?_, fun _ _ => new_tup k (g1.append g2) h⟩)
            · rw [hK]; exact sqT_of h1
            · rw [hK]; exact sqT_of h2
            · subst e
              cases g1
              exact h.pure0 k _ (.tup h2 g2)
            · subst e
              cases g2
              rw [List.append_nil] at h
              exact h.pure0 k _ (.tup h1 g1)
      · exact h.bad.elim
    · rcases h.ite with ⟨q, h⟩ | ⟨q, h⟩
      · cases r1
        cases r2
        exact .inr (.inr (.inl ⟨x, y, rfl, rfl, q, h.pure0 k _ (.str _)⟩))
      · exact h.bad.elim
    · exact .inr (.inr (.inr (hl2 z W d1 d2 v1 v2 Q Ex k r1 r2 (datum_of h))))
  by_cases hm : o = .mul
  · subst hm
    obtain ⟨rl, hl, hl2⟩ := binL_ok (X := X) hK .mul (.inr rfl)
    refine ⟨_, op_mul.or (op_mulW.or hl), fun z W d1 d2 v1 v2 Q Ex k r1 r2 h => ?_⟩
    rcases mul_cases h with ⟨i, j, rfl, rfl, c, h⟩ | h
    · cases r1
      cases r2
      rcases c with c | c
      · exact .inl ⟨i, j, rfl, rfl, c, h.pure0 k _ (.int _)⟩
      · exact .inr (.inl ⟨i, j, rfl, rfl, c, h.pure0 k _ (.int _)⟩)
    · exact .inr (.inr (hl2 z W d1 d2 v1 v2 Q Ex k r1 r2 (datum_of h)))
  cases o with
  | add => exact absurd rfl ha
  | mul => exact absurd rfl hm
  | sub =>
    refine ⟨_, op_sub, fun z W d1 d2 v1 v2 Q Ex k r1 r2 h => ?_⟩
    obtain ⟨i, j, rfl, rfl⟩ := ints_cases ha hm h
    cases r1
    cases r2
    exact ⟨i, j, rfl, rfl, h.pure0 k _ (.int _)⟩
  | fdiv =>
    refine ⟨_, op_fdivN.or op_fdivW, fun z W d1 d2 v1 v2 Q Ex k r1 r2 h => ?_⟩
    obtain ⟨i, j, rfl, rfl⟩ := ints_cases ha hm h
    cases r1
    cases r2
    have h : Wp G z W (if j ≠ 0 ∧ j.natAbs < 1073741824 then M.pure (.int (i.fdiv j)) else if 0 < j ∧ j.natAbs.log2 < 9000 then M.pure (.int (i.fdiv j)) else M.bad) (Wt G z Q) Ex := h
    rcases h.ite with ⟨c, h⟩ | ⟨c, h⟩
    · exact .inl ⟨i, j, rfl, rfl, c, h.pure0 k _ (.int _)⟩
    · rcases h.ite with ⟨c, h⟩ | ⟨c, h⟩
      · refine .inr ⟨i, j, rfl, rfl, c, ?_⟩
        have e : i / j = i.fdiv j := (Int.fdiv_eq_ediv_of_nonneg i (Int.le_of_lt c.1)).symm
        show Q (.int (i / j)) W.H
        rw [e]
        exact h.pure0 k _ (.int _)
      · exact h.bad.elim
  | mod =>
    refine ⟨_, op_modN, fun z W d1 d2 v1 v2 Q Ex k r1 r2 h => ?_⟩
    obtain ⟨i, j, rfl, rfl⟩ := ints_cases ha hm h
    cases r1
    cases r2
    rcases (show Wp G z W (if j ≠ 0 then M.pure (.int (i.fmod j)) else M.bad) (Wt G z Q) Ex from h).ite with ⟨c, h⟩ | ⟨c, h⟩
    · exact ⟨i, j, rfl, rfl, c, h.pure0 k _ (.int _)⟩
    · exact h.bad.elim
  | pow =>
    refine ⟨_, op_pow, fun z W d1 d2 v1 v2 Q Ex k r1 r2 h => ?_⟩
    obtain ⟨i, j, rfl, rfl⟩ := ints_cases ha hm h
    cases r1
    cases r2
    rcases (show Wp G z W (if 0 ≤ j ∧ j ≤ 1000000 ∧ i.natAbs < 2 ^ 64 then M.pure (.int (i ^ j.toNat)) else M.bad) (Wt G z Q) Ex from h).ite with ⟨c, h⟩ | ⟨c, h⟩
    · exact ⟨i, j, rfl, rfl, c, h.pure0 k _ (.int _)⟩
    · exact h.bad.elim
  | shl =>
    refine ⟨_, op_shl, fun z W d1 d2 v1 v2 Q Ex k r1 r2 h => ?_⟩
    obtain ⟨i, j, rfl, rfl⟩ := ints_cases ha hm h
    cases r1
    cases r2
    rcases (show Wp G z W (if 0 ≤ j ∧ j ≤ 1000000 ∧ i.natAbs < 2 ^ 64 then M.pure (.int (i * 2 ^ j.toNat)) else M.bad) (Wt G z Q) Ex from h).ite with ⟨c, h⟩ | ⟨c, h⟩
    · exact ⟨i, j, rfl, rfl, c, h.pure0 k _ (.int _)⟩
    · exact h.bad.elim
  | shr =>
    refine ⟨_, op_shr, fun z W d1 d2 v1 v2 Q Ex k r1 r2 h => ?_⟩
    obtain ⟨i, j, rfl, rfl⟩ := ints_cases ha hm h
    cases r1
    cases r2
    rcases (show Wp G z W (if 0 ≤ j then M.pure (.int (i / 2 ^ j.toNat)) else M.bad) (Wt G z Q) Ex from h).ite with ⟨c, h⟩ | ⟨c, h⟩
    · exact ⟨i, j, rfl, rfl, c, h.pure0 k _ (.int _)⟩
    · exact h.bad.elim
  | band =>
    refine ⟨_, op_and, fun z W d1 d2 v1 v2 Q Ex k r1 r2 h => ?_⟩
    obtain ⟨i, j, rfl, rfl⟩ := ints_cases ha hm h
    cases r1
    cases r2
    exact ⟨i, j, rfl, rfl, h.pure0 k _ (.int _)⟩
  | bor =>
    refine ⟨_, op_or, fun z W d1 d2 v1 v2 Q Ex k r1 r2 h => ?_⟩
    obtain ⟨i, j, rfl, rfl⟩ := ints_cases ha hm h
    cases r1
    cases r2
    exact ⟨i, j, rfl, rfl, h.pure0 k _ (.int _)⟩
  | bxor =>
    refine ⟨_, op_xor, fun z W d1 d2 v1 v2 Q Ex k r1 r2 h => ?_⟩
    obtain ⟨i, j, rfl, rfl⟩ := ints_cases ha hm h
    cases r1
    cases r2
    exact ⟨i, j, rfl, rfl, h.pure0 k _ (.int _)⟩
theorem cmp_ints {P : D → Wd → Prop} {a b : D} {c : Cp} (hc : c = .lt ∨ c = .le ∨ c = .gt ∨ c = .ge) (h : Wp G z W (cmpop c a b) P Ex) : ∃ i j, a = .int i ∧ b = .int j := by
  cases a with
  | int i =>
    cases b with
    | int j => exact ⟨i, j, rfl, rfl⟩
    | _ => rcases hc with rfl | rfl | rfl | rfl <;> exact (show False from h).elim
  | _ => rcases hc with rfl | rfl | rfl | rfl <;> exact (show False from h).elim
theorem non_of {a : D} {v : V} (r : RpW G z W a v) : a.isNon = decide (v = .non) := by
  cases r <;> rfl
theorem cmp_ok {X : Cx} (hK : X.K = G.K) (hu : X.A.units + 64 < cLine) (c : Cp) : ∃ r : R2, OpR X (compareOp c.op) r ∧
    ∀ (z : List Addr) (W : Wd) (d1 d2 : D) (v1 v2 : V) (Q : VK) (Ex : Nat → List D → Wd → Prop), Mok G z W → RpW G z W d1 v1 → RpW G z W d2 v2 → Wp G z W (cmpop c d1 d2) (Wt G z Q) Ex → r v1 v2 W.H Q := by
  cases c with
  | eq =>
    refine ⟨_, op_eqD hu, fun z W d1 d2 v1 v2 Q Ex k r1 r2 h => ?_⟩
    have h : Wp G z W (match D.eqv d1 d2 with | some k => M.pure (.bl k) | none => M.bad) (Wt G z Q) Ex := h
    cases e : D.eqv d1 d2 with
    | none => rw [e] at h; exact h.bad.elim
    | some b =>
      rw [e] at h
      obtain ⟨x, y, h1, h2, h3, h4, h5⟩ := eqv_dp r1 r2 e
      refine ⟨x, y, ?_, ?_, h3, h4, ?_⟩
      · rw [hK]; exact h1
      · rw [hK]; exact h2
      · rw [h5]
        exact h.pure0 k _ (.bl _)
  | ne =>
    refine ⟨_, op_neD hu, fun z W d1 d2 v1 v2 Q Ex k r1 r2 h => ?_⟩
    have h : Wp G z W (match D.eqv d1 d2 with | some k => M.pure (.bl !k) | none => M.bad) (Wt G z Q) Ex := h
    cases e : D.eqv d1 d2 with
    | none => rw [e] at h; exact h.bad.elim
    | some b =>
      rw [e] at h
      obtain ⟨x, y, h1, h2, h3, h4, h5⟩ := eqv_dp r1 r2 e
      refine ⟨x, y, ?_, ?_, h3, h4, ?_⟩
      · rw [hK]; exact h1
      · rw [hK]; exact h2
      · rw [h5]
        exact h.pure0 k _ (.bl _)
  | lt =>
    refine ⟨_, op_lt, fun z W d1 d2 v1 v2 Q Ex k r1 r2 h => ?_⟩
    obtain ⟨i, j, rfl, rfl⟩ := cmp_ints (.inl rfl) h
    cases r1
    cases r2
    exact ⟨i, j, rfl, rfl, h.pure0 k _ (.bl _)⟩
  | le =>
    refine ⟨_, op_le, fun z W d1 d2 v1 v2 Q Ex k r1 r2 h => ?_⟩
    obtain ⟨i, j, rfl, rfl⟩ := cmp_ints (.inr (.inl rfl)) h
    cases r1
    cases r2
    exact ⟨i, j, rfl, rfl, h.pure0 k _ (.bl _)⟩
  | gt =>
    refine ⟨_, op_gt, fun z W d1 d2 v1 v2 Q Ex k r1 r2 h => ?_⟩
    obtain ⟨i, j, rfl, rfl⟩ := cmp_ints (.inr (.inr (.inl rfl))) h
    cases r1
    cases r2
    exact ⟨i, j, rfl, rfl, h.pure0 k _ (.bl _)⟩
  | ge =>
    refine ⟨_, op_ge, fun z W d1 d2 v1 v2 Q Ex k r1 r2 h => ?_⟩
    obtain ⟨i, j, rfl, rfl⟩ := cmp_ints (.inr (.inr (.inr rfl))) h
    cases r1
    cases r2
    exact ⟨i, j, rfl, rfl, h.pure0 k _ (.bl _)⟩
  | isN =>
    refine ⟨_, op_isN, fun z W d1 d2 v1 v2 Q Ex k r1 r2 h => ?_⟩
    cases d2 with
    | non =>
      cases r2
      refine ⟨rfl, ?_⟩
      rw [← non_of r1]
      exact h.pure0 k _ (.bl _)
    | _ => exact (show False from h).elim
  | notN =>
    refine ⟨_, op_notN, fun z W d1 d2 v1 v2 Q Ex k r1 r2 h => ?_⟩
    cases d2 with
    | non =>
      cases r2
      refine ⟨rfl, ?_⟩
      rw [← non_of r1]
      exact h.pure0 k _ (.bl _)
    | _ => exact (show False from h).elim
  | mem =>
    refine ⟨_, op_in_seq, fun z W d1 d2 v1 v2 Q Ex k r1 r2 h => ?_⟩
    have h : Wp G z W ((seqA d2).bind fun xs => if d1.flat && xs.all D.flat then M.pure (.bl (xs.any fun y => D.eqF y d1)) else M.bad) (Wt G z Q) Ex := h
    obtain ⟨a, xs, vs, rfl, h1, h2, h3, _⟩ := seqA_ok k r2 h.bind
    rcases h3.ite with ⟨q, h⟩ | ⟨q, h⟩
    · simp only [Bool.and_eq_true] at q
      refine ⟨a, vs, rfl, ?_, flat_of r1 q.1, flats_of h2 q.2, ?_⟩
      · rw [hK]; exact h1
      · rw [if_neg Bool.false_ne_true, inV_of r1 q.1 h2 q.2]
        exact h.pure0 k _ (.bl _)
    · exact h.bad.elim
  | nmem =>
    refine ⟨_, op_notIn_seq, fun z W d1 d2 v1 v2 Q Ex k r1 r2 h => ?_⟩
    have h : Wp G z W ((seqA d2).bind fun xs => if d1.flat && xs.all D.flat then M.pure (.bl !(xs.any fun y => D.eqF y d1)) else M.bad) (Wt G z Q) Ex := h
    obtain ⟨a, xs, vs, rfl, h1, h2, h3, _⟩ := seqA_ok k r2 h.bind
    rcases h3.ite with ⟨q, h⟩ | ⟨q, h⟩
    · simp only [Bool.and_eq_true] at q
      refine ⟨a, vs, rfl, ?_, flat_of r1 q.1, flats_of h2 q.2, ?_⟩
      · rw [hK]; exact h1
      · rw [if_pos rfl, inV_of r1 q.1 h2 q.2]
        exact h.pure0 k _ (.bl _)
    · exact h.bad.elim
end
end DL
/-! DL6: built-ins; what a context must give -/
namespace DL
open PySem PyProof.Rows L2 PySem.Spec

def spD (G : Gx) (n : Nat) (f : List D → M D) : Sp := fun vs H Q E => ∃ z ds W, W.H = H ∧ vs.length = n ∧ Mok G z W ∧ RpsW G z W ds vs ∧
  Wp G z W (f ds) (Wt G z Q) (fun c xs W' => ∀ d, ExR G z xs d W' → E (.ref (G.ca c)) d W'.H)
def builtins : List Str := ["len", "abs", "sum", "min", "max", "int", "list", "tuple", "isinstance", "all", "any", "range", "enumerate", "zip", "bool", "str"]
/-- what a context gives to checked text -/
structure Good (G : Gx) (C : Nat → List D → M D) (Kc : Nat → D) (Γ : Cxt) (X : Cx) (Wx : WX) : Prop where
  K : X.K = G.K
  N : X.N = Γ.N
  nd : Γ.N.Nodup
  sc : X.env.scope = Γ.sc
  calm : X.calm = true
  fn : X.fn = (match Γ.own with
    | none => fun _ => true
    | some s => fun x => s.names.lookup x == some .cell)
  tk : Takes X Wx
  room : X.A.units + 64 < cLine
  bi : ∀ x ∈ builtins, X.mg x = none
  con : ∀ k x, Γ.cns[k]? = some x → ∃ v u, X.mg x = some u ∧ RelV v u ∧ ∀ F m, Rp G F m (Kc k) v
  gcd : Γ.gcd = true → X.mg "gcd" = some (.builtin "math.gcd")
  fns : ∀ k x n, Γ.fns[k]? = some (x, n) → X.mg x = some (.ref (G.fa k)) ∧ PySem.W.keepIn X.K (.ref (G.fa k)) = true
  arity : ∀ k x n, Γ.fns[k]? = some (x, n) → ∀ (z : List Addr) (W : Wd) (ds : List D) (P : D → Wd → Prop) (Ex : Nat → List D → Wd → Prop), Wp G z W (C k ds) P Ex → ds.length = n
  calls : ∀ k x n, Γ.fns[k]? = some (x, n) → ∃ j fd ps, Room j X.A ∧ Binds X.K fd ps [] ∧ FnOk X.prog X.w X.K X.mg X.base (L2.CX X.prog X.w) j (G.fa k) fd ps (spD G n (C k))

theorem gl_of {X : Cx} {sc : Scope} {x : Str} (h : X.env.scope = sc) (g : glB sc x = true) : Gl X x := by
  unfold glB at g
  show X.env.scope.names.lookup x = _
  rw [h]
  split at g
  · assumption
  · cases g
theorem vis_of {X : Cx} {sc : Scope} {x : Str} (h : X.env.scope = sc) (g : visB sc x = true) : Vis X.env.scope x := by
  unfold visB at g
  rw [h]
  split at g
  · exact .inl (by assumption)
  · exact .inr (.inl (by assumption))
  · exact .inr (.inr (by assumption))
  · cases g
theorem nm_of {x : Str} (h : okNm x = true) : (x == ("__debug__" : Str)) = false ∧ (x == ("__classdict__" : Str)) = false := by
  unfold okNm at h
  simpa only [Bool.and_eq_true, Bool.not_eq_true'] using h
theorem kit_all : ∀ t ∈ ["NoneType", "bool", "int", "str", "tuple", "list"], ∀ n ∈ ["bool", "int", "str", "tuple", "list"], kitB t n = some (isTy t n) := by decide +kernel
theorem tyOk_mem {n : String} (h : tyOk n = true) : n ∈ ["bool", "int", "str", "tuple", "list"] := by
  unfold tyOk at h
  simp only [Bool.or_eq_true, beq_iff_eq] at h
  rcases h with (((h | h) | h) | h) | h <;> subst h <;> decide
section
variable {G : Gx} {z : List Addr} {W : Wd} {Q : VK} {Ex : Nat → List D → Wd → Prop}
theorem tyX_of {d : D} {v : V} {t : String} (r : RpW G z W d v) (h : tyName d = some t) : t ∈ ["NoneType", "bool", "int", "str", "tuple", "list"] ∧ TyX G.K W.H v (.type t) := by
  cases r with
  | non => cases h; exact ⟨by decide, .base .non⟩
  | bl b => cases h; exact ⟨by decide, .base (.bl b)⟩
  | int i => cases h; exact ⟨by decide, .base (.int i)⟩
  | str x => cases h; exact ⟨by decide, .base (.str x)⟩
  | lst h1 h2 => cases h; exact ⟨by decide, .base (.lst (F_sub h1))⟩
  | tup h1 h2 =>
    cases h
    refine ⟨by decide, ?_⟩
    rcases sqT_of h1 with (q | ⟨o, q⟩) | ⟨o, its, n, q1, q2, _⟩
    · exact .base (.tup q)
    · exact .fTuple q
    · exact .kTuple q1 q2
  | ref _ => cases h
  | fn _ => cases h
  | cls _ => cases h
  | ty _ => cases h
  | scr _ => cases h
theorem rps1 {ds : List D} {v : V} {vs : List V} (r : RpsW G z W ds (v :: vs)) : ∃ d es, ds = d :: es ∧ RpW G z W d v ∧ RpsW G z W es vs := by
  cases r with
  | cons h t => exact ⟨_, _, rfl, h, t⟩
theorem ints_rep : ∀ ns : List Int, RpsW G z W (ns.map D.int) (ns.map V.int)
  | [] => .nil
  | n :: ns => .cons (.int n) (ints_rep ns)
theorem bfL_ok {X : Cx} (hK : X.K = G.K) {d : D} {v : V} (k : Mok G z W) (rv : RpW G z W d v) (h : Wp G z W (bfL .list [d]) (WtL G z Q) Ex) :
    ∃ p ys, [v] = [V.ref p] ∧ (SqL X.K W.H p ys ∨ SqT X.K W.H p ys) ∧ ∀ l, W.H l = none → Q (.ref l) (upd W.H l (.lst ys)) := by
  rw [hK]
  have gen : Wp G z W (seqA d) (WtL G z Q) Ex → ∃ p ys, [v] = [V.ref p] ∧ (SqL G.K W.H p ys ∨ SqT G.K W.H p ys) ∧ ∀ l, W.H l = none → Q (.ref l) (upd W.H l (.lst ys)) := fun h => by
    obtain ⟨a, xs, vs, rfl, h1, h2, h3, _⟩ := seqA_ok k rv h
    exact ⟨a, vs, rfl, h1, fun p hp => h3 vs h2 p hp⟩
  cases d with
  | scr ns =>
    cases rv with
    | @scr a _ h1 => exact ⟨a, _, rfl, .inl (sqL_of h1), fun p hp => (show Wp G z W (M.pure (ns.map D.int)) _ _ from h).pure0 k _ (ints_rep ns) p hp⟩
  | _ => exact gen h
/-- a built-in's call -/
theorem bf_ok {X : Cx} {Γ : Cxt} {C : Nat → List D → M D} {Kc : Nat → D} {Wx : WX} (g : Good G C Kc Γ X Wx) (f : Bf) (hf : bfOk Γ f = true) {t : TA} {p pos : Pos} {e : Expr} {es : List Expr} (hg : Gl X f.name) (ha : PA X (e :: es) t)
    (hs : starEach (e :: es) X.env = (false, eval e X.env) :: starEach es X.env) (hpl : (backTo pos (starEach es X.env)).any (·.1) = false) :
    ∃ r, PE X (.Call (.Name f.name p) (e :: es) [] pos) (tCB r t) ∧
    ∀ (z : List Addr) (W : Wd) (ds : List D) (vs : List V) (Q : VK) (Ex : Nat → List D → Wd → Prop), Mok G z W → RpsW G z W ds vs → Wp G z W (bfop f ds) (Wt G z Q) Ex → r vs W.H Q := by
  have hK := g.K
  cases f with
  | len =>
    refine ⟨_, pe_callB call_len_seq hg (g.bi _ (by decide)) boot_len ha (by decide) (by decide) hs hpl, fun z W ds vs Q Ex k r h => ?_⟩
    match ds, r, h with
    | [d], .cons (v := v) rv .nil, h =>
      obtain ⟨a, xs, us, rfl, h1, h2, h3, _⟩ := seqA_ok k rv (show Wp G z W ((seqA d).bind fun xs => M.pure (.int xs.length)) (Wt G z Q) Ex from h).bind
      refine ⟨a, us, rfl, ?_, ?_⟩
      · rw [hK]; exact h1
      · rw [← h2.len]
        exact h3.pure0 k _ (.int _)
    | [], .nil, h => exact (show False from h).elim
    | _ :: _ :: _, _, h => exact (show False from h).elim
  | abs =>
    refine ⟨_, pe_callB call_abs hg (g.bi _ (by decide)) boot_abs ha (by decide) (by decide) hs hpl, fun z W ds vs Q Ex k r h => ?_⟩
    match ds, r, h with
    | [.int i], .cons (.int _) .nil, h => exact ⟨i, rfl, h.pure0 k _ (.int _)⟩
    | [], .nil, h => exact (show False from h).elim
    | .int _ :: _ :: _, _, h => exact (show False from h).elim
    | .non :: _, _, h => exact (show False from h).elim
    | .bl _ :: _, _, h => exact (show False from h).elim
    | .str _ :: _, _, h => exact (show False from h).elim
    | .tup _ :: _, _, h => exact (show False from h).elim
    | .lst _ :: _, _, h => exact (show False from h).elim
    | .ref _ :: _, _, h => exact (show False from h).elim
    | .fn _ :: _, _, h => exact (show False from h).elim
    | .cls _ :: _, _, h => exact (show False from h).elim
    | .ty _ :: _, _, h => exact (show False from h).elim
    | .scr _ :: _, _, h => exact (show False from h).elim
  | int =>
    refine ⟨_, pe_callTy call_int1 hg (g.bi _ (by decide)) boot_int ha (by decide) (by decide) hs hpl, fun z W ds vs Q Ex k r h => ?_⟩
    match ds, r, h with
    | [.int i], .cons (.int _) .nil, h => exact .inl ⟨i, rfl, h.pure0 k _ (.int _)⟩
    | [], .nil, h => exact (show False from h).elim
    | .int _ :: _ :: _, _, h => exact (show False from h).elim
    | .non :: _, _, h => exact (show False from h).elim
    | .bl _ :: _, _, h => exact (show False from h).elim
    | .str _ :: _, _, h => exact (show False from h).elim
    | .tup _ :: _, _, h => exact (show False from h).elim
    | .lst _ :: _, _, h => exact (show False from h).elim
    | .ref _ :: _, _, h => exact (show False from h).elim
    | .fn _ :: _, _, h => exact (show False from h).elim
    | .cls _ :: _, _, h => exact (show False from h).elim
    | .ty _ :: _, _, h => exact (show False from h).elim
    | .scr _ :: _, _, h => exact (show False from h).elim
  | min2 =>
    refine ⟨_, pe_callB (call_min2 g.calm) hg (g.bi _ (by decide)) boot_min ha (by decide) (by decide) hs hpl, fun z W ds vs Q Ex k r h => ?_⟩
    have q : ∃ i j, ds = [.int i, .int j] := by
      match ds, h with
      | [], h => exact (show False from h).elim
      | [d], h => cases d <;> exact (show False from h).elim
      | [d, e], h => cases d <;> cases e <;> first | exact ⟨_, _, rfl⟩ | exact (show False from h).elim
      | d :: e :: _ :: _, h => cases d <;> cases e <;> exact (show False from h).elim
    obtain ⟨i, j, rfl⟩ := q
    match r with
    | .cons (.int _) (.cons (.int _) .nil) => exact ⟨i, j, rfl, h.pure0 k _ (.int _)⟩
  | max2 =>
    refine ⟨_, pe_callB (call_max2 g.calm) hg (g.bi _ (by decide)) boot_max ha (by decide) (by decide) hs hpl, fun z W ds vs Q Ex k r h => ?_⟩
    have q : ∃ i j, ds = [.int i, .int j] := by
      match ds, h with
      | [], h => exact (show False from h).elim
      | [d], h => cases d <;> exact (show False from h).elim
      | [d, e], h => cases d <;> cases e <;> first | exact ⟨_, _, rfl⟩ | exact (show False from h).elim
      | d :: e :: _ :: _, h => cases d <;> cases e <;> exact (show False from h).elim
    obtain ⟨i, j, rfl⟩ := q
    match r with
    | .cons (.int _) (.cons (.int _) .nil) => exact ⟨i, j, rfl, h.pure0 k _ (.int _)⟩
  | gcd =>
    refine ⟨_, pe_callBfun cr_gcd hg (g.gcd hf) ha (by decide) hs hpl, fun z W ds vs Q Ex k r h => ?_⟩
    have q : ∃ i j, ds = [.int i, .int j] := by
      match ds, h with
      | [], h => exact (show False from h).elim
      | [d], h => cases d <;> exact (show False from h).elim
      | [d, e], h => cases d <;> cases e <;> first | exact ⟨_, _, rfl⟩ | exact (show False from h).elim
      | d :: e :: _ :: _, h => cases d <;> cases e <;> exact (show False from h).elim
    obtain ⟨i, j, rfl⟩ := q
    match r with
    | .cons (.int _) (.cons (.int _) .nil) => exact ⟨i, j, rfl, h.pure0 k _ (.int _)⟩
  | sum =>
    refine ⟨_, pe_callB (cr_sum g.calm) hg (g.bi _ (by decide)) boot_sum ha (by decide) (by decide) hs hpl, fun z W ds vs Q Ex k r h => ?_⟩
    match ds, r, h with
    | [d], .cons (v := v) rv .nil, h =>
      obtain ⟨a, xs, us, rfl, h1, h2, h3⟩ := seqL_ok k rv (show Wp G z W ((seqL d).bind fun xs => (M.opt (intsOf xs)).bind fun is => M.pure (.int is.sum)) (Wt G z Q) Ex from h).bind
      obtain ⟨is, e, h4⟩ := h3.bind.opt k
      refine ⟨a, is, rfl, ?_, h4.pure0 k _ (.int _)⟩
      rw [← ints_of h2 e]
      exact SqL.of h1
    | [], .nil, h => exact (show False from h).elim
    | _ :: _ :: _, _, h => exact (show False from h).elim
  | all =>
    refine ⟨_, pe_callB (cr_all g.calm) hg (g.bi _ (by decide)) boot_all ha (by decide) (by decide) hs hpl, fun z W ds vs Q Ex k r h => ?_⟩
    match ds, r, h with
    | [d], .cons (v := v) rv .nil, h =>
      obtain ⟨a, xs, us, rfl, h1, h2, h3⟩ := seqL_ok k rv (show Wp G z W ((seqL d).bind fun xs => (M.opt (blsOf xs)).bind fun is => M.pure (.bl (is.all id))) (Wt G z Q) Ex from h).bind
      obtain ⟨is, e, h4⟩ := h3.bind.opt k
      refine ⟨a, is, rfl, ?_, h4.pure0 k _ (.bl _)⟩
      rw [← bls_of h2 e]
      exact SqL.of h1
    | [], .nil, h => exact (show False from h).elim
    | _ :: _ :: _, _, h => exact (show False from h).elim
  | any =>
    refine ⟨_, pe_callB (cr_any g.calm) hg (g.bi _ (by decide)) boot_any ha (by decide) (by decide) hs hpl, fun z W ds vs Q Ex k r h => ?_⟩
    match ds, r, h with
    | [d], .cons (v := v) rv .nil, h =>
      obtain ⟨a, xs, us, rfl, h1, h2, h3⟩ := seqL_ok k rv (show Wp G z W ((seqL d).bind fun xs => (M.opt (blsOf xs)).bind fun is => M.pure (.bl (is.any id))) (Wt G z Q) Ex from h).bind
      obtain ⟨is, e, h4⟩ := h3.bind.opt k
      refine ⟨a, is, rfl, ?_, h4.pure0 k _ (.bl _)⟩
      rw [← bls_of h2 e]
      exact SqL.of h1
    | [], .nil, h => exact (show False from h).elim
    | _ :: _ :: _, _, h => exact (show False from h).elim
  | tuple =>
    refine ⟨_, pe_callTy call_tuple_of hg (g.bi _ (by decide)) boot_tuple ha (by decide) (by decide) hs hpl, fun z W ds vs Q Ex k r h => ?_⟩
    match ds, r, h with
    | [d], .cons (v := v) rv .nil, h =>
      obtain ⟨a, xs, us, rfl, h1, h2, h3, h4, h5⟩ := seqA_ok k rv (show Wp G z W ((seqA d).bind fun xs => M.pure (.tup xs)) (Wt G z Q) Ex from h).bind
      by_cases q : ∃ ds, d = .tup ds
      · refine ⟨a, us, rfl, .inr ⟨?_, h3.pure0 k _ (.tup (h4 q).2 h2)⟩⟩
        rw [hK]; exact (h4 q).1
      · exact ⟨a, us, rfl, .inl ⟨SqL.of (h5 fun ds e => q ⟨ds, e⟩), new_tup k h2 h3⟩⟩
    | [], .nil, h => exact (show False from h).elim
    | _ :: _ :: _, _, h => exact (show False from h).elim
  | isin =>
    refine ⟨_, pe_callB call_isi hg (g.bi _ (by decide)) boot_isinstance ha (by decide) (by decide) hs hpl, fun z W ds vs Q Ex k r h => ?_⟩
    have q : ∃ d n, ds = [d, .ty n] := by
      match ds, h with
      | [], h => exact (show False from h).elim
      | [d], h => cases d <;> exact (show False from h).elim
      | [d, e], h => cases e <;> first | exact ⟨_, _, rfl⟩ | exact (show False from h).elim
      | d :: e :: _ :: _, h => cases e <;> exact (show False from h).elim
    obtain ⟨d, n, rfl⟩ := q
    match r with
    | .cons (v := v) rv (.cons (.ty _) .nil) =>
      have h : Wp G z W (match tyName d with | some t => if tyOk n then M.pure (.bl (isTy t n)) else M.bad | none => M.bad) (Wt G z Q) Ex := h
      cases e : tyName d with
      | none => rw [e] at h; exact h.bad.elim
      | some t =>
        rw [e] at h
        rcases (show Wp G z W (if tyOk n then M.pure (.bl (isTy t n)) else M.bad) (Wt G z Q) Ex from h).ite with ⟨q, h⟩ | ⟨q, h⟩
        · obtain ⟨t1, t2⟩ := tyX_of rv e
          refine ⟨v, .ty n, .type t, .type n, isTy t n, rfl, .ty n, ?_, kit_ty (kit_all t t1 n (tyOk_mem q)), h.pure0 k _ (.bl _)⟩
          rw [hK]; exact t2
        · exact h.bad.elim
  | list =>
    refine ⟨_, pe_callTy call_list_of hg (g.bi _ (by decide)) boot_list ha (by decide) (by decide) hs hpl, fun z W ds vs Q Ex k r h => ?_⟩
    have q : ∃ d, ds = [d] := by
      match ds, h with
      | [], h => exact (show False from h).elim
      | [d], h => exact ⟨d, rfl⟩
      | d :: e :: _, h => cases d <;> exact (show False from h).elim
    obtain ⟨d, rfl⟩ := q
    match r with
    | .cons (v := v) rv .nil => exact bfL_ok hK k rv (datum_of (f := bfL .list [d]) (by cases d <;> exact h))
/-- list(x), a new list -/
theorem bfLs_ok {X : Cx} {Γ : Cxt} {C : Nat → List D → M D} {Kc : Nat → D} {Wx : WX} (g : Good G C Kc Γ X Wx) {t : TA} {p pos : Pos} {e : Expr} {es : List Expr} (hg : Gl X (Bf.name .list)) (ha : PA X (e :: es) t)
    (hs : starEach (e :: es) X.env = (false, eval e X.env) :: starEach es X.env) (hpl : (backTo pos (starEach es X.env)).any (·.1) = false) :
    ∃ r, PE X (.Call (.Name (Bf.name .list) p) (e :: es) [] pos) (tCB r t) ∧
    ∀ (z : List Addr) (W : Wd) (ds : List D) (vs : List V) (Q : VK) (Ex : Nat → List D → Wd → Prop), Mok G z W → RpsW G z W ds vs → Wp G z W (bfL .list ds) (WtL G z Q) Ex → r vs W.H Q := by
  refine ⟨_, pe_callTy call_list_of hg (g.bi _ (by decide)) boot_list ha (by decide) (by decide) hs hpl, fun z W ds vs Q Ex k r h => ?_⟩
  have q : ∃ d, ds = [d] := by
    match ds, h with
    | [], h => exact (show False from h).elim
    | [d], h => exact ⟨d, rfl⟩
    | d :: e :: _, h => cases d <;> exact (show False from h).elim
  obtain ⟨d, rfl⟩ := q
  match r with
  | .cons (v := v) rv .nil => exact bfL_ok g.K k rv h
end
end DL
/-! DL7: what is walked; targets -/
namespace DL
open PySem PyProof.Rows L2 PySem.Spec

theorem boot_type {n : String} (h : tyOk n = true) : bootBuiltins (Str.ofString n) = some (.type n) ∧ (Str.ofString n) ≠ "__name__" ∧ (Str.ofString n == ("__debug__" : Str)) = false ∧ Str.ofString n ∈ builtins := by
  have q := tyOk_mem h
  simp only [List.mem_cons, List.not_mem_nil, or_false] at q
  rcases q with rfl | rfl | rfl | rfl | rfl
  · exact ⟨boot_bool, by decide +kernel, by decide +kernel, by decide +kernel⟩
  · exact ⟨boot_int, by decide +kernel, by decide +kernel, by decide +kernel⟩
  · exact ⟨boot_str, by decide +kernel, by decide +kernel, by decide +kernel⟩
  · exact ⟨boot_tuple, by decide +kernel, by decide +kernel, by decide +kernel⟩
  · exact ⟨boot_list, by decide +kernel, by decide +kernel, by decide +kernel⟩

def tzLen : Tz → Nat
  | .cons _ ts => tzLen ts + 1
  | _ => 0
/-! ### a list or a tuple, walked -/
def iSeq (K : PySem.W.Frag) (tl : TE) : TI := fun σ H R => tl σ H fun x H1 => ∃ a, x = .ref a ∧ (((∃ xs, SqL K H1 a xs) ∧ R (Itl K a) H1) ∨ ((∃ xs, SqT K H1 a xs) ∧ R (Itt K a) H1))
theorem pi_seq {X : Cx} {tg l : Expr} {tl : TE} (hl : PE X l tl) : PI X tg l (iSeq X.K tl) := by
  constructor
  intro pins s σ H R I h
  refine thn (hl.run pins s σ H _ I h) ?_
  rintro v s1 ⟨x, H1, I1, r1, a, rfl, hq⟩
  cases r1
  have kept : ∀ ob : Obj, Inv X pins σ H1 { s1 with heap := s1.heap.push ob } := fun ob => I1.kept (t' := s1.toks) fun b o q => Heap.get?_push_of_some _ q
  have ok1 : ∀ b ∈ [s1.heap.objs.size], FpOk X pins H1 b := fun b hb => by
    obtain rfl := List.mem_singleton.mp hb
    exact I1.fpOk (Nat.le_refl _) I1.fresh
  rcases hq with ⟨⟨xs, hx⟩, q⟩ | ⟨⟨xs, hx⟩, q⟩
  · obtain ⟨its, rv, p, hz⟩ := I1.list hx
    exact wpAny_pyIter_list p.isList ⟨_, [s1.heap.objs.size], _, Itl X.K a, H1, rfl, kept _, turn_list a _, ⟨_, Heap.get?_push_size _ rfl, rfl, rfl⟩, ok1, q⟩
  · obtain ⟨its, rv, p, hz⟩ := I1.tuple hx
    exact wpAny_pyIter_tuple (items := its.toArray) p ⟨_, [s1.heap.objs.size], _, Itt X.K a, H1, rfl, kept _, turn_tuple a _, ⟨_, Heap.get?_push_size _ rfl, rfl, rfl⟩, ok1, q⟩

section
variable {G : Gx} {F : Hp} {m : List Addr}
theorem it_list {a : Addr} {vs : List V} {ds : List D} (h : F a = some (.lst vs)) (r : Rps G F m ds vs) : ItR G F m (Itl G.K a) ds := by
  intro z W k e hm
  have ha : W.H a = some (.lst vs) := F_sub (e _ _ h fun _ q => nomatch q)
  have rW : RpsW G z W ds vs := r.mono e hm
  have hS : SqL G.K W.H a vs := SqL.of ha
  refine ⟨fun i d hd => ?_, fun i hi => ⟨vs, hS, by rw [← rW.len]; exact hi⟩⟩
  obtain ⟨v, hv, rv⟩ := rW.get hd
  refine ⟨⟨vs, v, hS, hv⟩, fun x H' hy => ?_⟩
  obtain ⟨e1, e2⟩ := hy
  have e3 : x = v := Option.some.inj ((e2 vs hS).symm.trans hv)
  exact ⟨W, e1.symm, rfl, k, Le.refl _ _, by rw [e3]; exact rv⟩
theorem it_tup {a : Addr} {vs : List V} {ds : List D} (h : SqT G.K F a vs) (r : Rps G F m ds vs) : ItR G F m (Itt G.K a) ds := by
  intro z W k e hm
  have hS : SqT G.K W.H a vs := sqT_of (z := z) (e.sqT h)
  have rW : RpsW G z W ds vs := r.mono e hm
  refine ⟨fun i d hd => ?_, fun i hi => ⟨vs, hS, by rw [← rW.len]; exact hi⟩⟩
  obtain ⟨v, hv, rv⟩ := rW.get hd
  refine ⟨⟨vs, v, hS, hv⟩, fun x H' hy => ?_⟩
  obtain ⟨e1, e2⟩ := hy
  have e3 : x = v := Option.some.inj ((e2 vs hS).symm.trans hv)
  exact ⟨W, e1.symm, rfl, k, Le.refl _ _, by rw [e3]; exact rv⟩
theorem it_rng {lo : Int} {n : Nat} : ItR G F m (Itr lo n) ((List.range n).map fun (i : Nat) => D.int (lo + (i : Int))) := by
  intro z W k e hm
  refine ⟨fun i d hd => ?_, fun i hi => by
    show n ≤ i
    simpa using hi⟩
  rw [List.getElem?_map] at hd
  have hi : i < n := by
    by_cases q : i < n
    · exact q
    · rw [List.getElem?_eq_none (by simpa using q)] at hd
      cases hd
  rw [List.getElem?_range hi] at hd
  cases hd
  refine ⟨hi, fun x H' hy => ?_⟩
  obtain ⟨e1, e2⟩ := hy
  exact ⟨W, e1.symm, rfl, k, Le.refl _ _, by rw [e2]; exact .int _⟩
theorem enumD_get {ds : List D} {i : Nat} {d : D} (h : (enumD ds)[i]? = some d) : ∃ e, ds[i]? = some e ∧ d = .tup [.int (i : Nat), e] := by
  unfold enumD at h
  rw [List.getElem?_map, List.getElem?_zipIdx] at h
  cases q : ds[i]? with
  | none => rw [q] at h; cases h
  | some e =>
    rw [q] at h
    have h' : some (D.tup [.int ((0 + i : Nat) : Int), e]) = some d := h
    rw [Nat.zero_add] at h'
    exact ⟨e, rfl, (Option.some.inj h').symm⟩
theorem enumD_len {ds : List D} : (enumD ds).length = ds.length := by
  unfold enumD
  rw [List.length_map, List.length_zipIdx]
theorem pair_new {z : List Addr} {W : Wd} {T : Addr} {d1 d2 : D} {x y : V} (k : Mok G z W) (hT : W.H T = none) (r1 : RpW G z W d1 x) (r2 : RpW G z W d2 y) :
    ∃ W' : Wd, W'.H = upd W.H T (.tup [x, y]) ∧ W'.μ = W.μ ∧ Mok G z W' ∧ Le z W W' ∧ RpW G z W' (.tup [d1, d2]) (.ref T) := by
  obtain ⟨k1, l1, f1⟩ := k.new (o := .tup [x, y]) hT
  exact ⟨⟨W.m, W.μ, upd W.H T (.tup [x, y])⟩, rfl, rfl, k1, l1, .tup (SqT.of f1) (.cons (r1.le l1) (.cons (r2.le l1) .nil))⟩
theorem it_enum {a : Addr} {vs : List V} {ds : List D} (h : F a = some (.lst vs)) (r : Rps G F m ds vs) : ItR G F m (Ite G.K a) (enumD ds) := by
  intro z W k e hm
  have ha : W.H a = some (.lst vs) := F_sub (e _ _ h fun _ q => nomatch q)
  have rW : RpsW G z W ds vs := r.mono e hm
  have hS : SqL G.K W.H a vs := SqL.of ha
  refine ⟨fun i d hd => ?_, fun i hi => ⟨vs, hS, by rw [← rW.len, ← enumD_len]; exact hi⟩⟩
  obtain ⟨d', hd', rfl⟩ := enumD_get hd
  obtain ⟨v, hv, rv⟩ := rW.get hd'
  refine ⟨⟨vs, v, hS, hv⟩, fun x H' hy => ?_⟩
  obtain ⟨T, x', e1, e2, e3, e4⟩ := hy
  have e5 : x' = v := Option.some.inj ((e4 vs hS).symm.trans hv)
  subst e1 e3 e5
  exact pair_new k e2 (.int _) rv
theorem zipD_get {ds es : List D} {i : Nat} {d : D} (h : (zipD ds es)[i]? = some d) : ∃ x y, ds[i]? = some x ∧ es[i]? = some y ∧ d = .tup [x, y] := by
  unfold zipD at h
  rw [List.getElem?_map] at h
  cases q : (ds.zip es)[i]? with
  | none => rw [q] at h; cases h
  | some p =>
    rw [q] at h
    obtain ⟨h1, h2⟩ := List.getElem?_zip_eq_some.mp q
    exact ⟨p.1, p.2, h1, h2, (Option.some.inj h).symm⟩
theorem zipD_len {ds es : List D} : (zipD ds es).length = min ds.length es.length := by
  unfold zipD
  rw [List.length_map, List.length_zip]
theorem it_zipL {a b : Addr} {vs us : List V} {ds es : List D} (h1 : F a = some (.lst vs)) (h2 : F b = some (.lst us)) (r1 : Rps G F m ds vs) (r2 : Rps G F m es us) : ItR G F m (Itz G.K a b) (zipD ds es) := by
  intro z W k e hm
  have s1 : SqL G.K W.H a vs := SqL.of (F_sub (e _ _ h1 fun _ q => nomatch q))
  have s2 : SqL G.K W.H b us := SqL.of (F_sub (e _ _ h2 fun _ q => nomatch q))
  have q1 : RpsW G z W ds vs := r1.mono e hm
  have q2 : RpsW G z W es us := r2.mono e hm
  refine ⟨fun i d hd => ?_, fun i hi => ⟨vs, us, s1, s2, ?_⟩⟩
  · obtain ⟨d1, d2, g1, g2, rfl⟩ := zipD_get hd
    obtain ⟨v1, e1, p1⟩ := q1.get g1
    obtain ⟨v2, e2, p2⟩ := q2.get g2
    refine ⟨⟨vs, us, v1, v2, s1, s2, e1, e2⟩, fun x H' hy => ?_⟩
    obtain ⟨T, x1, x2, c1, c2, c3, c4, c5⟩ := hy
    have t1 : x1 = v1 := Option.some.inj ((c4 vs s1).symm.trans e1)
    have t2 : x2 = v2 := Option.some.inj ((c5 us s2).symm.trans e2)
    subst c1 c3 t1 t2
    exact pair_new k c2 p1 p2
  · rw [zipD_len, q1.len, q2.len] at hi
    omega
theorem it_zipT {a b : Addr} {vs us : List V} {ds es : List D} (h1 : SqT G.K F a vs) (h2 : SqT G.K F b us) (r1 : Rps G F m ds vs) (r2 : Rps G F m es us) : ItR G F m (RZ.ItzT G.K a b) (zipD ds es) := by
  intro z W k e hm
  have s1 : SqT G.K W.H a vs := sqT_of (z := z) (e.sqT h1)
  have s2 : SqT G.K W.H b us := sqT_of (z := z) (e.sqT h2)
  have q1 : RpsW G z W ds vs := r1.mono e hm
  have q2 : RpsW G z W es us := r2.mono e hm
  refine ⟨fun i d hd => ?_, fun i hi => ⟨vs, us, s1, s2, ?_⟩⟩
  · obtain ⟨d1, d2, g1, g2, rfl⟩ := zipD_get hd
    obtain ⟨v1, e1, p1⟩ := q1.get g1
    obtain ⟨v2, e2, p2⟩ := q2.get g2
    refine ⟨⟨vs, us, v1, v2, s1, s2, e1, e2⟩, fun x H' hy => ?_⟩
    obtain ⟨T, x1, x2, c1, c2, c3, c4, c5⟩ := hy
    have t1 : x1 = v1 := Option.some.inj ((c4 vs s1).symm.trans e1)
    have t2 : x2 = v2 := Option.some.inj ((c5 us s2).symm.trans e2)
    subst c1 c3 t1 t2
    exact pair_new k c2 p1 p2
  · rw [zipD_len, q1.len, q2.len] at hi
    omega
end

/-! ### targets -/
/-- the slots of is may have turned, all else is as it was -/
def Same1 (σ σ' : L2.St) (is : List Nat) : Prop := σ'.length = σ.length ∧ ∀ i, i ∉ is → σ'[i]? = σ[i]?
theorem Same1.wipe {σ σ' : L2.St} {is : List Nat} (h : Same1 σ σ' is) : L2.wipe σ' is = L2.wipe σ is := by
  apply List.ext_getElem?
  intro i
  have key : ∀ (js : List Nat) (τ : L2.St), (i ∈ js → (L2.wipe τ js)[i]? = if i < τ.length then some none else none) ∧ (i ∉ js → (L2.wipe τ js)[i]? = τ[i]?) := by
    intro js
    induction js with
    | nil => exact fun τ => ⟨fun q => absurd q (List.not_mem_nil), fun _ => rfl⟩
    | cons j js ih =>
      intro τ
      have e : L2.wipe τ (j :: js) = (L2.wipe τ js).set j none := rfl
      rw [e]
      by_cases hij : i = j
      · subst hij
        refine ⟨fun _ => ?_, fun q => absurd List.mem_cons_self q⟩
        by_cases hl : i < τ.length
        · rw [List.getElem?_set_self (by rw [wipe_length]; exact hl), if_pos hl]
        · rw [List.getElem?_eq_none (by rw [List.length_set, wipe_length]; omega), if_neg hl]
      · rw [List.getElem?_set_ne (Ne.symm hij)]
        exact ⟨fun q => (ih τ).1 ((List.mem_cons.mp q).resolve_left hij), fun q => (ih τ).2 fun p => q (List.mem_cons_of_mem _ p)⟩
  by_cases hi : i ∈ is
  · rw [(key is σ').1 hi, (key is σ).1 hi, h.1]
  · rw [(key is σ').2 hi, (key is σ).2 hi, h.2 i hi]
theorem Same1.trans {σ σ1 σ2 : L2.St} {is js : List Nat} (a : Same1 σ σ1 is) (b : Same1 σ1 σ2 js) : Same1 σ σ2 (is ++ js) :=
  ⟨b.1.trans a.1, fun i hi => (b.2 i fun q => hi (List.mem_append_right _ q)).trans (a.2 i fun q => hi (List.mem_append_left _ q))⟩
def tTg (G : Gx) (tg : Tz) : TG := fun v σ H Q => ∃ z ρ W d ρ', W.H = H ∧ Mok G z W ∧ EnvR G z W ρ σ ∧ RpW G z W d v ∧ bindT tg d ρ = some ρ' ∧ ∀ σ', EnvR G z W ρ' σ' → Same1 σ σ' tg.slots → Q σ' H
def tTgs (G : Gx) (tg : Tz) : TGs := fun vs σ H Q => ∃ z ρ W ds ρ', W.H = H ∧ Mok G z W ∧ EnvR G z W ρ σ ∧ RpsW G z W ds vs ∧ bindTs tg ds ρ = some ρ' ∧ ∀ σ', EnvR G z W ρ' σ' → Same1 σ σ' tg.slots → Q σ' H
theorem impPG {X : Cx} {e : Expr} {t t' : TG} (h : PG X e t) (hi : ∀ v σ H Q, t' v σ H Q → t v σ H Q) : PG X e t' := ⟨fun pins s σ H v u Q I r q => h.run pins s σ H v u Q I r (hi v σ H Q q)⟩
theorem impPGs {X : Cx} {e : List Expr} {t t' : TGs} (h : PGs X e t) (hi : ∀ v σ H Q, t' v σ H Q → t v σ H Q) : PGs X e t' := ⟨fun pins s σ H v u Q I r q => h.run pins s σ H v u Q I r (hi v σ H Q q)⟩
section
variable {G : Gx} {C : Nat → List D → M D} {Kc : Nat → D} {Γ : Cxt} {X : Cx} {Wx : WX}
theorem asg_of {x : Str} (g : Good G C Kc Γ X Wx) (h : Γ.asg x = true) : Loc X.env.scope x ∧ (X.fn x = true ∨ X.env.scope.names.lookup x = some .local) := by
  unfold Cxt.asg at h
  rw [g.sc, g.fn]
  split at h
  · rename_i q
    exact ⟨.inl q, .inr q⟩
  · rename_i q
    refine ⟨.inr q, .inl ?_⟩
    split at h
    · rename_i e
      rw [e]
    · rename_i s e
      rw [e]
      exact h
  · cases h
mutual
theorem pg_ok (g : Good G C Kc Γ X Wx) : ∀ (t : Tz) (e : Expr), ckT Γ t e = true → PG X e (tTg G t)
  | .nm i, e, h => by
    cases e with
    | Name x p =>
      simp only [ckT, Bool.and_eq_true, Cxt.nm, decide_eq_true_eq] at h
      obtain ⟨a1, a2⟩ := asg_of g h.2
      refine impPG (pg_name (i := i) (by rw [g.N]; exact g.nd) (by rw [g.N]; exact h.1) a1 a2) ?_
      rintro v σ H Q ⟨z, ρ, W, d, ρ', rfl, k, r, rv, hb, q⟩
      simp only [bindT] at hb
      split at hb
      · cases hb
        refine q _ (r.set rv i) ⟨by rw [List.length_set], fun j hj => ?_⟩
        rw [List.getElem?_set_ne]
        intro e
        exact hj (by rw [← e]; exact List.mem_singleton.mpr rfl)
      · cases hb
    | _ => cases h
  | .tp ts, e, h => by
    cases e with
    | Tuple es kk p =>
      simp only [ckT] at h
      have hst := stars_ok h
      refine impPG (pg_tup (n := es.length) g.calm (pgs_ok g ts es h) (by rw [assigns_of hst, List.length_map]) (by rw [assigns_of hst, List.findIdx?_map]; exact List.findIdx?_eq_none_iff.mpr fun _ _ => rfl)) ?_
      rintro v σ H Q ⟨z, ρ, W, d, ρ', rfl, k, r, rv, hb, q⟩
      cases d with
      | tup xs =>
        simp only [bindT] at hb
        cases rv with
        | @tup a vs ds h1 h2 =>
          refine ⟨a, vs, rfl, ?_, ?_, z, ρ, W, xs, ρ', rfl, k, r, h2, hb, q⟩
          · rw [g.K]; exact sqT_of h1
          · rw [← h2.len, ← len_ok h, bindTs_len hb]
      | _ => cases hb
    | _ => cases h
  | .nil, e, h => by cases e <;> cases h
  | .cons _ _, e, h => by cases e <;> cases h
theorem pgs_ok (g : Good G C Kc Γ X Wx) : ∀ (t : Tz) (es : List Expr), ckTs Γ t es = true → PGs X es (tTgs G t)
  | .nil, [], _ => impPGs pgs_nil (by
    rintro vs σ H Q ⟨z, ρ, W, ds, ρ', rfl, k, r, rv, hb, q⟩
    cases ds with
    | nil =>
      cases hb
      cases rv
      exact ⟨rfl, q σ r ⟨rfl, fun _ _ => rfl⟩⟩
    | cons d ds => cases hb)
  | .cons t ts, e :: es, h => by
    simp only [ckTs, Bool.and_eq_true] at h
    refine impPGs (pgs_cons (pg_ok g t e h.1.2) (pgs_ok g ts es h.2) (by rw [assign_of h.1.1]; rfl)) ?_
    rintro vs σ H Q ⟨z, ρ, W, ds, ρ', rfl, k, r, rv, hb, q⟩
    cases ds with
    | nil => cases hb
    | cons d ds =>
      cases rv with
      | @cons _ v _ vs h1 h2 =>
        simp only [bindTs] at hb
        cases e1 : bindT t d ρ with
        | none => rw [e1] at hb; cases hb
        | some ρ1 =>
          rw [e1] at hb
          exact ⟨v, vs, rfl, z, ρ, W, d, ρ1, rfl, k, r, h1, e1, fun σ1 r1 s1 => ⟨z, ρ1, W, ds, ρ', rfl, k, r1, h2, hb, fun σ2 r2 s2 => q σ2 r2 (s1.trans s2)⟩⟩
  | .nil, _ :: _, h => by cases h
  | .cons _ _, [], h => by cases h
  | .nm _, es, h => by cases es <;> cases h
  | .tp _, es, h => by cases es <;> cases h
theorem stars_ok : ∀ {t : Tz} {es : List Expr}, ckTs Γ t es = true → es.all notStar = true
  | .nil, [], _ => rfl
  | .cons t ts, e :: es, h => by
    simp only [ckTs, Bool.and_eq_true] at h
    simp only [List.all_cons, Bool.and_eq_true]
    exact ⟨h.1.1, stars_ok h.2⟩
  | .nil, _ :: _, h => by cases h
  | .cons _ _, [], h => by cases h
  | .nm _, es, h => by cases es <;> cases h
  | .tp _, es, h => by cases es <;> cases h
theorem len_ok : ∀ {t : Tz} {es : List Expr}, ckTs Γ t es = true → tzLen t = es.length
  | .nil, [], _ => rfl
  | .cons t ts, e :: es, h => by
    simp only [ckTs, Bool.and_eq_true] at h
    simp only [tzLen, List.length_cons, len_ok h.2]
  | .nil, _ :: _, h => by cases h
  | .cons _ _, [], h => by cases h
  | .nm _, es, h => by cases es <;> cases h
  | .tp _, es, h => by cases es <;> cases h
theorem bindTs_len : ∀ {t : Tz} {ds : List D} {ρ ρ' : Env}, bindTs t ds ρ = some ρ' → ds.length = tzLen t
  | .nil, [], _, _, _ => rfl
  | .cons t ts, d :: ds, ρ, ρ', h => by
    simp only [bindTs] at h
    cases e : bindT t d ρ with
    | none => rw [e] at h; cases h
    | some ρ1 =>
      rw [e] at h
      simp only [tzLen, List.length_cons, bindTs_len h]
  | .nil, _ :: _, _, _, h => by cases h
  | .cons _ _, [], _, _, h => by cases h
  | .nm _, ds, _, _, h => by cases ds <;> cases h
  | .tp _, ds, _, _, h => by cases ds <;> cases h
end
end
end DL
/-! DL8: comprehensions -/
namespace DL
open PySem PyProof.Rows L2 PySem.Spec

/-- a world without what is being made at d -/
def Wd.del (W : Wd) (d : Addr) : Wd := ⟨W.m, W.μ, fun b => if b = d then none else W.H b⟩
section
variable {G : Gx} {z : List Addr} {W W' : Wd} {d : Addr} {o : HO}
theorem del_F : (W.del d).F z = W.F (d :: z) := by
  funext b
  by_cases h : b ∈ d :: z ∨ W.lv b
  · have e2 : W.F (d :: z) b = none := by
      unfold Wd.F
      rw [if_pos h]
    rw [e2]
    unfold Wd.F
    by_cases h2 : b ∈ z ∨ (W.del d).lv b
    · rw [if_pos h2]
    · rw [if_neg h2]
      show (if b = d then none else W.H b) = none
      rcases h with h | h
      · rcases List.mem_cons.mp h with q | q
        · rw [if_pos q]
        · exact absurd (.inl q) h2
      · exact absurd (.inr h) h2
  · have e2 : W.F (d :: z) b = W.H b := by
      unfold Wd.F
      rw [if_neg h]
    rw [e2]
    unfold Wd.F
    rw [if_neg (fun q => h (q.imp (fun p => List.mem_cons_of_mem _ p) id))]
    show (if b = d then none else W.H b) = W.H b
    rw [if_neg (fun q => h (.inl (by rw [q]; exact List.mem_cons_self)))]
theorem del_H {b : Addr} (h : b ≠ d) : (W.del d).H b = W.H b := by
  show (if b = d then none else W.H b) = _
  rw [if_neg h]
theorem del_mok (k : Mok G (d :: z) W) (nz : d ∉ z) : Mok G z (W.del d) := by
  refine ⟨k.len, k.inj, fun b hb => k.zl b (List.mem_cons_of_mem _ hb), fun b hb => ?_, fun i a ob h1 h2 => ?_⟩
  · obtain ⟨u, e⟩ := k.zs b (List.mem_cons_of_mem _ hb)
    exact ⟨u, (del_H fun q => nz (by rw [← q]; exact hb)).trans e⟩
  · rw [del_F]
    refine (k.ob i a ob h1 h2).mono (Ext.refl _) (fun _ _ q => q) fun hf u e => ?_
    have h2' : W.μ[i]? = some ob := h2
    have la : W.lv a := ⟨i, by
      unfold live
      rw [h2']
      cases ob with
      | fro q => exact absurd rfl (hf q)
      | _ => trivial, h1⟩
    exact (del_H fun q => k.zl d List.mem_cons_self (by rw [← q]; exact la)).trans e
theorem del_le (l : Le (d :: z) W W') (nz : d ∉ z) : Le z (W.del d) (W'.del d) := by
  refine ⟨l.pre, ?_, fun b hb => ?_⟩
  · rw [del_F, del_F]
    exact l.ext
  · have nb : b ≠ d := fun q => nz (by rw [← q]; exact hb)
    rw [del_H nb, del_H nb]
    exact l.zk b (List.mem_cons_of_mem _ hb)
theorem Wp.frame {α : Type} {m : M α} {P : α → Wd → Prop} {Ex : Nat → List D → Wd → Prop} (h : Wp G z (W.del d) m P Ex) (nz : d ∉ z) : Wp G (d :: z) W m (fun a W' => P a (W'.del d)) (fun c xs W' => Ex c xs (W'.del d)) := by
  refine T.good_mono (fun r q => ?_) (show (m W.μ).good _ from h)
  cases r with
  | ok a μ' => exact fun W' e k l => q (W'.del d) e (del_mok k nz) (del_le l nz)
  | exc c xs μ' => exact fun W' e k l => q (W'.del d) e (del_mok k nz) (del_le l nz)
  | bad => exact q
theorem Wp.at_ {α : Type} {m : M α} {P : α → Wd → Prop} {Ex : Nat → List D → Wd → Prop} (h : Wp G z W m P Ex) (e : W'.μ = W.μ) (l : Le z W W') : Wp G z W' m P Ex := by
  show (m W'.μ).good _
  rw [e]
  refine T.good_mono (fun r q => ?_) h
  cases r with
  | ok a μ' => exact fun W2 e2 k2 l2 => q W2 e2 k2 (l.trans l2)
  | exc c xs μ' => exact fun W2 e2 k2 l2 => q W2 e2 k2 (l.trans l2)
  | bad => exact q
theorem Wp.calm {α : Type} {m : M α} {P : α → Wd → Prop} {Ex : Nat → List D → Wd → Prop} (h : Wp G z W (calmM m) P Ex) : Wp G z W m P (fun _ _ _ => False) := by
  refine T.good_mono (fun r q => ?_) (T.good_bind (show ((m W.μ).bind calmR).good _ from h))
  cases r with
  | ok a μ' => exact q
  | exc c xs μ' => exact (show False from q).elim
  | bad => exact q
theorem zset (k : Mok G (d :: z) W) : Mok G (d :: z) ⟨W.m, W.μ, upd W.H d o⟩ ∧ Wd.del ⟨W.m, W.μ, upd W.H d o⟩ d = W.del d ∧ Wd.F (d :: z) ⟨W.m, W.μ, upd W.H d o⟩ = W.F (d :: z) := by
  have e1 : Wd.del ⟨W.m, W.μ, upd W.H d o⟩ d = W.del d := by
    unfold Wd.del
    congr 1
    funext b
    show (if b = d then none else upd W.H d o b) = _
    by_cases q : b = d
    · rw [if_pos q, if_pos q]
    · rw [if_neg q, if_neg q, upd_ne q]
  have e2 : Wd.F (d :: z) ⟨W.m, W.μ, upd W.H d o⟩ = W.F (d :: z) := by rw [← del_F, ← del_F, e1]
  refine ⟨⟨k.len, k.inj, k.zl, fun b hb => ?_, fun i a ob h1 h2 => ?_⟩, e1, e2⟩
  · by_cases q : b = d
    · exact ⟨o, by rw [q]; exact upd_same⟩
    · obtain ⟨u, e⟩ := k.zs b hb
      exact ⟨u, (upd_ne q).trans e⟩
  · rw [e2]
    refine (k.ob i a ob h1 h2).mono (Ext.refl _) (fun _ _ q => q) fun hf u e => ?_
    have h2' : W.μ[i]? = some ob := h2
    have la : W.lv a := ⟨i, by
      unfold live
      rw [h2']
      cases ob with
      | fro q => exact absurd rfl (hf q)
      | _ => trivial, h1⟩
    exact (upd_ne fun q => k.zl d List.mem_cons_self (by rw [← q]; exact la)).trans e
theorem zstart (k : Mok G z W) (h : W.H d = none) : d ∉ z ∧ Mok G (d :: z) ⟨W.m, W.μ, upd W.H d o⟩ ∧ Wd.del ⟨W.m, W.μ, upd W.H d o⟩ d = W := by
  have e1 : Wd.del ⟨W.m, W.μ, upd W.H d o⟩ d = W := by
    obtain ⟨m, μ, H⟩ := W
    unfold Wd.del
    congr 1
    funext b
    by_cases q : b = d
    · rw [if_pos q, q]
      exact h.symm
    · rw [if_neg q]
      exact upd_ne q
  have e2 : Wd.F (d :: z) ⟨W.m, W.μ, upd W.H d o⟩ = W.F z := by rw [← del_F, e1]
  refine ⟨k.nz h, ⟨k.len, k.inj, fun b hb => ?_, fun b hb => ?_, fun i a ob h1 h2 => ?_⟩, e1⟩
  · rcases List.mem_cons.mp hb with q | q
    · rw [q]
      exact k.nlv h
    · exact k.zl b q
  · rcases List.mem_cons.mp hb with q | q
    · exact ⟨o, by rw [q]; exact upd_same⟩
    · obtain ⟨u, e⟩ := k.zs b q
      exact ⟨u, (upd_ne (ne_of_none e h)).trans e⟩
  · rw [e2]
    exact (k.ob i a ob h1 h2).mono (Ext.refl _) (fun _ _ q => q) fun hf u e => (upd_ne (ne_of_none e h)).trans e
end
theorem same_wipe (σ : L2.St) : ∀ is : List Nat, Same1 σ (L2.wipe σ is) is
  | [] => ⟨rfl, fun _ _ => rfl⟩
  | j :: is => by
    have ih := same_wipe σ is
    refine ⟨by rw [wipe_length], fun i hi => ?_⟩
    show ((L2.wipe σ is).set j none)[i]? = _
    rw [List.getElem?_set_ne (fun q => hi (by rw [q]; exact List.mem_cons_self))]
    exact ih.2 i fun q => hi (List.mem_cons_of_mem _ q)
/-- nothing is wanted of exceptions: there are none -/
abbrev W0 : WX := fun _ _ _ _ => False
/-- THE COMPREHENSION -/
theorem lc_ok {G : Gx} {Wx : WX} {σ : L2.St} {H : Hp} {Q : VK} {tg : Tz} {I : Env → M (List D)} {P : Env → M Bool} {E : Env → M D}
    (h : tL G Wx (fun ρ => (I ρ).bind fun ds => (lenOk ds).bind fun ds => lcGo ds (lcTurn tg P E ρ)) σ H Q) :
    tLc (tI G Wx I) (tTg G tg) (tT G W0 P) (tD G W0 E) tg.slots σ H Q := by
  obtain ⟨z, ρ, W, rfl, k, r, h⟩ := h
  refine ⟨z, ρ, W, rfl, k, r, h.bind.mono (fun ds W1 k1 l1 h1 J hJ Dd hD => ?_) fun _ _ _ _ _ q => q⟩
  have h1 := h1.bind
  unfold lenOk at h1
  rcases h1.ite with ⟨hsz, h1⟩ | ⟨_, h1⟩
  case inr => exact h1.bad.elim
  have h1 := h1.pure0 k1
  obtain ⟨nz, k0, e0⟩ := zstart (o := .lst []) k1 hD
  have r1 := r.le l1
  refine ⟨fun i m H => ∃ (W2 : Wd) (acc : List D) (vacc : List V), W2.H = H ∧ m = ds.length - i ∧ i ≤ ds.length ∧ Mok G (Dd :: z) W2 ∧ H Dd = some (.lst vacc) ∧ RpsW G (Dd :: z) W2 acc vacc ∧
    Le z W1 (W2.del Dd) ∧ acc.length ≤ i ∧ Wp G z (W2.del Dd) (lcGo (ds.drop i) (lcTurn tg P E ρ)) (fun xs W' => WtL G z Q (acc ++ xs) W') (exW G z Wx σ), ⟨ds.length, ?_⟩, ?_⟩
  · exact ⟨⟨W1.m, W1.μ, upd W1.H Dd (.lst [])⟩, [], [], rfl, rfl, Nat.zero_le _, k0, upd_same, .nil, by rw [e0]; exact Le.refl _ _, Nat.zero_le _, by rw [e0]; exact h1⟩
  rintro i m H2 ⟨W2, acc, vacc, rfl, rfl, hi, k2, hacc, racc, l2, hlen, h2⟩
  have eF2 : W2.F (Dd :: z) = (W2.del Dd).F z := del_F.symm
  have hJ2 := hJ (Dd :: z) W2 k2 (by rw [eF2]; exact l2.ext) l2.pre
  by_cases hlt : i < ds.length
  · refine .inr ?_
    obtain ⟨d, hd⟩ : ∃ d, ds[i]? = some d := ⟨ds[i], List.getElem?_eq_getElem hlt⟩
    obtain ⟨go, yl⟩ := hJ2.1 i d hd
    have hdrop : ds.drop i = d :: ds.drop (i + 1) := by
      rw [List.drop_eq_getElem_cons hlt]
      have q : ds[i] = d := Option.some.inj ((List.getElem?_eq_getElem hlt).symm.trans hd)
      rw [q]
    rw [hdrop] at h2
    refine ⟨go, fun H' => ∃ (W2 : Wd) (acc : List D) (vacc : List V), W2.H = H' ∧ ds.length - (i + 1) = ds.length - (i + 1) ∧ i + 1 ≤ ds.length ∧ Mok G (Dd :: z) W2 ∧ H' Dd = some (.lst vacc) ∧ RpsW G (Dd :: z) W2 acc vacc ∧
      Le z W1 (W2.del Dd) ∧ acc.length ≤ i + 1 ∧ Wp G z (W2.del Dd) (lcGo (ds.drop (i + 1)) (lcTurn tg P E ρ)) (fun xs W' => WtL G z Q (acc ++ xs) W') (exW G z Wx σ), fun H' q => ⟨ds.length - (i + 1), by omega, q⟩, fun x H' hy => ?_⟩
    obtain ⟨W3, rfl, e3, k3, l3, rx⟩ := yl x H' hy
    have l3' := del_le l3 nz
    have h2 : Wp G z (W2.del Dd) ((lcTurn tg P E ρ d).bind fun r => (lcGo (ds.drop (i + 1)) (lcTurn tg P E ρ)).bind fun rs => M.pure (match r with | some e => e :: rs | none => rs)) (fun xs W' => WtL G z Q (acc ++ xs) W') (exW G z Wx σ) := h2
    have h3 := (h2.bind.calm.at_ (W' := W3.del Dd) e3 l3').bind
    obtain ⟨ρ', hb, h3⟩ := h3.opt (del_mok k3 nz)
    have renv : EnvR G (Dd :: z) W3 ρ σ := by
      have q := (r1.le l2).le l3'
      exact ⟨q.len, fun i d e => by
        obtain ⟨v, e1, e2⟩ := q.at_ i d e
        refine ⟨v, e1, ?_⟩
        show Rp G (W3.F (Dd :: z)) W3.m d v
        rw [← del_F]
        exact e2⟩
    refine ⟨Dd :: z, wipeE ρ tg.slots, W3, d, ρ', rfl, k3, renv.wipe _, rx, hb, fun σ2 r2 s2 => ⟨s2.wipe.trans (same_wipe σ tg.slots).wipe, ?_⟩⟩
    refine ⟨Dd :: z, ρ', W3, rfl, k3, r2, (h3.bind.frame nz).mono (fun b W4 k4 l4 h4 => ?_) fun _ _ _ _ _ q => q.elim⟩
    cases b with
    | false =>
      rw [if_neg Bool.false_ne_true]
      rw [if_neg Bool.false_ne_true] at h4
      have h4 := (h4.pure0 (del_mok k4 nz)).bind
      refine ⟨W4, acc, vacc, rfl, rfl, hlt, k4, ?_, racc.le (l3.trans l4), (l2.trans l3').trans (del_le l4 nz), by omega, h4.mono (fun rs W' k' l' q => q.pure0 k') fun _ _ _ _ _ q => q⟩
      rw [l4.zk Dd List.mem_cons_self, l3.zk Dd List.mem_cons_self]
      exact hacc
    | true =>
      rw [if_pos rfl]
      rw [if_pos rfl] at h4
      refine ⟨Dd :: z, ρ', W4, rfl, k4, r2.le l4, (h4.bind.frame nz).mono (fun y W5 k5 l5 h5 v rv => ?_) fun _ _ _ _ _ q => q.elim⟩
      have h5 := (h5.pure0 (del_mok k5 nz)).bind
      have l25 := (l3.trans l4).trans l5
      refine ⟨vacc, ?_, ?_, ?_⟩
      · rw [l25.zk Dd List.mem_cons_self]
        exact hacc
      · rw [← racc.len]
        omega
      · obtain ⟨k6, e6, f6⟩ := zset (o := .lst (vacc ++ [v])) k5
        refine ⟨⟨W5.m, W5.μ, upd W5.H Dd (.lst (vacc ++ [v]))⟩, acc ++ [y], vacc ++ [v], rfl, rfl, hlt, k6, upd_same, ?_, ?_, ?_, ?_⟩
        · show Rps G (Wd.F (Dd :: z) ⟨W5.m, W5.μ, upd W5.H Dd (.lst (vacc ++ [v]))⟩) W5.m _ _
          rw [f6]
          exact (racc.le l25).append (.cons rv .nil)
        · rw [e6]
          exact l2.trans (del_le l25 nz)
        · rw [List.length_append]
          show acc.length + 1 ≤ i + 1
          omega
        · rw [e6]
          refine h5.mono (fun rs W' k' l' q => ?_) fun _ _ _ _ _ q => q
          have q := q.pure0 k'
          rw [List.append_assoc]
          exact q
  · have ei : i = ds.length := by omega
    subst ei
    refine .inl ⟨hJ2.2 _ (Nat.le_refl _), ?_⟩
    rw [List.drop_length] at h2
    have h2 : Wp G z (W2.del Dd) (M.pure []) (fun xs W' => WtL G z Q (acc ++ xs) W') (exW G z Wx σ) := h2
    have q := h2.pure0 (del_mok k2 nz)
    rw [List.append_nil] at q
    have q2 := q vacc (by show Rps G ((W2.del Dd).F z) W2.m acc vacc; rw [del_F]; exact racc) Dd (by show (if Dd = Dd then none else W2.H Dd) = none; rw [if_pos rfl])
    have e : upd (W2.del Dd).H Dd (.lst vacc) = W2.H := by
      funext b
      by_cases hb : b = Dd
      · rw [hb, upd_same, hacc]
      · rw [upd_ne hb, del_H hb]
    rw [e] at q2
    exact q2
end DL
/-! DL9: SOUND: a checked expression does what the interpreter says -/
namespace DL
open PySem PyProof.Rows L2 PySem.Spec

structure Snd (G : Gx) (C : Nat → List D → M D) (Kc : Nat → D) (e : Ez) : Prop where
  E : ∀ {Γ X Wx}, Good G C Kc Γ X Wx → ∀ x, (ck e).e Γ x = true → PE X x (tD G Wx (ev C Kc e).e)
  T : ∀ {Γ X Wx}, Good G C Kc Γ X Wx → ∀ x, (ck e).t Γ x = true → PT X x (tT G Wx (ev C Kc e).t)
  Es : ∀ {Γ X Wx}, Good G C Kc Γ X Wx → ∀ xs, (ck e).es Γ xs = true → PA X xs (tA G Wx (ev C Kc e).es)
  I : ∀ {Γ X Wx}, Good G C Kc Γ X Wx → ∀ tg x, (ck e).i Γ (isTup tg) x = true → PI X tg x (tI G Wx (ev C Kc e).i)
  P : ∀ {Γ X Wx}, Good G C Kc Γ X Wx → ∀ o, (ck e).p Γ o = true → PO X o (tO G Wx (ev C Kc e).p)
  B : ∀ {Γ X Wx}, Good G C Kc Γ X Wx → ∀ o xs pos, (ck e).b Γ o xs = true → PE X (.BoolOp o xs pos) (tD G Wx ((ev C Kc e).b o))
  BT : ∀ {Γ X Wx}, Good G C Kc Γ X Wx → ∀ o xs pos, (ck e).bt Γ o xs = true → PW X (.BoolOp o xs pos) (tT G Wx ((ev C Kc e).bt o))
  L : ∀ {Γ X Wx}, Good G C Kc Γ X Wx → ∀ x, (ck e).l Γ x = true → PE X x (tL G Wx (ev C Kc e).l)

section
variable {G : Gx} {C : Nat → List D → M D} {Kc : Nat → D} {Γ : Cxt} {X : Cx} {Wx : WX} {f : Env → M D} {x : Expr}
theorem t_ofE (g : Good G C Kc Γ X Wx) (h : PE X x (tD G Wx f)) (hp : plainTest x = true) : PT X x (tT G Wx fun ρ => (f ρ).bind truth) := by
  refine impPT (pt_truth h (plain_of hp)) fun σ H Q h => un1 h fun z ρ W d v k r rv h => ?_
  rw [g.K]
  exact truth_ok k rv h
theorem i_ofE (g : Good G C Kc Γ X Wx) {tg : Expr} (h : PE X x (tD G Wx f)) : PI X tg x (tI G Wx fun ρ => (f ρ).bind still) := by
  refine impPI (pi_seq h) fun σ H Q h => un1 h fun z ρ W d v k r rv h => ?_
  rw [g.K]
  cases d with
  | lst xs =>
    cases rv with
    | @lst a vs ds h1 h2 => exact ⟨a, rfl, .inl ⟨⟨vs, SqL.of (F_sub h1)⟩, h.pure0 k _ (it_list h1 h2)⟩⟩
  | tup xs =>
    cases rv with
    | @tup a vs ds h1 h2 => exact ⟨a, rfl, .inr ⟨⟨vs, sqT_of h1⟩, h.pure0 k _ (it_tup h1 h2)⟩⟩
  | _ => exact (show False from h).elim
theorem p_ofE (g : Good G C Kc Γ X Wx) (h : PE X x (tD G Wx f)) : PO X (some x) (tO G Wx fun ρ => (f ρ).bind asInt) := by
  refine impPO (po_some h) fun σ H Q h => un1 h fun z ρ W d v k r rv h => ?_
  cases d with
  | int i =>
    cases rv
    exact ⟨i, rfl, h.pure0 k⟩
  | _ => exact (show False from h).elim
end
section
variable {G : Gx} {C : Nat → List D → M D} {Kc : Nat → D} {e : Ez}
theorem Snd.ofE {f : Env → M D} {c : Cxt → Expr → Bool} (h1 : ck e = Ck.ofE c) (h2 : ev C Kc e = Fn.ofE f) (h : ∀ {Γ X Wx}, Good G C Kc Γ X Wx → ∀ x, c Γ x = true → PE X x (tD G Wx f)) : Snd G C Kc e := by
  refine ⟨?_, ?_, ?_, ?_, ?_, ?_, ?_, ?_⟩
  all_goals rw [h1, h2]
  · exact fun g x hx => h g x hx
  · intro Γ X Wx g x hx
    obtain ⟨q1, q2⟩ := (Bool.and_eq_true_iff.mp (show (c Γ x && plainTest x) = true from hx))
    exact t_ofE g (h g x q1) q2
  · exact fun g x hx => nomatch (show false = true from hx)
  · intro Γ X Wx g tg x hx
    obtain ⟨q1, q2⟩ := (Bool.and_eq_true_iff.mp (show (c Γ x && notSet x) = true from hx))
    exact i_ofE g (h g x q1)
  · intro Γ X Wx g o hx
    cases o with
    | none => exact nomatch (show false = true from hx)
    | some x => exact p_ofE g (h g x hx)
  · exact fun g o x p hx => nomatch (show false = true from hx)
  · exact fun g o x p hx => nomatch (show false = true from hx)
  · exact fun g x hx => nomatch (show false = true from hx)
/-- as Snd.ofE, with a test of its own -/
theorem Snd.ofET {f : Env → M D} {c : Cxt → Expr → Bool} {ft : Env → M Bool} {ct : Cxt → Expr → Bool} (h1 : ck e = { Ck.ofE c with t := ct }) (h2 : ev C Kc e = { Fn.ofE f with t := ft }) (h : ∀ {Γ X Wx}, Good G C Kc Γ X Wx → ∀ x, c Γ x = true → PE X x (tD G Wx f))
    (ht : ∀ {Γ X Wx}, Good G C Kc Γ X Wx → ∀ x, ct Γ x = true → PT X x (tT G Wx ft)) : Snd G C Kc e := by
  refine ⟨?_, ?_, ?_, ?_, ?_, ?_, ?_, ?_⟩
  all_goals rw [h1, h2]
  · exact fun g x hx => h g x hx
  · exact fun g x hx => ht g x hx
  · exact fun g x hx => nomatch (show false = true from hx)
  · intro Γ X Wx g tg x hx
    obtain ⟨q1, q2⟩ := (Bool.and_eq_true_iff.mp (show (c Γ x && notSet x) = true from hx))
    exact i_ofE g (h g x q1)
  · intro Γ X Wx g o hx
    cases o with
    | none => exact nomatch (show false = true from hx)
    | some x => exact p_ofE g (h g x hx)
  · exact fun g o x p hx => nomatch (show false = true from hx)
  · exact fun g o x p hx => nomatch (show false = true from hx)
  · exact fun g x hx => nomatch (show false = true from hx)
/-- as Snd.ofE, with a new list -/
theorem Snd.ofEL {f : Env → M D} {c : Cxt → Expr → Bool} {fl : Env → M (List D)} {cl : Cxt → Expr → Bool} (h1 : ck e = { Ck.ofE c with l := cl }) (h2 : ev C Kc e = { Fn.ofE f with l := fl }) (h : ∀ {Γ X Wx}, Good G C Kc Γ X Wx → ∀ x, c Γ x = true → PE X x (tD G Wx f))
    (ht : ∀ {Γ X Wx}, Good G C Kc Γ X Wx → ∀ x, cl Γ x = true → PE X x (tL G Wx fl)) : Snd G C Kc e := by
  refine ⟨?_, ?_, ?_, ?_, ?_, ?_, ?_, ?_⟩
  all_goals rw [h1, h2]
  · exact fun g x hx => h g x hx
  · intro Γ X Wx g x hx
    obtain ⟨q1, q2⟩ := (Bool.and_eq_true_iff.mp (show (c Γ x && plainTest x) = true from hx))
    exact t_ofE g (h g x q1) q2
  · exact fun g x hx => nomatch (show false = true from hx)
  · intro Γ X Wx g tg x hx
    obtain ⟨q1, q2⟩ := (Bool.and_eq_true_iff.mp (show (c Γ x && notSet x) = true from hx))
    exact i_ofE g (h g x q1)
  · intro Γ X Wx g o hx
    cases o with
    | none => exact nomatch (show false = true from hx)
    | some x => exact p_ofE g (h g x hx)
  · exact fun g o x p hx => nomatch (show false = true from hx)
  · exact fun g o x p hx => nomatch (show false = true from hx)
  · exact fun g x hx => ht g x hx
theorem Snd.ofLL {fl : Env → M (List D)} {cl : Cxt → Expr → Bool} (h1 : ck e = { Ck.ofE cl with l := cl }) (h2 : ev C Kc e = Fn.ofL fl)
    (ht : ∀ {Γ X Wx}, Good G C Kc Γ X Wx → ∀ x, cl Γ x = true → PE X x (tL G Wx fl)) : Snd G C Kc e :=
  Snd.ofEL (f := fun ρ => (fl ρ).bind fun xs => M.pure (.lst xs)) h1 h2 (fun g x hx => impPE (ht g x hx) fun σ H Q q => tD_of_tL q) ht
theorem Snd.ofI {f : Env → M (List D)} {c : Cxt → Bool → Expr → Bool} (h1 : ck e = Ck.ofI c) (h2 : ev C Kc e = Fn.ofI f)
    (h : ∀ {Γ X Wx}, Good G C Kc Γ X Wx → ∀ tg x, c Γ (isTup tg) x = true → PI X tg x (tI G Wx f)) : Snd G C Kc e := by
  refine ⟨?_, ?_, ?_, ?_, ?_, ?_, ?_, ?_⟩
  all_goals rw [h1, h2]
  · exact fun g x hx => nomatch (show false = true from hx)
  · exact fun g x hx => nomatch (show false = true from hx)
  · exact fun g x hx => nomatch (show false = true from hx)
  · exact fun g tg x hx => h g tg x hx
  · intro Γ X Wx g o hx
    cases o <;> exact nomatch (show false = true from hx)
  · exact fun g o x p hx => nomatch (show false = true from hx)
  · exact fun g o x p hx => nomatch (show false = true from hx)
  · exact fun g x hx => nomatch (show false = true from hx)
end
theorem get_ok {G : Gx} {z : List Addr} {W : Wd} {ρ : Env} {σ : L2.St} {i : Nat} {P : D → Wd → Prop} {Ex : Nat → List D → Wd → Prop} (k : Mok G z W) (r : EnvR G z W ρ σ) (h : Wp G z W (get ρ i) P Ex) :
    ∃ d v, σ[i]? = some (some v) ∧ RpW G z W d v ∧ P d W := by
  unfold get at h
  cases e : ρ[i]? with
  | none => rw [e] at h; exact h.bad.elim
  | some o =>
    cases o with
    | none => rw [e] at h; exact h.bad.elim
    | some d =>
      rw [e] at h
      obtain ⟨v, h1, h2⟩ := r.at_ i d e
      exact ⟨d, v, h1, h2, h.pure0 k⟩
theorem res_ok {G : Gx} {z : List Addr} {W : Wd} {d : D} {v : V} {P : D → Wd → Prop} {Ex : Nat → List D → Wd → Prop} (k : Mok G z W) (r : RpW G z W d v) (h : Wp G z W (res d) P Ex) : ∃ d', RpW G z W d' v ∧ P d' W := by
  have stay : Wp G z W (M.pure d) P Ex → ∃ d', RpW G z W d' v ∧ P d' W := fun h => ⟨d, r, h.pure0 k⟩
  cases d with
  | ref n =>
    have h' : (res (.ref n) W.μ).good _ := h
    obtain ⟨a, rfl, hm⟩ := r.inv_ref
    cases e : W.μ[n]? with
    | none => simp only [res, e] at h'; exact stay h'
    | some o =>
      simp only [res, e] at h'
      cases o with
      | fro x => exact ⟨x, k.ob n a _ hm e, h' W rfl k (Le.refl _ _)⟩
      | lst _ => exact stay h'
      | dK _ => exact stay h'
      | dT _ => exact stay h'
      | cup => exact stay h'
  | _ => exact stay h
theorem frz_ok {G : Gx} {z : List Addr} {W : Wd} {d : D} {v : V} {P : D → Wd → Prop} {Ex : Nat → List D → Wd → Prop} (k : Mok G z W) (r : RpW G z W d v) (h : Wp G z W (frz d) P Ex) : ∃ d' W', W'.H = W.H ∧ Mok G z W' ∧ Le z W W' ∧ RpW G z W' d' v ∧ P d' W' := by
  have stay : Wp G z W (M.pure d) P Ex → ∃ d' W', W'.H = W.H ∧ Mok G z W' ∧ Le z W W' ∧ RpW G z W' d' v ∧ P d' W' := fun h => ⟨d, W, rfl, k, Le.refl _ _, r, h.pure0 k⟩
  cases d with
  | ref n =>
    have h' : (frz (.ref n) W.μ).good _ := h
    obtain ⟨a, rfl, hm⟩ := r.inv_ref
    cases e : W.μ[n]? with
    | none => simp only [frz, e] at h'; exact (show False from h').elim
    | some o =>
      simp only [frz, e] at h'
      cases o with
      | fro x => exact ⟨x, W, rfl, k, Le.refl _ _, k.ob n a _ hm e, h' W rfl k (Le.refl _ _)⟩
      | lst xs =>
        obtain ⟨k1, l1, r1⟩ := k.freeze hm e
        exact ⟨_, ⟨W.m, W.μ.set n (.fro (.lst xs)), W.H⟩, rfl, k1, l1, r1, h' ⟨W.m, W.μ.set n (.fro (.lst xs)), W.H⟩ rfl k1 l1⟩
      | dK _ => exact (show False from h').elim
      | dT _ => exact (show False from h').elim
      | cup => exact (show False from h').elim
  | _ => exact stay h
theorem T.good_and {α : Type} {P Q : α → Prop} : ∀ {t : T α}, t.good P → t.good Q → t.good fun a => P a ∧ Q a
  | .ret a, p, q => ⟨p, q⟩
  | .roll n k, p, q => fun r hr => T.good_and (p r hr) (q r hr)
def isBl : R D → Prop
  | .ok d _ => ∃ k, d = .bl k
  | _ => True
theorem bl_bind {α : Type} {m : M α} {f : α → M D} (h : ∀ a μ, (f a μ).good isBl) (μ : Mem) : (M.bind m f μ).good isBl := by
  have key : ∀ t : T (R α), (t.bind (M.andThen f)).good isBl := by
    intro t
    induction t with
    | ret r =>
      cases r with
      | ok a μ' => exact h a μ'
      | exc c xs μ' => exact True.intro
      | bad => exact True.intro
    | roll n k ih => exact fun r hr => ih r
  exact key (m μ)
theorem cmp_bl (c : Cp) (a b : D) (μ : Mem) : (cmpop c a b μ).good isBl := by
  have no : (M.bad (α := D) μ).good isBl := True.intro
  have yes : ∀ (k : Bool) (μ : Mem), (M.pure (.bl k) μ : T (R D)).good isBl := fun k μ => ⟨k, rfl⟩
  cases c with
  | eq =>
    show T.good ((match D.eqv a b with | some k => M.pure (.bl k) | none => M.bad : M D) μ) isBl
    cases D.eqv a b with
    | some k => exact yes _ _
    | none => exact no
  | ne =>
    show T.good ((match D.eqv a b with | some k => M.pure (.bl !k) | none => M.bad : M D) μ) isBl
    cases D.eqv a b with
    | some k => exact yes _ _
    | none => exact no
  | mem =>
    refine bl_bind (fun xs μ => ?_) μ
    split
    · exact yes _ _
    · exact True.intro
  | nmem =>
    refine bl_bind (fun xs μ => ?_) μ
    split
    · exact yes _ _
    · exact True.intro
  | isN => cases b <;> first | exact yes _ _ | exact no
  | notN => cases b <;> first | exact yes _ _ | exact no
  | _ => cases a <;> cases b <;> first | exact yes _ _ | exact no
theorem cmp_k {G : Gx} {z : List Addr} {W : Wd} {c : Cp} {a b : D} {P : D → Wd → Prop} {Ex : Nat → List D → Wd → Prop} (h : Wp G z W (cmpop c a b) P Ex) : Wp G z W (cmpop c a b) (fun d W' => (∃ k, d = .bl k) ∧ P d W') Ex := by
  refine T.good_mono (fun r q => ?_) (T.good_and (cmp_bl c a b W.μ) h)
  obtain ⟨q1, q2⟩ := q
  cases r with
  | ok d μ' => exact fun W' e k l => ⟨q1, q2 W' e k l⟩
  | exc c xs μ' => exact q2
  | bad => exact q2
theorem Run.bind {G : Gx} {Wx : WX} {α β : Type} {f : Env → M α} {k : α → M β} {σ : L2.St} {H : Hp} {P : List Addr → β → Wd → Prop} (h : Run G Wx (fun ρ => (f ρ).bind k) σ H P) : Run G Wx f σ H (fun z a W => Wp G z W (k a) (P z) (exW G z Wx σ)) :=
  let ⟨z, ρ, W, e, k, r, h⟩ := h
  ⟨z, ρ, W, e, k, r, h.bind⟩
theorem tri3 {G : Gx} {Wx : WX} {α : Type} {f : Env → M D} {l u : Env → M (Option Int)} {op : D → Option Int → Option Int → M α} {σ : L2.St} {H : Hp} {P : List Addr → α → Wd → Prop} {R : V → Option Int → Option Int → Hp → VK → Prop} {Q : VK}
    (h : Run G Wx (fun ρ => (f ρ).bind fun x => (l ρ).bind fun a => (u ρ).bind fun b => op x a b) σ H P)
    (hr : ∀ z W d v lo hi, Mok G z W → RpW G z W d v → Wp G z W (op d lo hi) (P z) (exW G z Wx σ) → R v lo hi W.H Q) : tSl R (tD G Wx f) (tO G Wx l) (tO G Wx u) σ H Q := by
  refine un1 h fun z ρ W d v k r rv h => ?_
  refine ⟨z, ρ, W, rfl, k, r, h.bind.mono (fun lo W1 k1 l1 h1 => ?_) fun _ _ _ _ _ q => q⟩
  refine ⟨z, ρ, W1, rfl, k1, r.le l1, h1.bind.mono (fun hi W2 k2 l2 h2 => ?_) fun _ _ _ _ _ q => q⟩
  exact hr z W2 d v lo hi k2 ((rv.le l1).le l2) h2
theorem pe_callS0 {X : Cx} {CX : CXT} {k : Nat} {f : Addr} {fd : FuncData} {ps : List Str} {sp : Sp} {E : L2.St → XK} {x : Str} {p pos : Pos} (F : FnOk X.prog X.w X.K X.mg X.base CX k f fd ps sp) (hr : Room k X.A) (hg : Gl X x)
    (hm : X.mg x = some (.ref f)) (hk : PySem.W.keepIn X.K (.ref f) = true) (hb : Binds X.K fd ps []) (hx : ∀ σ, PassesAt CX X σ (E σ)) (hdb : (x == ("__debug__" : Str)) = false) : PE X (.Call (.Name x p) [] [] pos) (fun σ H Q => sp [] H Q (E σ)) := by
  constructor
  intro pins s σ H Q I h
  exact wpAny_Call_Name_kw (ld_glob I hg hm (PySem.W.callWith_K0 I.kIn hk (run_fnS (us := []) F hr hb (hx σ) I .nil h)) hdb)
theorem nil_es {es : Ez} {Γ : Cxt} {C : Nat → List D → M D} {Kc : Nat → D} (h : (ck es).es Γ [] = true) : (ev C Kc es).es = fun _ => M.pure [] := by
  cases es with
  | nil => rfl
  | _ => exact absurd h (by simp [ck, Ck.ofE, Ck.ofI])
theorem Good.blk {G : Gx} {C : Nat → List D → M D} {Kc : Nat → D} {Γ : Cxt} {X : Cx} {Wx : WX} (g : Good G C Kc Γ X Wx) (st : Shared) (H : Hp) (s : Scope) (Cc : Addr) (cl : List (Str × Addr)) (fp : List Addr) :
    Good G C Kc { Γ with sc := relS s Γ.sc, own := some s } (X.blk st H s (compEnvC s cl Cc X.env) fp) W0 := by
  refine ⟨g.K, g.N, g.nd, ?_, g.calm, rfl, ?_, g.room, g.bi, g.con, g.gcd, g.fns, g.arity, g.calls⟩
  · show relabel s X.env = relS s Γ.sc
    rw [← g.sc]
    rfl
  · exact fun u s' x => by
      obtain ⟨_, _, _, _, _, _, _, _, _, _, _, _, _, _, _, _, z⟩ := x
      exact z.elim
theorem lens_of {α β : Type} {xs : List α} {ys : List β} (h : xs.length = ys.length) : (xs.zip ys).map (·.2) = ys := by
  rw [← List.unzip_snd, List.unzip_zip h]
theorem and4 {a b : Bool} (h : (a && b) = true) : a = true ∧ b = true := Bool.and_eq_true_iff.mp h

/-- all that the comprehension's rules ask -/
theorem lc_with {G : Gx} {C : Nat → List D → M D} {Kc : Nat → D} {Γ : Cxt} {X : Cx} {Wx : WX} (g : Good G C Kc Γ X Wx) {tg : Tz} {it cond elt : Ez} (sit : Snd G C Kc it) (scond : Snd G C Kc cond) (selt : Snd G C Kc elt) {x : Expr} (hx : (ck (.lc tg it cond elt)).e Γ x = true) {R : Prop}
    (hR : ∀ (y tgx itx : Expr) (ifs : List Expr) (s : Scope) (pos : Pos) (own : List (Str × Nat)), x = .ListComp y [⟨tgx, itx, ifs, 0⟩] s pos → own.map (·.2) = tg.slots → PI X tgx itx (tI G Wx (ev C Kc it).i) → BlkOk X.N X.env.scope s own →
      (∀ (st : Shared) (H : Hp) (Cc : Addr) (cl : List (Str × Addr)) (fp : List Addr), PG (X.blk st H s (compEnvC s cl Cc X.env) fp) tgx (tTg G tg)) →
      (∀ (st : Shared) (H : Hp) (Cc : Addr) (cl : List (Str × Addr)) (fp : List Addr), PTs (X.blk st H s (compEnvC s cl Cc X.env) fp) ifs (tT G W0 (ev C Kc cond).t)) →
      (∀ (st : Shared) (H : Hp) (Cc : Addr) (cl : List (Str × Addr)) (fp : List Addr), PE (X.blk st H s (compEnvC s cl Cc X.env) fp) y (tD G W0 (ev C Kc elt).e)) → (∀ v, foldedSetIterable itx X.env v = pure v) → R) : R := by
  have hx : ckLc tg (ck it) (ck cond) (ck elt) (isNil cond) Γ x = true := hx
  unfold ckLc at hx
  split at hx
  · rename_i y tgx itx ifs as s pos h0
    obtain ⟨hx, h6⟩ := and4 hx
    obtain ⟨hx, h5⟩ := and4 hx
    obtain ⟨hx, h4⟩ := and4 hx
    obtain ⟨hx, h3⟩ := and4 hx
    obtain ⟨h1, h2⟩ := and4 hx
    obtain ⟨h6, h8⟩ := and4 h6
    obtain ⟨h6, h7⟩ := and4 h6
    cases of_decide_eq_true h1
    have gb := fun st H Cc cl fp => g.blk st H s Cc cl fp
    refine hR y tgx itx ifs s pos _ rfl (lens_of (of_decide_eq_true h4)) (sit.I g tgx _ h3) (blkOk_by (by rw [g.N, g.sc]; exact h5)) (fun st H Cc cl fp => pg_ok (gb st H Cc cl fp) tg tgx h6) ?_ (fun st H Cc cl fp => selt.E (gb st H Cc cl fp) y h8) (set_of h2)
    intro st H Cc cl fp
    split at h7
    · cases cond with
      | nil =>
        refine ⟨fun pins s σ H Q I h => pts_nil.run pins s σ H Q I ?_⟩
        obtain ⟨z, ρ, W, e, k, rr, h⟩ := h
        subst e
        exact h.pure0 k
      | _ => cases h7
    · exact pts_one (scond.T (gb st H Cc cl fp) _ (and4 h7).2)
    · cases h7
  · cases hx

theorem snd {G : Gx} {C : Nat → List D → M D} {Kc : Nat → D} (e : Ez) : Snd G C Kc e := by
  induction e with
  | non =>
    refine Snd.ofE rfl rfl fun {Γ X Wx} g x hx => ?_
    split at hx
    · exact impPE pe_non fun σ H Q ⟨z, ρ, W, e, k, r, h⟩ => by subst e; exact h.pure0 k _ .non
    · cases hx
  | bl b =>
    refine Snd.ofE rfl rfl fun {Γ X Wx} g x hx => ?_
    split at hx
    · rw [← beq_iff_eq.mp hx]
      exact impPE pe_bl fun σ H Q ⟨z, ρ, W, e, k, r, h⟩ => by subst e; exact h.pure0 k _ (.bl _)
    · cases hx
  | int i =>
    refine Snd.ofE rfl rfl fun {Γ X Wx} g x hx => ?_
    split at hx
    · rw [← of_decide_eq_true hx]
      exact impPE pe_int fun σ H Q ⟨z, ρ, W, e, k, r, h⟩ => by subst e; exact h.pure0 k _ (.int _)
    · cases hx
  | str s =>
    refine Snd.ofE rfl rfl fun {Γ X Wx} g x hx => ?_
    split at hx
    · rw [← of_decide_eq_true hx]
      exact impPE pe_str fun σ H Q ⟨z, ρ, W, e, k, r, h⟩ => by subst e; exact h.pure0 k _ (.str _)
    · cases hx
  | var i =>
    refine Snd.ofE rfl rfl fun {Γ X Wx} g x hx => ?_
    split at hx
    · obtain ⟨hx, h3⟩ := and4 hx
      obtain ⟨h1, h2⟩ := and4 hx
      refine impPE (pe_var (i := i) (by rw [g.N]; exact of_decide_eq_true h1) (vis_of g.sc h2) (nm_of h3).1 (nm_of h3).2) ?_
      rintro σ H Q ⟨z, ρ, W, rfl, k, r, h⟩
      obtain ⟨d, v, e1, e2, h⟩ := get_ok k r h.bind
      obtain ⟨d', e3, h⟩ := res_ok k e2 h
      exact ⟨v, e1, h v e3⟩
    · cases hx
  | frz i =>
    refine Snd.ofE rfl rfl fun {Γ X Wx} g x hx => ?_
    split at hx
    · obtain ⟨hx, h3⟩ := and4 hx
      obtain ⟨h1, h2⟩ := and4 hx
      refine impPE (pe_var (i := i) (by rw [g.N]; exact of_decide_eq_true h1) (vis_of g.sc h2) (nm_of h3).1 (nm_of h3).2) ?_
      rintro σ H Q ⟨z, ρ, W, rfl, k, r, h⟩
      obtain ⟨d, v, e1, e2, h⟩ := get_ok k r h.bind
      obtain ⟨d', W', e0, k', l', e3, h⟩ := frz_ok k e2 h
      refine ⟨v, e1, ?_⟩
      rw [← e0]
      exact h v e3
    · cases hx
  | gfn kk =>
    refine Snd.ofE rfl rfl fun {Γ X Wx} g x hx => ?_
    split at hx
    · obtain ⟨hx, h3⟩ := and4 hx
      obtain ⟨h1, h2⟩ := and4 hx
      split at h1
      · rename_i y p zz n e
        cases of_decide_eq_true h1
        exact impPE (pe_glob (v := .ref (G.fa kk)) (gl_of g.sc h2) (g.fns _ _ _ e).1 rfl (nm_of h3).1) fun σ H Q ⟨z, ρ, W, e, k, r, h⟩ => by subst e; exact h.pure0 k _ (.fn _)
      · cases h1
    · cases hx
  | gcon kk =>
    refine Snd.ofE rfl rfl fun {Γ X Wx} g x hx => ?_
    split at hx
    · obtain ⟨hx, h3⟩ := and4 hx
      obtain ⟨h1, h2⟩ := and4 hx
      obtain ⟨v, u, e1, e2, e3⟩ := g.con _ _ (of_decide_eq_true h1)
      exact impPE (pe_glob (v := v) (gl_of g.sc h2) e1 e2 (nm_of h3).1) fun σ H Q ⟨z, ρ, W, e, k, r, h⟩ => by subst e; exact h.pure0 k _ (e3 _ _)
    · cases hx
  | gty n =>
    refine Snd.ofE rfl rfl fun {Γ X Wx} g x hx => ?_
    split at hx
    · obtain ⟨hx, h3⟩ := and4 hx
      obtain ⟨h1, h2⟩ := and4 hx
      obtain ⟨b1, b2, b3, b4⟩ := boot_type h1
      cases of_decide_eq_true h2
      exact impPE (pe_bltn (v := .ty n) (gl_of g.sc h3) (g.bi _ b4) b1 rfl b2 b3) fun σ H Q ⟨z, ρ, W, e, k, r, h⟩ => by subst e; exact h.pure0 k _ (.ty _)
    · cases hx
  | bin o a b iha ihb =>
    have key : ∀ {Γ X Wx}, Good G C Kc Γ X Wx → ∀ x, (match x with
      | .BinOp l op r _ => decide (op = o.op) && (ck a).e Γ l && (ck b).e Γ r
      | _ => false) = true → PE X x (tD G Wx fun ρ => ((ev C Kc a).e ρ).bind fun x => ((ev C Kc b).e ρ).bind fun y => binop o x y) := by
      intro Γ X Wx g x hx
      split at hx
      · obtain ⟨hx, h3⟩ := and4 hx
        obtain ⟨h1, h2⟩ := and4 hx
        cases of_decide_eq_true h1
        obtain ⟨r, h4, h5⟩ := bin_ok (G := G) g.K o
        exact impPE (pe_op h4 (iha.E g _ h2) (ihb.E g _ h3)) fun σ H Q h => bin2 h fun z ρ W d1 d2 v1 v2 k _ r1 r2 h => h5 z W d1 d2 v1 v2 Q _ k r1 r2 h
      · cases hx
    refine Snd.ofEL rfl rfl key fun {Γ X Wx} g x hx => ?_
    obtain ⟨h0, hx⟩ := and4 hx
    dsimp only at hx
    split at hx
    · obtain ⟨hx, h3⟩ := and4 hx
      obtain ⟨h1, h2⟩ := and4 hx
      cases of_decide_eq_true h1
      have h0 : o = .add ∨ o = .mul := by simpa only [Bool.or_eq_true, decide_eq_true_eq] using h0
      obtain ⟨r, h4, h5⟩ := binL_ok (G := G) g.K o h0
      exact impPE (pe_op h4 (iha.E g _ h2) (ihb.E g _ h3)) fun σ H Q h => bin2 h fun z ρ W d1 d2 v1 v2 k _ r1 r2 h => h5 z W d1 d2 v1 v2 Q _ k r1 r2 h
    · cases hx
  | neg a iha =>
    refine Snd.ofE rfl rfl fun {Γ X Wx} g x hx => ?_
    split at hx
    · refine impPE (pe_un un_neg (iha.E g _ hx)) fun σ H Q h => un1 h fun z ρ W d v k r rv h => ?_
      cases d with
      | int i =>
        cases rv
        exact ⟨i, rfl, h.pure0 k _ (.int _)⟩
      | _ => exact (show False from h).elim
    · cases hx
  | cmp c a b iha ihb =>
    refine Snd.ofET rfl rfl (fun {Γ X Wx} g x hx => ?_) fun {Γ X Wx} g x hx => ?_
    · split at hx
      · obtain ⟨hx, h4⟩ := and4 hx
        obtain ⟨hx, h3⟩ := and4 hx
        obtain ⟨h1, h2⟩ := and4 hx
        cases of_decide_eq_true h1
        obtain ⟨r, h5, h6⟩ := cmp_ok (G := G) g.K g.room c
        exact impPE (pe_cmpR h5 (iha.E g _ h3) (ihb.E g _ h4) (mark_of h2)) fun σ H Q h => bin2 h fun z ρ W d1 d2 v1 v2 k _ r1 r2 h => h6 z W d1 d2 v1 v2 Q _ k r1 r2 h
      · cases hx
    · split at hx
      · obtain ⟨hx, h4⟩ := and4 hx
        obtain ⟨hx, h3⟩ := and4 hx
        obtain ⟨h1, h2⟩ := and4 hx
        cases of_decide_eq_true h1
        obtain ⟨r, h5, h6⟩ := cmp_ok (G := G) g.K g.room c
        refine impPT (pt_cmpR h5 (iha.E g _ h3) (ihb.E g _ h4) (mark_of h2)) fun σ H Q h => ?_
        refine bin2 (Run.bind h) fun z ρ W d1 d2 v1 v2 k _ r1 r2 h => h6 z W d1 d2 v1 v2 _ _ k r1 r2 ((cmp_k h).mono (fun d W' k' l' h v rv => ?_) fun _ _ _ _ _ q => q)
        obtain ⟨⟨b, rfl⟩, h⟩ := h
        cases rv
        exact ⟨b, rfl, (show Wp G z W' (M.pure b) _ _ from h).pure0 k'⟩
      · cases hx
  | chain c c' a b d iha ihb ihd =>
    have two : ∀ {Γ X Wx} (g : Good G C Kc Γ X Wx) (r r' : R2) (l m n : Expr) (pos : Pos), (ck a).e Γ l = true → (ck b).e Γ m = true → (ck d).e Γ n = true → ∀ (Q : V → Hp → Prop) (σ : L2.St) (H : Hp),
        (∀ (z : List Addr) (W : Wd) (d1 d2 : D) (v1 v2 : V) (Q : VK) (Ex : Nat → List D → Wd → Prop), Mok G z W → RpW G z W d1 v1 → RpW G z W d2 v2 → Wp G z W (cmpop c d1 d2) (Wt G z Q) Ex → r v1 v2 W.H Q) →
        (∀ (z : List Addr) (W : Wd) (d1 d2 : D) (v1 v2 : V) (Q : VK) (Ex : Nat → List D → Wd → Prop), Mok G z W → RpW G z W d1 v1 → RpW G z W d2 v2 → Wp G z W (cmpop c' d1 d2) (Wt G z Q) Ex → r' v1 v2 W.H Q) →
        Run G Wx (fun ρ => ((ev C Kc a).e ρ).bind fun x => ((ev C Kc b).e ρ).bind fun y => (cmpop c x y).bind (chainop c' y ((ev C Kc d).e ρ))) σ H (fun z d W => (∃ k, d = D.bl k) → ∀ v, RpW G z W d v → Q v W.H) →
        tChain r r' (tD G Wx (ev C Kc a).e) (tD G Wx (ev C Kc b).e) (tD G Wx (ev C Kc d).e) σ H Q := by
      intro Γ X Wx g r r' l m n pos ha hb hd Q σ H hr hr' h
      refine bin2 h fun z ρ W d1 d2 v1 v2 k env r1 r2 h => hr z W d1 d2 v1 v2 _ _ k r1 r2 ((cmp_k h.bind).mono (fun q W1 k1 l1 h1 v rv => ?_) fun _ _ _ _ _ q => q)
      obtain ⟨⟨t, rfl⟩, h1⟩ := h1
      cases rv
      refine ⟨t, rfl, ?_⟩
      cases t with
      | true =>
        rw [if_pos rfl]
        have h1 : Wp G z W1 (((ev C Kc d).e ρ).bind fun z => cmpop c' d2 z) _ _ := h1
        exact ⟨z, ρ, W1, rfl, k1, env.le l1, h1.bind.mono (fun d3 W2 k2 l2 h2 v3 r3 => hr' z W2 d2 d3 v2 v3 _ _ k2 ((r2.le l1).le l2) r3 ((cmp_k h2).mono (fun q W3 k3 l3 h3 v rv => h3.2 h3.1 v rv) fun _ _ _ _ _ q => q)) fun _ _ _ _ _ q => q⟩
      | false =>
        rw [if_neg Bool.false_ne_true]
        have h1 : Wp G z W1 (M.pure (D.bl false)) _ _ := h1
        exact h1.pure0 k1 ⟨_, rfl⟩ _ (.bl _)
    refine Snd.ofET rfl rfl (fun {Γ X Wx} g x hx => ?_) fun {Γ X Wx} g x hx => ?_
    · split at hx
      · obtain ⟨hx, h7⟩ := and4 hx
        obtain ⟨hx, h6⟩ := and4 hx
        obtain ⟨hx, h5⟩ := and4 hx
        obtain ⟨hx, h4⟩ := and4 hx
        obtain ⟨hx, h3⟩ := and4 hx
        obtain ⟨h1, h2⟩ := and4 hx
        cases of_decide_eq_true h1
        cases of_decide_eq_true h2
        obtain ⟨r, q1, q2⟩ := cmp_ok (G := G) g.K g.room c
        obtain ⟨r', q3, q4⟩ := cmp_ok (G := G) g.K g.room c'
        refine impPE (pe_chain q1 q3 (iha.E g _ h5) (ihb.E g _ h6) (ihd.E g _ h7) (show behindInMarks _ _ = false from mark_of h3)) fun σ H Q h => two g r r' _ _ _ ⟨0, 0, 0, 0⟩ h5 h6 h7 Q σ H q2 q4 ?_
        obtain ⟨z, ρ, W, e, k, rr, h⟩ := h
        exact ⟨z, ρ, W, e, k, rr, h.mono (fun d W' k' l' q _ => q) fun _ _ _ _ _ q => q⟩
      · cases hx
    · split at hx
      · obtain ⟨hx, h7⟩ := and4 hx
        obtain ⟨hx, h6⟩ := and4 hx
        obtain ⟨hx, h5⟩ := and4 hx
        obtain ⟨hx, h4⟩ := and4 hx
        obtain ⟨hx, h3⟩ := and4 hx
        obtain ⟨h1, h2⟩ := and4 hx
        cases of_decide_eq_true h1
        cases of_decide_eq_true h2
        obtain ⟨r, q1, q2⟩ := cmp_ok (G := G) g.K g.room c
        obtain ⟨r', q3, q4⟩ := cmp_ok (G := G) g.K g.room c'
        refine impPT (pt_chain q1 q3 (iha.E g _ h5) (ihb.E g _ h6) (ihd.E g _ h7) (show behindInMarks _ _ = false from mark_of h3)) fun σ H Q h => two g r r' _ _ _ ⟨0, 0, 0, 0⟩ h5 h6 h7 _ σ H q2 q4 ?_
        obtain ⟨z, ρ, W, e, k, rr, h⟩ := Run.bind h
        refine ⟨z, ρ, W, e, k, rr, h.mono (fun d W' k' l' q hb v rv => ?_) fun _ _ _ _ _ q => q⟩
        obtain ⟨b, rfl⟩ := hb
        cases rv
        exact ⟨b, rfl, (show Wp G z W' (M.pure b) _ _ from q).pure0 k'⟩
      · cases hx
  | bool o es ih =>
    refine Snd.ofET rfl rfl (fun {Γ X Wx} g x hx => ?_) fun {Γ X Wx} g x hx => ?_
    · split at hx
      · obtain ⟨h1, h2⟩ := and4 hx
        cases of_decide_eq_true h1
        exact ih.B g _ _ _ h2
      · cases hx
    · split at hx
      · obtain ⟨h1, h2⟩ := and4 hx
        cases of_decide_eq_true h1
        exact (ih.BT g _ _ _ h2).pt
      · cases hx
  | not a iha =>
    refine Snd.ofET rfl rfl (fun {Γ X Wx} g x hx => ?_) fun {Γ X Wx} g x hx => ?_
    · split at hx
      · refine impPE (pe_notT (iha.E g _ hx)) fun σ H Q h => un1 h fun z ρ W d v k r rv h => ?_
        obtain ⟨b, h1, h2⟩ := truth_ok k rv h.bind
        rw [g.K]
        exact ⟨b, h1, h2.pure0 k _ (.bl _)⟩
      · cases hx
    · split at hx
      · refine impPT (pt_not (iha.T g _ hx)) fun σ H Q h => ?_
        obtain ⟨z, ρ, W, e, k, rr, h⟩ := Run.bind h
        exact ⟨z, ρ, W, e, k, rr, h.mono (fun d W' k' l' q => q.pure0 k') fun _ _ _ _ _ q => q⟩
      · cases hx
  | ife c a b ihc iha ihb =>
    refine Snd.ofE rfl rfl fun {Γ X Wx} g x hx => ?_
    split at hx
    · obtain ⟨hx, h3⟩ := and4 hx
      obtain ⟨h1, h2⟩ := and4 hx
      refine impPE (pe_ifExp (ihc.T g _ h1) (iha.E g _ h2) (ihb.E g _ h3)) fun σ H Q h => ?_
      obtain ⟨z, ρ, W, e, k, rr, h⟩ := h
      refine ⟨z, ρ, W, e, k, rr, h.bind.mono (fun t W' k' l' q => ?_) fun _ _ _ _ _ q => q⟩
      cases t with
      | true =>
        rw [if_pos rfl]
        rw [if_pos rfl] at q
        exact ⟨z, ρ, W', rfl, k', rr.le l', q⟩
      | false =>
        rw [if_neg Bool.false_ne_true]
        rw [if_neg Bool.false_ne_true] at q
        exact ⟨z, ρ, W', rfl, k', rr.le l', q⟩
    · cases hx
  | tup es ih =>
    refine Snd.ofE rfl rfl fun {Γ X Wx} g x hx => ?_
    split at hx
    · refine impPE (pe_tup (ih.Es g _ hx)) fun σ H Q h => ?_
      obtain ⟨z, ρ, W, e, k, rr, h⟩ := h
      refine ⟨z, ρ, W, e, k, rr, h.bind.mono (fun ds W' k' l' q vs rv => ?_) fun _ _ _ _ _ q => q⟩
      have q := q.bind
      unfold lenOk at q
      rcases q.ite with ⟨q1, q⟩ | ⟨_, q⟩
      · exact ⟨by rw [← rv.len]; exact q1, new_tup k' rv (q.pure0 k')⟩
      · exact q.bad.elim
    · cases hx
  | lst es ih =>
    refine Snd.ofLL rfl rfl fun {Γ X Wx} g x hx => ?_
    split at hx
    · refine impPE (pe_lst (ih.Es g _ hx)) fun σ H Q h => ?_
      obtain ⟨z, ρ, W, e, k, rr, h⟩ := h
      refine ⟨z, ρ, W, e, k, rr, h.bind.mono (fun ds W' k' l' q vs rv => ?_) fun _ _ _ _ _ q => q⟩
      unfold lenOk at q
      rcases q.ite with ⟨q1, q⟩ | ⟨_, q⟩
      · exact ⟨by rw [← rv.len]; exact q1, fun p hp => q.pure0 k' vs rv p hp⟩
      · exact q.bad.elim
    · cases hx
  | idx a i iha ihi =>
    refine Snd.ofE rfl rfl fun {Γ X Wx} g x hx => ?_
    split at hx
    · obtain ⟨hx, h3⟩ := and4 hx
      obtain ⟨h1, h2⟩ := and4 hx
      refine impPE (pe_ix ix_seq (iha.E g _ h2) (ihi.E g _ h3) (slice_of h1)) fun σ H Q h => bin2 h fun z ρ W d1 d2 v1 v2 k _ r1 r2 h => ?_
      cases d2 with
      | int i =>
        cases r2
        obtain ⟨a, xs, vs, rfl, q1, q2, q3, q4, q5⟩ := seqA_ok k r1 (show Wp G z W ((seqA d1).bind fun xs => M.opt (L2.atI xs i)) _ _ from h).bind
        obtain ⟨d, e, q⟩ := q3.opt k
        obtain ⟨v, e2, rv⟩ := atI_of q2 e
        rw [g.K]
        rcases q1 with q1 | q1
        · exact .inl ⟨a, vs, i, v, rfl, rfl, q1, e2, q v rv⟩
        · exact .inr (.inl ⟨a, vs, i, v, rfl, rfl, q1, e2, q v rv⟩)
      | _ => exact (show False from h).elim
    · cases hx
  | slc a lo hi iha ihl ihh =>
    refine Snd.ofEL rfl rfl (fun {Γ X Wx} g x hx => ?_) fun {Γ X Wx} g x hx => ?_
    · split at hx
      · obtain ⟨hx, h3⟩ := and4 hx
        obtain ⟨h1, h2⟩ := and4 hx
        refine impPE (pe_slice (sl_tupA.or sl_list) (iha.E g _ h1) (ihl.P g _ h2) (ihh.P g _ h3)) fun σ H Q h => tri3 (op := fun x l h => slcop l h x) h fun z W' d v lo hi k' rv h => ?_
        rw [g.K]
        by_cases ht : ∃ xs, d = D.tup xs
        · obtain ⟨xs, rfl⟩ := ht
          cases rv with
          | @tup a vs ds h1 h2 =>
            refine .inl ⟨a, vs, rfl, sqT_of h1, fun e => ?_, fun _ => new_tup k' (cut_of h2) h⟩
            have e2 : cut xs lo hi = xs := by
              unfold cut
              rw [h2.len, e.1, e.2, List.drop_zero, Nat.sub_zero, ← h2.len, List.take_length]
            have h : Wp G z W' (M.pure (D.tup (cut xs lo hi))) _ _ := h
            rw [e2] at h
            exact h.pure0 k' _ (.tup h1 h2)
        · have h : Wp G z W' ((seqL d).bind fun xs => M.pure (D.lst (cut xs lo hi))) (Wt G z Q) (exW G z Wx σ) := by
            cases d with
            | tup xs => exact absurd ⟨xs, rfl⟩ ht
            | _ => exact h
          obtain ⟨a, xs, vs, rfl, q1, q2, q3⟩ := seqL_ok k' rv h.bind
          exact .inr ⟨a, vs, rfl, SqL.of q1, fun p hp => new_lst k' (cut_of q2) q3 p hp⟩
      · cases hx
    · split at hx
      · obtain ⟨hx, h3⟩ := and4 hx
        obtain ⟨h1, h2⟩ := and4 hx
        refine impPE (pe_slice (sl_tupA.or sl_list) (iha.E g _ h1) (ihl.P g _ h2) (ihh.P g _ h3)) fun σ H Q h => tri3 (op := fun x l h => (seqL x).bind fun xs => M.pure (cut xs l h)) h fun z W' d v lo hi k' rv h => ?_
        rw [g.K]
        obtain ⟨a, xs, vs, rfl, q1, q2, q3⟩ := seqL_ok k' rv h.bind
        exact .inr ⟨a, vs, rfl, SqL.of q1, fun p hp => q3.pure0 k' _ (cut_of q2) p hp⟩
      · cases hx
  | call kk es ih =>
    refine Snd.ofE rfl rfl fun {Γ X Wx} g x hx => ?_
    split at hx
    · rename_i y p xs pos
      obtain ⟨hx, h5⟩ := and4 hx
      obtain ⟨hx, h4⟩ := and4 hx
      obtain ⟨hx, h3⟩ := and4 hx
      obtain ⟨h1, h2⟩ := and4 hx
      split at h1
      · rename_i zz n e
        obtain ⟨a1, a2⟩ := and4 h1
        cases of_decide_eq_true a1
        obtain ⟨j, fd, ps, hr, hb, F⟩ := g.calls _ _ _ e
        obtain ⟨m1, m2⟩ := g.fns _ _ _ e
        have fin : ∀ σ H Q, tD G Wx (fun ρ => ((ev C Kc es).es ρ).bind (C kk)) σ H Q → tA G Wx (ev C Kc es).es σ H fun vs H1 => spD G n (C kk) vs H1 Q (WE Wx σ) := by
          rintro σ H Q ⟨z, ρ, W, e0, k, rr, h⟩
          exact ⟨z, ρ, W, e0, k, rr, h.bind.mono (fun ds W1 k1 l1 h1 vs rv => ⟨z, ds, W1, rfl, by rw [← rv.len]; exact g.arity _ _ _ e _ _ _ _ _ h1, k1, rv, h1⟩) fun _ _ _ _ _ q => q⟩
        cases xs with
        | nil =>
          refine impPE (pe_callS0 F hr (gl_of g.sc h2) m1 m2 hb (fun σ => passAt g.tk σ) (nm_of h3).1) fun σ H Q h => ?_
          have e2 : (ev C Kc es).es = fun _ => M.pure [] := nil_es h5
          have h := fin σ H Q h
          rw [e2] at h
          obtain ⟨z, ρ, W, e0, k, rr, hq⟩ := h
          subst e0
          exact Wp.pure0 hq k [] .nil
        | cons e0 es0 =>
          have h6 := h4
          simp only [List.all_cons, Bool.and_eq_true] at h6
          exact impPE (pe_callS F hr (gl_of g.sc h2) m1 m2 hb (fun σ => passAt g.tk σ) (ih.Es g _ h5) (nm_of h3).1 (star_of h6.1) (stars_false h6.2)) fin
      · cases h1
    · cases hx
  | mkl a iha =>
    refine Snd.ofE rfl rfl fun {Γ X Wx} g x hx => impPE (iha.L g x hx) fun σ H Q h => ?_
    obtain ⟨z, ρ, W, e, k, rr, h⟩ := h
    refine ⟨z, ρ, W, e, k, rr, h.bind.mono (fun ds W1 k1 l1 h1 vs rv p hp => ?_) fun _ _ _ _ _ q => q⟩
    obtain ⟨k2, l2, m2⟩ := k1.newRef (o := .lst vs) (ob := .lst ds) hp (fun _ q => nomatch q) fun F e => ⟨vs, upd_same, rv.mono e fun i a q => by
      have hi : i < W1.m.length := (List.getElem?_eq_some_iff.mp q).1
      rw [List.getElem?_append_left hi]
      exact q⟩
    exact h1 ⟨W1.m ++ [p], W1.μ ++ [.lst ds], upd W1.H p (.lst vs)⟩ rfl k2 l2 (.ref p) (.ref m2)
  | bf f es ih =>
    refine Snd.ofEL rfl rfl (fun {Γ X Wx} g x hx => ?_) fun {Γ X Wx} g x hx => ?_
    · unfold ckBf at hx
      split at hx
      · rename_i y p xs pos
        obtain ⟨hx, h5⟩ := and4 hx
        obtain ⟨hx, h4⟩ := and4 hx
        obtain ⟨hx, h3⟩ := and4 hx
        obtain ⟨hx, h2⟩ := and4 hx
        obtain ⟨h0, h1⟩ := and4 hx
        cases of_decide_eq_true h0
        cases xs with
        | nil =>
          have q := of_decide_eq_true h1
          cases f <;> cases q
        | cons e0 es0 =>
          simp only [List.all_cons, Bool.and_eq_true] at h3
          obtain ⟨r, q1, q2⟩ := bf_ok g f h4 (p := p) (pos := pos) (gl_of g.sc h2) (ih.Es g _ h5) (star_of h3.1) (stars_false h3.2)
          refine impPE q1 fun σ H Q h => ?_
          obtain ⟨z, ρ, W, e0, k, rr, h⟩ := h
          exact ⟨z, ρ, W, e0, k, rr, h.bind.mono (fun ds W1 k1 l1 h1 vs rv => q2 z W1 ds vs Q _ k1 rv h1) fun _ _ _ _ _ q => q⟩
      · cases hx
    · obtain ⟨hf, hx⟩ := and4 hx
      cases of_decide_eq_true hf
      unfold ckBf at hx
      split at hx
      · rename_i y p xs pos h0
        obtain ⟨hx, h5⟩ := and4 hx
        obtain ⟨hx, h4⟩ := and4 hx
        obtain ⟨hx, h3⟩ := and4 hx
        obtain ⟨hx, h2⟩ := and4 hx
        obtain ⟨h0, h1⟩ := and4 hx
        cases of_decide_eq_true h0
        cases xs with
        | nil => cases of_decide_eq_true h1
        | cons e0 es0 =>
          simp only [List.all_cons, Bool.and_eq_true] at h3
          obtain ⟨r, q1, q2⟩ := bfLs_ok g (p := p) (pos := pos) (gl_of g.sc h2) (ih.Es g _ h5) (star_of h3.1) (stars_false h3.2)
          refine impPE q1 fun σ H Q h => ?_
          obtain ⟨z, ρ, W, e0, k, rr, h⟩ := h
          exact ⟨z, ρ, W, e0, k, rr, h.bind.mono (fun ds W1 k1 l1 h1 vs rv => q2 z W1 ds vs Q _ k1 rv h1) fun _ _ _ _ _ q => q⟩
      · cases hx
  | lc tg it cond elt ih1 ih2 ih3 =>
    refine Snd.ofLL rfl rfl fun {Γ X Wx} g x hx => ?_
    refine lc_with g ih1 ih2 ih3 hx fun y tgx itx ifs s pos own e eo p1 p2 p3 p4 p5 p6 => ?_
    subst e
    have P := pe_lc (X := X) (pos := pos) g.calm (by rw [g.N]; exact g.nd) p1 p2 p3 p4 p5 p6
    rw [eo] at P
    exact impPE P fun σ H Q h => lc_ok h
  | range1 a iha =>
    refine Snd.ofI rfl rfl fun {Γ X Wx} g tg x hx => ?_
    split at hx
    · obtain ⟨hx, h4⟩ := and4 hx
      obtain ⟨hx, h3⟩ := and4 hx
      obtain ⟨h1, h2⟩ := and4 hx
      cases of_decide_eq_true h1
      refine impPI (pi_range1 (gl_of g.sc h2) (g.bi _ (by decide)) (pa_cons (iha.E g _ h4) pa_nil (star_of h3)) (star_of h3)) fun σ H Q h => un1 h fun z ρ W d v k r rv h => ?_
      cases d with
      | int n =>
        cases rv
        rcases (show Wp G z W (if -lim ≤ n ∧ n < lim then M.pure ((List.range n.toNat).map fun (i : Nat) => D.int (i : Int)) else M.bad) _ _ from h).ite with ⟨q, h⟩ | ⟨q, h⟩
        · refine ⟨n, rfl, q.1, q.2, h.pure0 k _ ?_⟩
          have e : (fun (i : Nat) => D.int (0 + (i : Int))) = fun (i : Nat) => D.int (i : Int) := by
            funext i
            rw [Int.zero_add]
          have w := it_rng (G := G) (F := W.F z) (m := W.m) (lo := 0) (n := n.toNat)
          rw [e] at w
          exact w
        · exact h.bad.elim
      | _ => exact (show False from h).elim
    · cases hx
  | range2 a b iha ihb =>
    refine Snd.ofI rfl rfl fun {Γ X Wx} g tg x hx => ?_
    split at hx
    · obtain ⟨hx, h6⟩ := and4 hx
      obtain ⟨hx, h5⟩ := and4 hx
      obtain ⟨hx, h4⟩ := and4 hx
      obtain ⟨hx, h3⟩ := and4 hx
      obtain ⟨h1, h2⟩ := and4 hx
      cases of_decide_eq_true h1
      refine impPI (pi_range2 (gl_of g.sc h2) (g.bi _ (by decide)) (pa_cons (iha.E g _ h5) (pa_cons (ihb.E g _ h6) pa_nil (star_of h4)) (star_of h3)) (by rw [star_of h3, star_of h4]; rfl) (star_of h4)) fun σ H Q h => bin2 h fun z ρ W d1 d2 v1 v2 k _ r1 r2 h => ?_
      have q : ∃ i j, d1 = .int i ∧ d2 = .int j := by
        cases d1 <;> first
          | exact (show False from h).elim
          | (cases d2 <;> first | exact ⟨_, _, rfl, rfl⟩ | exact (show False from h).elim)
      obtain ⟨i, j, rfl, rfl⟩ := q
      cases r1
      cases r2
      rcases (show Wp G z W (if (-lim ≤ i ∧ i < lim) ∧ (-lim ≤ j ∧ j < lim) then M.pure ((List.range (j - i).toNat).map fun (k : Nat) => D.int (i + (k : Int))) else M.bad) _ _ from h).ite with ⟨q, h⟩ | ⟨q, h⟩
      · exact ⟨i, j, rfl, ⟨q.1.1, q.1.2, q.2.1, q.2.2⟩, h.pure0 k _ it_rng⟩
      · exact h.bad.elim
    · cases hx
  | enum a iha =>
    refine Snd.ofI rfl rfl fun {Γ X Wx} g tg x hx => ?_
    split at hx
    · obtain ⟨hx, h4⟩ := and4 hx
      obtain ⟨hx, h3⟩ := and4 hx
      obtain ⟨hx, h2⟩ := and4 hx
      obtain ⟨h0, h1⟩ := and4 hx
      cases of_decide_eq_true h1
      cases tg with
      | Tuple es kk tp =>
        refine impPI (pi_enum (gl_of g.sc h2) (g.bi _ (by decide)) (pa_cons (iha.E g _ h4) pa_nil (star_of h3)) (star_of h3)) fun σ H Q h => un1 h fun z ρ W d v k r rv h => ?_
        cases d with
        | lst xs =>
          cases rv with
          | @lst a vs ds h1 h2 =>
            rw [g.K]
            exact ⟨a, vs, rfl, SqL.of (F_sub h1), h.pure0 k _ (it_enum h1 h2)⟩
        | _ => exact (show False from h).elim
      | _ => cases h0
    · cases hx
  | zip a b iha ihb =>
    refine Snd.ofI rfl rfl fun {Γ X Wx} g tg x hx => ?_
    split at hx
    · obtain ⟨hx, h6⟩ := and4 hx
      obtain ⟨hx, h5⟩ := and4 hx
      obtain ⟨hx, h4⟩ := and4 hx
      obtain ⟨hx, h3⟩ := and4 hx
      obtain ⟨hx, h2⟩ := and4 hx
      obtain ⟨h0, h1⟩ := and4 hx
      cases of_decide_eq_true h1
      cases tg with
      | Tuple es kk tp =>
        refine impPI (RZ.pi_zipA (gl_of g.sc h2) (g.bi _ (by decide)) (pa_cons (iha.E g _ h5) (pa_cons (ihb.E g _ h6) pa_nil (star_of h4)) (star_of h3)) (star_of h3) (by rw [star_of h4]; rfl)) fun σ H Q h => bin2 h fun z ρ W d1 d2 v1 v2 k _ r1 r2 h => ?_
        rw [g.K]
        cases d1 with
        | lst xs =>
          cases d2 with
          | lst ys =>
            cases r1 with
            | @lst a vs ds h1 h2 =>
              cases r2 with
              | @lst b us es h3 h4 => exact ⟨a, b, vs, us, rfl, .inl ⟨SqL.of (F_sub h1), SqL.of (F_sub h3), h.pure0 k _ (it_zipL h1 h3 h2 h4)⟩⟩
          | _ => exact (show False from h).elim
        | tup xs =>
          cases d2 with
          | tup ys =>
            cases r1 with
            | @tup a vs ds h1 h2 =>
              cases r2 with
              | @tup b us es h3 h4 => exact ⟨a, b, vs, us, rfl, .inr ⟨sqT_of h1, sqT_of h3, h.pure0 k _ (it_zipT h1 h3 h2 h4)⟩⟩
          | _ => exact (show False from h).elim
        | _ => exact (show False from h).elim
      | _ => cases h0
    · cases hx
  | nil =>
    refine ⟨?_, ?_, ?_, ?_, ?_, ?_, ?_, ?_⟩
    · exact fun g x hx => nomatch (show false = true from hx)
    · exact fun g x hx => nomatch (show false = true from hx)
    · intro Γ X Wx g xs hx
      cases xs with
      | nil =>
        refine impPA pa_nil fun σ H Q ⟨z, ρ, W, e, k, rr, h⟩ => ?_
        subst e
        exact h.pure0 k [] .nil
      | cons _ _ => cases hx
    · exact fun g tg x hx => nomatch (show false = true from hx)
    · intro Γ X Wx g o hx
      cases o with
      | none =>
        refine impPO po_none fun σ H Q ⟨z, ρ, W, e, k, rr, h⟩ => ?_
        subst e
        exact h.pure0 k
      | some _ => cases hx
    · exact fun g o x p hx => nomatch (show false = true from hx)
    · exact fun g o x p hx => nomatch (show false = true from hx)
    · exact fun g x hx => nomatch (show false = true from hx)
  | cons e es ihe ihes =>
    refine ⟨?_, ?_, ?_, ?_, ?_, ?_, ?_, ?_⟩
    · exact fun g x hx => nomatch (show false = true from hx)
    · exact fun g x hx => nomatch (show false = true from hx)
    · intro Γ X Wx g xs hx
      cases xs with
      | nil => cases hx
      | cons y ys =>
        have hx : (notStar y && (ck e).e Γ y && (ck es).es Γ ys) = true := hx
        obtain ⟨hx, h3⟩ := and4 hx
        obtain ⟨h1, h2⟩ := and4 hx
        refine impPA (pa_cons (ihe.E g _ h2) (ihes.Es g _ h3) (star_of h1)) fun σ H Q h => ?_
        refine un1 h fun z ρ W d v k r rv h => ?_
        exact ⟨z, ρ, W, rfl, k, r, h.bind.mono (fun ds W1 k1 l1 h1 vs rvs => h1.pure0 k1 (v :: vs) (.cons (rv.le l1) rvs)) fun _ _ _ _ _ q => q⟩
    · exact fun g tg x hx => nomatch (show false = true from hx)
    · exact fun g o hx => nomatch (show false = true from hx)
    · intro Γ X Wx g o xs pos hx
      match xs, hx with
      | [y], hx =>
        obtain ⟨h1, h2⟩ := and4 (show (_ && (ck e).e Γ y) = true from hx)
        cases es with
        | nil => exact pe_one (ihe.E g _ h2)
        | _ => cases h1
      | y :: z :: ys, hx =>
        obtain ⟨h1, h3⟩ := and4 (show (_ && (ck e).e Γ y && (ck es).b Γ o (z :: ys)) = true from hx)
        obtain ⟨h1, h2⟩ := and4 h1
        cases es with
        | cons e2 es2 =>
          cases o with
          | And =>
            refine impPE (pe_andT (ihe.E g _ h2) (ihes.B g _ _ _ h3)) fun σ H Q h => ?_
            have h : Run G Wx (fun ρ => ((ev C Kc e).e ρ).bind fun x => (truth x).bind fun k => boolV .And k x ((ev C Kc (.cons e2 es2)).b .And ρ)) σ H fun z d W => ∀ v, RpW G z W d v → Q v W.H := h
            refine un1 h fun z ρ W d v k r rv h => ?_
            obtain ⟨b, q1, q2⟩ := truth_ok k rv h.bind
            rw [g.K]
            refine ⟨b, q1, ?_⟩
            cases b with
            | true =>
              rw [if_pos rfl]
              exact ⟨z, ρ, W, rfl, k, r, q2⟩
            | false =>
              rw [if_neg Bool.false_ne_true]
              exact (show Wp G z W (M.pure d) _ _ from q2).pure0 k v rv
          | Or =>
            refine impPE (pe_orT (ihe.E g _ h2) (ihes.B g _ _ _ h3)) fun σ H Q h => ?_
            have h : Run G Wx (fun ρ => ((ev C Kc e).e ρ).bind fun x => (truth x).bind fun k => boolV .Or k x ((ev C Kc (.cons e2 es2)).b .Or ρ)) σ H fun z d W => ∀ v, RpW G z W d v → Q v W.H := h
            refine un1 h fun z ρ W d v k r rv h => ?_
            obtain ⟨b, q1, q2⟩ := truth_ok k rv h.bind
            rw [g.K]
            refine ⟨b, q1, ?_⟩
            cases b with
            | false =>
              rw [if_neg Bool.false_ne_true]
              exact ⟨z, ρ, W, rfl, k, r, q2⟩
            | true =>
              rw [if_pos rfl]
              exact (show Wp G z W (M.pure d) _ _ from q2).pure0 k v rv
        | _ => cases h1
      | [], hx => cases hx
    · intro Γ X Wx g o xs pos hx
      match xs, hx with
      | [y], hx =>
        obtain ⟨h1, h2⟩ := and4 (show (_ && (ck e).t Γ y) = true from hx)
        cases es with
        | nil =>
          cases o with
          | And => exact pw_and1 (ihe.T g _ h2)
          | Or => exact pw_or1 (ihe.T g _ h2)
        | _ => cases h1
      | y :: z :: ys, hx =>
        obtain ⟨h1, h3⟩ := and4 (show (_ && (ck e).t Γ y && (ck es).bt Γ o (z :: ys)) = true from hx)
        obtain ⟨h1, h2⟩ := and4 h1
        cases es with
        | cons e2 es2 =>
          cases o with
          | And =>
            refine impPW (pw_and (ihe.T g _ h2) (ihes.BT g _ _ _ h3)) fun σ H Q h => ?_
            have h : Run G Wx (fun ρ => ((ev C Kc e).t ρ).bind fun k => boolT .And k ((ev C Kc (.cons e2 es2)).bt .And ρ)) σ H fun z b W => Q b W.H := h
            obtain ⟨z, ρ, W, e0, k, rr, h⟩ := h
            refine ⟨z, ρ, W, e0, k, rr, h.bind.mono (fun b W1 k1 l1 q2 => ?_) fun _ _ _ _ _ q => q⟩
            cases b with
            | true =>
              rw [if_pos rfl]
              exact ⟨z, ρ, W1, rfl, k1, rr.le l1, q2⟩
            | false =>
              rw [if_neg Bool.false_ne_true]
              exact (show Wp G z W1 (M.pure false) _ _ from q2).pure0 k1
          | Or =>
            refine impPW (pw_or (ihe.T g _ h2) (ihes.BT g _ _ _ h3)) fun σ H Q h => ?_
            have h : Run G Wx (fun ρ => ((ev C Kc e).t ρ).bind fun k => boolT .Or k ((ev C Kc (.cons e2 es2)).bt .Or ρ)) σ H fun z b W => Q b W.H := h
            obtain ⟨z, ρ, W, e0, k, rr, h⟩ := h
            refine ⟨z, ρ, W, e0, k, rr, h.bind.mono (fun b W1 k1 l1 q2 => ?_) fun _ _ _ _ _ q => q⟩
            cases b with
            | false =>
              rw [if_neg Bool.false_ne_true]
              exact ⟨z, ρ, W1, rfl, k1, rr.le l1, q2⟩
            | true =>
              rw [if_pos rfl]
              exact (show Wp G z W1 (M.pure true) _ _ from q2).pure0 k1
        | _ => cases h1
      | [], hx => cases hx
    · exact fun g x hx => nomatch (show false = true from hx)
end DL
/-! DL10: statements -/
namespace DL
open PySem PyProof.Rows L2 PySem.Spec

/-! ### the check -/
/-- names stored from the right, or one after another -/
def swNames (sc : Scope) (line : Nat) (ts : List Expr) : List Str := ts.filterMap fun
  | .Name id pos => if sc.names.lookup id == some .local && pos.line == line then some id else none
  | _ => none
def swR (sc : Scope) (ts vs : List Expr) : Option (Option (List Str)) :=
  if !(ts.length == 2 || ts.length == 3) || vs.length != ts.length then some none
  else if !vs.all notStar then none
  else
    let names := swNames sc ((ts.head?.map (·.pos.line)).getD 0) ts
    if names.length != ts.length || names.eraseDups.length != names.length then some none
    else if vs.all (foldedForSure 8) then some none
    else if vs.all (constantsAlone 8) then none
    else some (some names)
theorem any_star : ∀ (vs : List Expr), vs.all notStar = true → (vs.any fun | .Starred .. => true | _ => false) = false
  | [], _ => rfl
  | e :: es, h => by
    simp only [List.all_cons, Bool.and_eq_true] at h
    rw [List.any_cons, any_star es h.2]
    cases e <;> first | rfl | cases h.1
theorem ite_skip {c : Prop} [Decidable c] {α : Sort _} {a b r : α} (h : ¬ c) (hb : b = r) : (if c then a else b) = r := by
  rw [if_neg h]
  exact hb
theorem swR_ok {env : PySem.Env} {sc : Scope} (hs : env.scope = sc) (hk : env.scope.kind = .function) {ts vs : List Expr} {r : Option (List Str)} (h : swR sc ts vs = some r) (k k2 : Nat) (p p2 : Pos) :
    swappedStores [.Tuple ts k p] (.Tuple vs k2 p2) env = pure r := by
  have hb : env.blockKind = .function := by
    unfold Env.blockKind
    rw [hk]
    rfl
  unfold swR at h
  unfold swappedStores
  simp only [hb]
  by_cases c1 : (!(ts.length == 2 || ts.length == 3) || vs.length != ts.length) = true
  · rw [if_pos c1] at h
    cases h
    rw [if_pos (by rw [c1]; rfl)]
  rw [if_neg c1] at h
  by_cases c2 : (!vs.all notStar) = true
  · rw [if_pos c2] at h
    cases h
  rw [if_neg c2] at h
  have c2' : vs.all notStar = true := by simpa using c2
  have c1' : (!(ts.length == 2 || ts.length == 3) || vs.length != ts.length || (ScopeKind.function != ScopeKind.function)) = false := by
    have : (!(ts.length == 2 || ts.length == 3) || vs.length != ts.length) = false := by simpa using c1
    rw [this]
    rfl
  rw [if_neg (by rw [c1']; exact Bool.false_ne_true)]
  refine ite_skip (fun q => Bool.false_ne_true ((any_star vs c2').symm.trans q)) ?_
  generalize hg : List.filterMap _ ts = nm
  have hn : nm = swNames sc ((ts.head?.map (·.pos.line)).getD 0) ts := hg.symm.trans (by
    unfold swNames
    rw [← hs]
    rfl)
  rw [hn]
  simp only at h
  split at h
  · rename_i c
    cases h
    rw [if_pos c]
  · rename_i c
    rw [if_neg c]
    split at h
    · rename_i c
      cases h
      rw [if_pos c]
    · rename_i c
      rw [if_neg c]
      split at h
      · cases h
      · rename_i c
        cases h
        rw [if_neg c]
/-- where the stored name is dealt with inside the comprehension -/
def swB (sc : Scope) (t : Str) (p : Pos) : Expr → Bool
  | .ListComp _ _ s q => sc.names.lookup t == some .local && p.line == q.line && !(s.names.any fun (n, k) => n == t && (k == .local || k == .cell))
  | _ => false
def isLc : Expr → Bool
  | .ListComp _ _ _ _ => true
  | _ => false
mutual
def ckS (Γ : Cxt) : Sz → Stmt → Bool
  | .set i e, st => match st with
    | .Assign [.Name x p] v pos => Γ.nm i x && Γ.asg x && (ck e).e Γ v && (notComp v || (isLc v && (match swB Γ.sc x p v with
      | false => true
      | true => (match e with
        | .lc _ _ _ _ => true
        | _ => false))))
    | _ => false
  | .tset ts e, st => match st with
    | .Assign [.Tuple es _ _] v _ => ckTs Γ ts es && (ck e).e Γ v && (match v with
      | .Tuple vs _ _ => decide (swR Γ.sc es vs = some none)
      | _ => true)
    | _ => false
  | .par is e, st => match st with
    | .Assign [.Tuple es _ _] (.Tuple vs k p) _ => (ck e).e Γ (.Tuple vs k p) && decide (es.all notStar = true) && (match swR Γ.sc es vs with
      | some (some ns) => ckNs Γ is ns
      | _ => false)
    | _ => false
  | .setix o i e, st => match st with
    | .Assign [.Subscript p q _] v _ => notSlice q && (ck e).e Γ v && (ck o).e Γ p && (ck i).e Γ q
    | _ => false
  | .expr e, st => match st with
    | .Expr v _ => notComp v && (ck e).e Γ v
    | _ => false
  | .ret e, st => match st with
    | .Return (some v) _ => (ck e).e Γ v
    | _ => false
  | .ite c a b, st => match st with
    | .If t p q _ => (ck c).t Γ t && ckB Γ a p && ckB Γ b q
    | _ => false
  | .for tg it b, st => match st with
    | .For t i p [] _ => ckT Γ tg t && (ck it).i Γ (isTup t) i && notSet i && ckB Γ b p
    | _ => false
  | .while _ c b, st => match st with
    | .While t p [] _ => (ck c).t Γ t && ckB Γ b p
    | _ => false
  | .never, _ => true
  | .pass, st => match st with
    | .Pass _ => true
    | _ => false
  | .brk, st => match st with
    | .Break _ => true
    | _ => false
  | .cont, st => match st with
    | .Continue _ => true
    | _ => false
  | .nil, _ => false
  | .cons _ _, _ => false
def ckB (Γ : Cxt) : Sz → List Stmt → Bool
  | .nil, [] => true
  | .never, _ => true
  | .cons s ss, st :: sts => ckS Γ s st && ckB Γ ss sts
  | _, _ => false
def ckNs (Γ : Cxt) : List Nat → List Str → Bool
  | [], [] => true
  | i :: is, x :: xs => Γ.nm i x && (Γ.sc.names.lookup x == some .local) && ckNs Γ is xs
  | _, _ => false
end

/-! ### readings -/
def outW (G : Gx) (z : List Addr) (Dn : Ends) : Out → Wd → Prop := fun o W => match o with
  | .nx ρ => ∀ σ, EnvR G z W ρ σ → Dn.nx σ W.H
  | .rt d => ∀ v, RpW G z W d v → Dn.rt v W.H
  | .bk ρ => ∀ σ, EnvR G z W ρ σ → Dn.bk σ W.H
  | .ct ρ => ∀ σ, EnvR G z W ρ σ → Dn.ct σ W.H
def exS (G : Gx) (z : List Addr) (Wx : WX) : Nat → List D → Wd → Prop := fun c xs W => ∀ σ d, ExR G z xs d W → Wx (.ref (G.ca c)) d σ W.H
def tS (G : Gx) (Wx : WX) (f : Env → M Out) : TS := fun Dn σ H => ∃ z ρ W, W.H = H ∧ Mok G z W ∧ EnvR G z W ρ σ ∧ Wp G z W (f ρ) (outW G z Dn) (exS G z Wx)
theorem impPS {X : Cx} {e : Stmt} {t t' : TS} (h : PS X e t) (hi : ∀ Dn σ H, t' Dn σ H → t Dn σ H) : PS X e t' := ⟨fun pins s σ H Dn I q => h.run pins s σ H Dn I (hi Dn σ H q)⟩
theorem impPSs {X : Cx} {e : List Stmt} {t t' : TS} (h : PSs X e t) (hi : ∀ Dn σ H, t' Dn σ H → t Dn σ H) : PSs X e t' := ⟨fun pins s σ H Dn I q => h.run pins s σ H Dn I (hi Dn σ H q)⟩
section
variable {G : Gx} {Wx : WX} {σ : L2.St} {H : Hp} {Dn : Ends}
/-- a value, then what is done with it -/
theorem s1 {f : Env → M D} {op : Env → D → M Out} (h : tS G Wx (fun ρ => (f ρ).bind (op ρ)) Dn σ H) {R : V → Hp → Prop}
    (hr : ∀ z ρ W d v, Mok G z W → EnvR G z W ρ σ → RpW G z W d v → Wp G z W (op ρ d) (outW G z Dn) (exS G z Wx) → R v W.H) : tD G Wx f σ H R := by
  obtain ⟨z, ρ, W, e, k, r, h⟩ := h
  exact ⟨z, ρ, W, e, k, r, h.bind.mono (fun d1 W1 k1 l1 h1 v1 rv1 => hr z ρ W1 d1 v1 k1 (r.le l1) rv1 h1) fun c xs W' k' l' q d hd => q σ d hd⟩
end
/-- what a def's body gives, besides -/
structure GoodS (G : Gx) (C : Nat → List D → M D) (Kc : Nat → D) (Γ : Cxt) (X : Cx) (Wx : WX) : Prop where
  g : Good G C Kc Γ X Wx
  po : PassesOwn (model X.prog X.w) X.A X.env X.xe
  kd : Γ.sc.kind = .function
theorem swap_lc {env : PySem.Env} {sc : Scope} (hs : env.scope = sc) (hk : env.scope.kind = .function) {t : Str} {p : Pos} {n : Nat} {v : Expr} (hl : isLc v = true) : swapsWith v (some (.Name t p)) n env = pure (swB sc t p v) := by
  cases v with
  | ListComp elt gs s q =>
    have hb : env.blockKind = .function := by
      unfold Env.blockKind
      rw [hk]
      rfl
    unfold swapsWith swB
    simp only [hb, Expr.pos]
    rw [← hs]
    rfl
  | _ => cases hl
theorem swap_tup {v : Expr} {es : List Expr} {k n : Nat} {p : Pos} {env : PySem.Env} : swapsWith v (some (.Tuple es k p)) n env = pure false := by
  cases v <;> rfl
theorem swap_sub {v o i : Expr} {n : Nat} {p : Pos} {env : PySem.Env} : swapsWith v (some (.Subscript o i p)) n env = pure false := by
  cases v <;> rfl
theorem sw_sub {v o i : Expr} {p : Pos} {env : PySem.Env} : swappedStores [.Subscript o i p] v env = pure none := by
  cases v <;> rfl
theorem asg_sub {o i : Expr} {pos : Pos} {env : PySem.Env} (h : notSlice i = true) (v : Value) : assign (.Subscript o i pos) env v = (do
      let ov ← holding [v] (eval o env)
      let iv ← holding [v, ov] (eval i env)
      standAt pos
      holding [v, ov, iv] (setItem ov iv v)
      release [v, ov, iv] []) := by
  cases i <;> first | rfl | cases h
theorem sw_none {v : Expr} {ts : List Expr} {k : Nat} {p : Pos} {env : PySem.Env} (h : ∀ vs k2 p2, v ≠ .Tuple vs k2 p2) : swappedStores [.Tuple ts k p] v env = pure none := by
  cases v <;> first | rfl | exact absurd rfl (h _ _ _)
/-! ### names stored from the right -/
theorem stores_ok {G : Gx} {C : Nat → List D → M D} {Kc : Nat → D} {Γ : Cxt} {X : Cx} {Wx : WX} (g : Good G C Kc Γ X Wx) {pins : List (Addr × Obj)} {H : Hp} {z : List Addr} {W : Wd} {Q : L2.St → Prop} :
    ∀ (ps : List (Nat × Str)) (ds : List D) (vs : List V) (us : List Value) (ρ ρ' : Env) (σ : L2.St) (s : Shared), (∀ p ∈ ps, X.N[p.1]? = some p.2 ∧ X.env.scope.names.lookup p.2 = some .local) → RpsW G z W ds vs → Vals vs us → ds.length = ps.length →
    Inv X pins σ H s → EnvR G z W ρ σ → setAll ((ps.map (·.1)).zip ds) ρ = some ρ' → (∀ σ', EnvR G z W ρ' σ' → Q σ') →
    wpAny (model X.prog X.w) X.A (assignInOrder (ps.map fun p => fun v => bindName X.env p.2 v) us) (fun _ s' => ∃ σ', Inv X pins σ' H s' ∧ Q σ') X.xe s
  | [], ds, vs, us, ρ, ρ', σ, s, hp, rd, rv, hl, I, r, hs, hQ => by
    cases ds with
    | cons d ds => cases hl
    | nil =>
      cases rd
      cases rv
      cases hs
      exact assignInOrder_nil ⟨σ, I, hQ σ r⟩
  | (i, x) :: ps, [], vs, us, ρ, ρ', σ, s, hp, rd, rv, hl, I, r, hs, hQ => nomatch hl
  | (i, x) :: ps, d :: ds, vs, us, ρ, ρ', σ, s, hp, rd, rv, hl, I, r, hs, hQ => by
    cases rd with
    | cons rd1 rd2 =>
      cases rv with
      | cons rv1 rv2 =>
        have hs : (if i < ρ.length then setAll ((ps.map (·.1)).zip ds) (ρ.set i (some d)) else none) = some ρ' := hs
        split at hs
        · obtain ⟨p1, p2⟩ := hp (i, x) List.mem_cons_self
          refine assignInOrder_cons (wpAny_bindName (store_ok I (by rw [g.N]; exact g.nd) p1 (.inl p2) rv1 (fun s2 I2 => ?_) (.inr p2)))
          exact stores_ok g ps ds _ _ _ ρ' _ s2 (fun q hq => hp q (List.mem_cons_of_mem _ hq)) rd2 rv2 (Nat.succ.inj hl) I2 (r.set rd1 i) hs hQ
        · cases hs
theorem ckNs_ok {Γ : Cxt} : ∀ {is : List Nat} {ns : List Str}, ckNs Γ is ns = true → is.length = ns.length ∧ ∀ p ∈ is.zip ns, Γ.N[p.1]? = some p.2 ∧ Γ.sc.names.lookup p.2 = some .local
  | [], [], _ => ⟨rfl, fun p hp => nomatch hp⟩
  | i :: is, x :: xs, h => by
    simp only [ckNs, Bool.and_eq_true] at h
    obtain ⟨q1, q2⟩ := ckNs_ok h.2
    refine ⟨by rw [List.length_cons, List.length_cons, q1], fun p hp => ?_⟩
    rcases List.mem_cons.mp hp with e | hp
    · rw [e]
      exact ⟨of_decide_eq_true h.1.1, beq_iff_eq.mp h.1.2⟩
    · exact q2 p hp
  | [], _ :: _, h => by cases h
  | _ :: _, [], h => by cases h
theorem zip_rev {α β : Type} {xs : List α} {ys : List β} (h : xs.length = ys.length) : xs.reverse.zip ys.reverse = (xs.zip ys).reverse := by
  induction xs generalizing ys with
  | nil =>
    cases ys with
    | nil => rfl
    | cons y ys => cases h
  | cons x xs ih =>
    cases ys with
    | nil => cases h
    | cons y ys =>
      have h' : xs.length = ys.length := Nat.succ.inj h
      rw [List.reverse_cons, List.reverse_cons, List.zip_append (by rw [List.length_reverse, List.length_reverse, h']), ih h']
      show _ = ((x, y) :: xs.zip ys).reverse
      rw [List.reverse_cons]
      rfl
theorem Vals.rev {xs : List V} {us : List Value} (h : Vals xs us) : Vals xs.reverse us.reverse := Vals.reverse h
theorem Rps.rev {G : Gx} {F : Hp} {m : List Addr} : ∀ {ds : List D} {vs : List V}, Rps G F m ds vs → Rps G F m ds.reverse vs.reverse
  | _, _, .nil => .nil
  | _, _, .cons h t => by
    rw [List.reverse_cons, List.reverse_cons]
    exact t.rev.append (.cons h .nil)
theorem ps_parN {G : Gx} {C : Nat → List D → M D} {Kc : Nat → D} {Γ : Cxt} {X : Cx} {Wx : WX} (g : GoodS G C Kc Γ X Wx) {is : List Nat} {e : Ez} {es vs : List Expr} {ns : List Str} {k k2 : Nat} {p p2 pos : Pos}
    (he : (ck e).e Γ (.Tuple vs k2 p2) = true) (hsw : swR Γ.sc es vs = some (some ns)) (hn : ckNs Γ is ns = true) : PS X (.Assign [.Tuple es k p] (.Tuple vs k2 p2) pos) (tS G Wx (evS C Kc (.par is e))) := by
  constructor
  intro pins s σ H Dn I h
  obtain ⟨hlen, hns⟩ := ckNs_ok hn
  rw [exec_Assign_arm]
  refine wpAny_bind (wpAny_standAt (wpAny_bind ?_))
  rw [show swapsWithSole [Expr.Tuple es k p] (.Tuple vs k2 p2) pos.line X.env = pure false from (by unfold swapsWithSole; exact swap_tup)]
  refine wpAny_pure ?_
  rw [if_neg Bool.false_ne_true]
  have T : tD G Wx (ev C Kc e).e σ H fun v H1 => ∃ z ρ W d ρ', W.H = H1 ∧ Mok G z W ∧ EnvR G z W ρ σ ∧ RpW G z W d v ∧ setPar is d ρ = some ρ' ∧ ∀ σ', EnvR G z W ρ' σ' → Dn.nx σ' H1 := by
    refine s1 h fun z ρ W d v k r rv h => ?_
    obtain ⟨ρ', hb, h⟩ := h.bind.opt k
    exact ⟨z, ρ, W, d, ρ', rfl, k, r, rv, hb, fun σ' r' => h.pure0 k σ' r'⟩
  refine wpAny_bind (thn (((snd e).E g.g _ he).run pins s σ H _ I T) ?_)
  rintro u s1 ⟨v, H1, I1, r1, z, ρ, W, d, ρ', rfl, k, r, rv, hb, hQ⟩
  rw [swR_ok g.g.sc (by rw [g.g.sc]; exact g.kd) hsw]
  refine wpAny_bind (wpAny_pure ?_)
  cases d with
  | tup xs =>
    have hb : (if xs.length = is.length then setAll (is.zip xs).reverse ρ else none) = some ρ' := hb
    split at hb
    case isFalse => cases hb
    rename_i hxl
    cases rv with
    | @tup a vs ds h1 h2 =>
      cases r1
      obtain ⟨its, rv, ht, hz⟩ := I1.tuple (xs := vs) (by rw [g.g.K]; exact sqT_of h1)
      have hil : ns.length = its.toArray.size := by
        rw [List.size_toArray, ← rv.length, ← h2.len, hxl, hlen]
      show wpAny _ _ (do rule "assign.swapped-stores"; let items ← unpackItems (.ref a) ns.length none; assignInOrder (ns.reverse.map fun n => bindName X.env n) items.reverse; pure Flow.next) _ _ _
      refine wpAny_bind (wpAny_rule (wpAny_bind ?_))
      rw [hil]
      refine unpackItems_tuple (I1.ok.hd g.g.calm) ht fun h' hx => wpAny_bind ?_
      have I2 : Inv X pins σ W.H { s1 with heap := h' } := I1.kept (t' := s1.toks) fun b o e => hx b o (Nat.ne_of_lt (Heap.lt_size e)) e
      have er : (ns.reverse.map fun n => bindName X.env n) = ((is.zip ns).reverse.map fun p => fun v => bindName X.env p.2 v) := by
        rw [List.map_reverse, List.map_reverse]
        congr 1
        have : ns = (is.zip ns).map (·.2) := (lens_of hlen).symm
        conv => lhs; rw [this]
        rw [List.map_map]
        rfl
      rw [er]
      refine thn (stores_ok (Q := fun σ' => Dn.nx σ' W.H) g.g (is.zip ns).reverse xs.reverse vs.reverse its.reverse ρ ρ' σ _ (fun q hq => ?_) (Rps.rev h2) (Vals.reverse rv) ?_ I2 r ?_ hQ) ?_
      · have := hns q (List.mem_reverse.mp hq)
        rw [g.g.N, g.g.sc]
        exact this
      · rw [List.length_reverse, List.length_reverse, List.length_zip, hxl, ← hlen, Nat.min_self]
      · have e1 : ((is.zip ns).reverse.map (·.1)).zip xs.reverse = (is.zip xs).reverse := by
          rw [List.map_reverse, ← List.unzip_fst, List.unzip_zip_left (Nat.le_of_eq hlen)]
          exact zip_rev (by rw [hxl])
        rw [e1]
        exact hb
      · rintro _ s3 ⟨σ', I3, q⟩
        exact wpAny_pure ⟨σ', W.H, I3, q⟩
  | _ => cases hb
end DL
/-! DL11: SOUND: checked statements, blocks, loops -/
namespace DL
open PySem PyProof.Rows L2 PySem.Spec

section
variable {G : Gx} {Wx : WX} {σ : L2.St} {H : Hp} {Dn : Ends}
theorem for_ok {tg : Tz} {I : Env → M (List D)} {b : Env → M Out} (h : tS G Wx (fun ρ => (I ρ).bind fun ds => forGo tg b ds ρ) Dn σ H) : tFor (tI G Wx I) (tTg G tg) (tS G Wx b) Dn σ H := by
  obtain ⟨z, ρ, W, rfl, k, r, h⟩ := h
  refine ⟨z, ρ, W, rfl, k, r, h.bind.mono (fun ds W1 k1 l1 h1 J hJ => ?_) fun c xs W' k' l' q d hd => q σ d hd⟩
  refine ⟨fun i m σ H => ∃ (W2 : Wd) (ρ2 : Env), W2.H = H ∧ m = ds.length - i ∧ i ≤ ds.length ∧ Mok G z W2 ∧ EnvR G z W2 ρ2 σ ∧ Le z W1 W2 ∧ Wp G z W2 (forGo tg b (ds.drop i) ρ2) (outW G z Dn) (exS G z Wx),
    ⟨ds.length, W1, ρ, rfl, rfl, Nat.zero_le _, k1, r.le l1, Le.refl _ _, h1⟩, ?_⟩
  rintro i m σ2 H2 ⟨W2, ρ2, rfl, rfl, hi, k2, r2, l2, h2⟩
  have hJ2 := hJ z W2 k2 l2.ext l2.pre
  by_cases hlt : i < ds.length
  · refine .inr ?_
    obtain ⟨d, hd⟩ : ∃ d, ds[i]? = some d := ⟨ds[i], List.getElem?_eq_getElem hlt⟩
    obtain ⟨go, yl⟩ := hJ2.1 i d hd
    have hdrop : ds.drop i = d :: ds.drop (i + 1) := by
      rw [List.drop_eq_getElem_cons hlt]
      have q : ds[i] = d := Option.some.inj ((List.getElem?_eq_getElem hlt).symm.trans hd)
      rw [q]
    rw [hdrop] at h2
    refine ⟨go, fun σ' H' => ∃ (W2 : Wd) (ρ2 : Env), W2.H = H' ∧ i + 1 ≤ ds.length ∧ Mok G z W2 ∧ EnvR G z W2 ρ2 σ' ∧ Le z W1 W2 ∧ Wp G z W2 (forGo tg b (ds.drop (i + 1)) ρ2) (outW G z Dn) (exS G z Wx), fun σ' H' ⟨W2, ρ2, q1, q2, q3⟩ => ⟨ds.length - (i + 1), by omega, W2, ρ2, q1, rfl, q2, q3⟩, fun x H' hy => ?_⟩
    obtain ⟨W3, rfl, e3, k3, l3, rx⟩ := yl x H' hy
    have h2 : Wp G z W2 ((M.opt (bindT tg d ρ2)).bind fun ρ' => (b ρ').bind fun o => match o with
      | .nx ρ1 => forGo tg b (ds.drop (i + 1)) ρ1
      | .ct ρ1 => forGo tg b (ds.drop (i + 1)) ρ1
      | .bk ρ1 => M.pure (.nx ρ1)
      | .rt d => M.pure (.rt d)) (outW G z Dn) (exS G z Wx) := h2
    obtain ⟨ρ', hb, h3⟩ := (h2.at_ e3 l3).bind.opt k3
    refine ⟨z, ρ2, W3, d, ρ', rfl, k3, r2.le l3, rx, hb, fun σ3 r3 _ => ⟨z, ρ', W3, rfl, k3, r3, h3.bind.mono (fun o W4 k4 l4 h4 => ?_) fun _ _ _ _ _ q => q⟩⟩
    cases o with
    | nx ρ1 => exact fun σ' r' => ⟨W4, ρ1, rfl, hlt, k4, r', (l2.trans l3).trans l4, h4⟩
    | ct ρ1 => exact fun σ' r' => ⟨W4, ρ1, rfl, hlt, k4, r', (l2.trans l3).trans l4, h4⟩
    | bk ρ1 => exact fun σ' r' => (show Wp G z W4 (M.pure (Out.nx ρ1)) _ _ from h4).pure0 k4 σ' r'
    | rt v => exact fun u ru => (show Wp G z W4 (M.pure (Out.rt v)) _ _ from h4).pure0 k4 u ru
  · have ei : i = ds.length := by omega
    subst ei
    refine .inl ⟨hJ2.2 _ (Nat.le_refl _), ?_⟩
    rw [List.drop_length] at h2
    exact (show Wp G z W2 (M.pure (Out.nx ρ2)) (outW G z Dn) (exS G z Wx) from h2).pure0 k2 σ2 r2
theorem while_ok {c : Env → M Bool} {b : Env → M Out} {n : Nat} (h : tS G Wx (whileGo c b n) Dn σ H) : tWhile (tT G Wx c) (tS G Wx b) Dn σ H := by
  obtain ⟨z, ρ, W, rfl, k, r, h⟩ := h
  refine ⟨fun m σ H => ∃ (W2 : Wd) (ρ2 : Env), W2.H = H ∧ Mok G z W2 ∧ EnvR G z W2 ρ2 σ ∧ Wp G z W2 (whileGo c b m ρ2) (outW G z Dn) (exS G z Wx), ⟨n, W, ρ, rfl, k, r, h⟩, ?_⟩
  rintro m σ2 H2 ⟨W2, ρ2, rfl, k2, r2, h2⟩
  cases m with
  | zero => exact (show False from h2).elim
  | succ m =>
    have h2 : Wp G z W2 ((c ρ2).bind fun k => if k = true then (b ρ2).bind fun o => match o with
        | .nx ρ1 => whileGo c b m ρ1
        | .ct ρ1 => whileGo c b m ρ1
        | .bk ρ1 => M.pure (.nx ρ1)
        | .rt d => M.pure (.rt d)
      else M.pure (.nx ρ2)) (outW G z Dn) (exS G z Wx) := h2
    refine ⟨z, ρ2, W2, rfl, k2, r2, h2.bind.mono (fun t W3 k3 l3 h3 => ?_) fun c xs W' k' l' q d hd => q σ2 d hd⟩
    cases t with
    | false =>
      rw [if_neg Bool.false_ne_true]
      rw [if_neg Bool.false_ne_true] at h3
      exact h3.pure0 k3 σ2 (r2.le l3)
    | true =>
      rw [if_pos rfl]
      rw [if_pos rfl] at h3
      refine ⟨fun σ' H' => ∃ (W2 : Wd) (ρ2 : Env), W2.H = H' ∧ Mok G z W2 ∧ EnvR G z W2 ρ2 σ' ∧ Wp G z W2 (whileGo c b m ρ2) (outW G z Dn) (exS G z Wx), fun σ' H' q => ⟨m, Nat.lt_succ_self m, q⟩, z, ρ2, W3, rfl, k3, r2.le l3, h3.bind.mono (fun o W4 k4 l4 h4 => ?_) fun _ _ _ _ _ q => q⟩
      cases o with
      | nx ρ1 => exact fun σ' r' => ⟨W4, ρ1, rfl, k4, r', h4⟩
      | ct ρ1 => exact fun σ' r' => ⟨W4, ρ1, rfl, k4, r', h4⟩
      | bk ρ1 => exact fun σ' r' => (show Wp G z W4 (M.pure (Out.nx ρ1)) _ _ from h4).pure0 k4 σ' r'
      | rt v => exact fun u ru => (show Wp G z W4 (M.pure (Out.rt v)) _ _ from h4).pure0 k4 u ru
end
theorem store_ok {G : Gx} {z : List Addr} {W : Wd} {o i x : D} {vo vi vx : V} {P : Unit → Wd → Prop} {Ex : Nat → List D → Wd → Prop} (k : Mok G z W) (ro : RpW G z W o vo) (ri : RpW G z W i vi) (rx : RpW G z W x vx) (h : Wp G z W (storeL o i x) P Ex) :
    ∃ (n : Nat) (a : Addr) (xs : List D) (vs : List V) (ik : Int) (j : Nat) (W' : Wd), vo = .ref a ∧ vi = .int ik ∧ W.H a = some (.lst vs) ∧ ixN vs.length ik = some j ∧ W'.H = upd W.H a (.lst (vs.set j vx)) ∧ Mok G z W' ∧ Le z W W' ∧ W'.μ = W.μ.set n (.lst (xs.set j x)) ∧ P () W' := by
  cases o with
  | ref n =>
    obtain ⟨a, rfl, hm⟩ := ro.inv_ref
    cases i with
    | int ik =>
      cases ri
      cases e : W.μ[n]? with
      | none =>
        have h' : (storeL (.ref n) (.int ik) x W.μ).good _ := h
        simp only [storeL, e] at h'
        exact (show False from h').elim
      | some ob =>
        have h' : (storeL (.ref n) (.int ik) x W.μ).good _ := h
        simp only [storeL, e] at h'
        cases ob with
        | lst xs =>
          simp only at h'
          cases e2 : ixN xs.length ik with
          | none =>
            rw [e2] at h'
            exact (show False from h').elim
          | some j =>
            rw [e2] at h'
            obtain ⟨vs, hv, rv⟩ := k.ob n a _ hm e
            have ln : live W.μ n := by
              unfold live
              rw [e]
              trivial
            obtain ⟨k2, l2⟩ := k.write (ob := .lst (xs.set j x)) (o := .lst (vs.set j vx)) ln hm (fun _ q => nomatch q) ⟨_, upd_same, Rps.set rx j rv⟩
            exact ⟨n, a, xs, vs, ik, j, ⟨W.m, W.μ.set n (.lst (xs.set j x)), upd W.H a (.lst (vs.set j vx))⟩, rfl, rfl, hv, by rw [← rv.len]; exact e2, rfl, k2, l2, rfl, h' _ rfl k2 l2⟩
        | _ => exact (show False from h').elim
    | _ => exact (show False from h).elim
  | _ => exact (show False from h).elim
section
variable {G : Gx} {C : Nat → List D → M D} {Kc : Nat → D} {Γ : Cxt} {X : Cx} {Wx : WX}
theorem set_k {i : Nat} {e : Ez} {Dn : Ends} {σ : L2.St} {H : Hp} (h : tS G Wx (evS C Kc (.set i e)) Dn σ H) : tD G Wx (ev C Kc e).e σ H fun x H1 => gName i x σ H1 Dn.nx := by
  refine s1 h fun z ρ W d v k r rv h => ?_
  unfold setE at h
  rcases h.ite with ⟨q, h⟩ | ⟨_, h⟩
  · exact h.pure0 k _ (r.set rv i)
  · exact h.bad.elim
mutual
theorem ps_ok (g : GoodS G C Kc Γ X Wx) : ∀ (s : Sz) (st : Stmt), ckS Γ s st = true → PS X st (tS G Wx (evS C Kc s))
  | .set i e, st, h => by
    unfold ckS at h
    split at h
    case h_1 x p v pos =>
      obtain ⟨h, h4⟩ := and4 h
      obtain ⟨h, h3⟩ := and4 h
      obtain ⟨h1, h2⟩ := and4 h
      obtain ⟨a1, a2⟩ := asg_of g.g h2
      have hi : X.N[i]? = some x := by rw [g.g.N]; exact of_decide_eq_true h1
      have hN : X.N.Nodup := by rw [g.g.N]; exact g.g.nd
      rcases Bool.or_eq_true_iff.mp h4 with h4 | h4
      · exact impPS (ps_set hN hi a1 ((snd e).E g.g v h3) (swap_none h4 _) a2) fun Dn σ H q => set_k q
      · obtain ⟨h4, h5⟩ := and4 h4
        have hk : X.env.scope.kind = .function := by rw [g.g.sc]; exact g.kd
        have sw := swap_lc (n := pos.line) g.g.sc hk (t := x) (p := p) h4
        cases e2 : swB Γ.sc x p v with
        | false =>
          rw [e2] at sw
          exact impPS (ps_set hN hi a1 ((snd e).E g.g v h3) sw a2) fun Dn σ H q => set_k q
        | true =>
          rw [e2] at sw h5
          simp only at h5
          cases e with
          | lc tg it cond elt =>
            refine lc_with g.g (snd it) (snd cond) (snd elt) h3 fun y tgx itx ifs s lpos own e eo p1 p2 p3 p4 p5 p6 => ?_
            subst e
            have hl : X.env.scope.names.lookup x = some .local := by
              rw [g.g.sc]
              unfold swB at e2
              simp only [Bool.and_eq_true, beq_iff_eq] at e2
              exact e2.1.1
            have P := ps_setLc (X := X) (pos := lpos) g.g.calm hN hi hl sw p1 p2 p3 p4 p5 p6
            rw [eo] at P
            refine impPS P fun Dn σ H q => ?_
            have q2 := set_k q
            exact lc_ok (tD_of_tL q2)
          | _ => cases h5
    all_goals cases h
  | .tset ts e, st, h => by
    unfold ckS at h
    split at h
    case h_1 es2 p k v pos =>
      obtain ⟨h, h3⟩ := and4 h
      obtain ⟨h1, h2⟩ := and4 h
      have hw : swappedStores [.Tuple es2 p k] v X.env = pure none := by
        split at h3
        · exact swR_ok g.g.sc (by rw [g.g.sc]; exact g.kd) (of_decide_eq_true h3) _ _ _ _
        · rename_i hn
          exact sw_none fun vs k2 p2 e => hn vs k2 p2 e
      refine impPS (ps_asg ((snd e).E g.g v h2) (pg_ok g.g (.tp ts) (.Tuple es2 p k) h1) (by unfold swapsWithSole; exact swap_tup) hw (by rfl)) fun Dn σ H q => ?_
      refine s1 q fun z ρ W d v k r rv h => ?_
      obtain ⟨ρ', hb, h⟩ := h.bind.opt k
      exact ⟨z, ρ, W, d, ρ', rfl, k, r, rv, hb, fun σ' r' _ => h.pure0 k σ' r'⟩
    all_goals cases h
  | .par is e, st, h => by
    unfold ckS at h
    split at h
    case h_1 es2 k p vs k2 p2 pos =>
      obtain ⟨h, h3⟩ := and4 h
      obtain ⟨h1, h2⟩ := and4 h
      split at h3
      · rename_i ns hns
        exact ps_parN g h1 hns h3
      · cases h3
    all_goals cases h
  | .setix o i e, st, h => by
    unfold ckS at h
    split at h
    case h_1 p q sp v pos =>
      obtain ⟨h, h4⟩ := and4 h
      obtain ⟨h, h3⟩ := and4 h
      obtain ⟨h1, h2⟩ := and4 h
      refine impPS (ps_asg ((snd e).E g.g v h2) (pg_sub ((snd o).E g.g p h3) ((snd i).E g.g q h4) set_list (asg_sub h1)) (by unfold swapsWithSole; exact swap_sub) sw_sub (by rfl)) fun Dn σ H hq => ?_
      refine s1 hq fun z ρ W d v k r rv h => ?_
      refine ⟨z, ρ, W, rfl, k, r, h.bind.mono (fun d1 W1 k1 l1 h1 v1 rv1 => ?_) fun c xs W' k' l' q d hd => q σ d hd⟩
      refine ⟨z, ρ, W1, rfl, k1, r.le l1, h1.bind.mono (fun d2 W2 k2 l2 h2 v2 rv2 => ?_) fun c xs W' k' l' q d hd => q σ d hd⟩
      obtain ⟨n, a, xs, vs, i, j, W3, e1, e2, e3, e4, e5, k3, l3, e6, h3⟩ := store_ok k2 (rv1.le l2) rv2 ((rv.le l1).le l2) h2.bind
      exact ⟨a, vs, i, j, e1, e2, e3, e4, by rw [← e5]; exact h3.pure0 k3 σ ((((r.le l1).le l2).le l3))⟩
    all_goals cases h
  | .expr e, st, h => by
    unfold ckS at h
    split at h
    case h_1 v pos =>
      obtain ⟨h1, h2⟩ := and4 h
      refine impPS (ps_expr ((snd e).E g.g v h2) (swap_none h1 _)) fun Dn σ H q => ?_
      exact s1 q fun z ρ W d v k r rv h => h.pure0 k σ r
    all_goals cases h
  | .ret e, st, h => by
    unfold ckS at h
    split at h
    case h_1 v pos =>
      refine impPS (ps_ret ((snd e).E g.g v h)) fun Dn σ H q => ?_
      exact s1 q fun z ρ W d v k r rv h => h.pure0 k v rv
    all_goals cases h
  | .ite c a b, st, h => by
    unfold ckS at h
    split at h
    case h_1 t p q pos =>
      obtain ⟨h, h3⟩ := and4 h
      obtain ⟨h1, h2⟩ := and4 h
      refine impPS (ps_if ((snd c).T g.g t h1) (pss_ok g a p h2) (pss_ok g b q h3)) fun Dn σ H q => ?_
      obtain ⟨z, ρ, W, e, k, rr, h⟩ := q
      refine ⟨z, ρ, W, e, k, rr, h.bind.mono (fun t W' k' l' q => ?_) fun c xs W' k' l' q d hd => q σ d hd⟩
      cases t with
      | true =>
        rw [if_pos rfl]
        rw [if_pos rfl] at q
        exact ⟨z, ρ, W', rfl, k', rr.le l', q⟩
      | false =>
        rw [if_neg Bool.false_ne_true]
        rw [if_neg Bool.false_ne_true] at q
        exact ⟨z, ρ, W', rfl, k', rr.le l', q⟩
    all_goals cases h
  | .for tg it b, st, h => by
    unfold ckS at h
    split at h
    case h_1 t i p pos =>
      obtain ⟨h, h4⟩ := and4 h
      obtain ⟨h, h3⟩ := and4 h
      obtain ⟨h1, h2⟩ := and4 h
      exact impPS (ps_for g.po g.g.calm ((snd it).I g.g t i h2) (pg_ok g.g tg t h1) (pss_ok g b p h4) (set_of h3)) fun Dn σ H q => for_ok q
    all_goals cases h
  | .while n c b, st, h => by
    unfold ckS at h
    split at h
    case h_1 t p pos =>
      obtain ⟨h1, h2⟩ := and4 h
      exact impPS (ps_while g.po ((snd c).T g.g t h1) (pss_ok g b p h2)) fun Dn σ H q => while_ok q
    all_goals cases h
  | .never, st, h => impPS ps_never fun Dn σ H ⟨z, ρ, W, e, k, r, h⟩ => h.bad
  | .pass, st, h => by
    unfold ckS at h
    split at h
    case h_1 => exact impPS ps_pass fun Dn σ H ⟨z, ρ, W, e, k, r, h⟩ => by subst e; exact (show Wp G z W (M.pure (Out.nx ρ)) _ _ from h).pure0 k σ r
    all_goals cases h
  | .brk, st, h => by
    unfold ckS at h
    split at h
    case h_1 => exact impPS ps_break fun Dn σ H ⟨z, ρ, W, e, k, r, h⟩ => by subst e; exact (show Wp G z W (M.pure (Out.bk ρ)) _ _ from h).pure0 k σ r
    all_goals cases h
  | .cont, st, h => by
    unfold ckS at h
    split at h
    case h_1 => exact impPS ps_continue fun Dn σ H ⟨z, ρ, W, e, k, r, h⟩ => by subst e; exact (show Wp G z W (M.pure (Out.ct ρ)) _ _ from h).pure0 k σ r
    all_goals cases h
  | .nil, st, h => nomatch (show false = true from h)
  | .cons _ _, st, h => nomatch (show false = true from h)
theorem pss_ok (g : GoodS G C Kc Γ X Wx) : ∀ (s : Sz) (sts : List Stmt), ckB Γ s sts = true → PSs X sts (tS G Wx (evS C Kc s))
  | .nil, [], _ => impPSs pss_nil fun Dn σ H ⟨z, ρ, W, e, k, r, h⟩ => by subst e; exact (show Wp G z W (M.pure (Out.nx ρ)) _ _ from h).pure0 k σ r
  | .never, sts, _ => impPSs pss_never fun Dn σ H ⟨z, ρ, W, e, k, r, h⟩ => h.bad
  | .cons s ss, st :: sts, h => by
    obtain ⟨h1, h2⟩ := and4 (show (ckS Γ s st && ckB Γ ss sts) = true from h)
    refine impPSs (pss_cons (ps_ok g s st h1) (pss_ok g ss sts h2)) fun Dn σ H q => ?_
    obtain ⟨z, ρ, W, e, k, rr, h⟩ := q
    have h : Wp G z W ((evS C Kc s ρ).bind fun o => match o with
      | .nx ρ1 => evS C Kc ss ρ1
      | o => M.pure o) (outW G z Dn) (exS G z Wx) := h
    refine ⟨z, ρ, W, e, k, rr, h.bind.mono (fun o W' k' l' h => ?_) fun _ _ _ _ _ q => q⟩
    cases o with
    | nx ρ1 => exact fun σ' r' => ⟨z, ρ1, W', rfl, k', r', h⟩
    | rt v => exact (show Wp G z W' (M.pure (Out.rt v)) _ _ from h).pure0 k'
    | bk ρ1 => exact (show Wp G z W' (M.pure (Out.bk ρ1)) _ _ from h).pure0 k'
    | ct ρ1 => exact (show Wp G z W' (M.pure (Out.ct ρ1)) _ _ from h).pure0 k'
  | .nil, _ :: _, h => by cases h
  | .cons _ _, [], h => by cases h
  | .set _ _, sts, h => by cases sts <;> cases h
  | .tset _ _, sts, h => by cases sts <;> cases h
  | .par _ _, sts, h => by cases sts <;> cases h
  | .setix _ _ _, sts, h => by cases sts <;> cases h
  | .expr _, sts, h => by cases sts <;> cases h
  | .ret _, sts, h => by cases sts <;> cases h
  | .ite _ _ _, sts, h => by cases sts <;> cases h
  | .for _ _ _, sts, h => by cases sts <;> cases h
  | .while _ _ _, sts, h => by cases sts <;> cases h
  | .pass, sts, h => by cases sts <;> cases h
  | .brk, sts, h => by cases sts <;> cases h
  | .cont, sts, h => by cases sts <;> cases h
end
end
end DL
/-! DL12: defs; the cup and its rolls -/
namespace DL
open PySem PyProof.Rows L2 PySem.Spec

/-- a def of the text: its name, where it is written, its names by slot, its parameters, its body in own syntax -/
structure Dr where
  name : Str
  st : Stmt
  N : List Str
  ps : List Str
  body : Sz
def Dr.df (d : Dr) : Df := ⟨d.N.length, d.ps.length, d.body⟩
def fnsOf (ds : List Dr) : List (Str × Nat) := ds.map fun d => (d.name, d.ps.length)
def fnScB (N ps : List Str) (sc : Scope) : Bool :=
  decide (sc.kind = .function) && !sc.isCoroutine && !sc.isGenerator && decide N.Nodup && decide (N.take ps.length = ps) &&
    (ps.all fun x => match sc.names.lookup x with
      | some .local => true
      | some .cell => true
      | _ => false) && sc.names.all fun y => !decide (y.2 = .free)
theorem fnSc_ok {N ps : List Str} {sc : Scope} (h : fnScB N ps sc = true) : FnScope N ps sc := by
  unfold fnScB at h
  simp only [Bool.and_eq_true, decide_eq_true_eq, Bool.not_eq_true', List.all_eq_true, decide_eq_false_iff_not] at h
  obtain ⟨⟨⟨⟨⟨⟨h1, h2⟩, h3⟩, h4⟩, h5⟩, h6⟩, h7⟩ := h
  refine ⟨h1, h2, h3, h4, h5, fun x hx => ?_, h7⟩
  have q := h6 x hx
  split at q
  · exact .inl (by assumption)
  · exact .inr (by assumption)
  · cases q
def ckDr (fns : List (Str × Nat)) (cns : List Str) (gcd : Bool) (d : Dr) : Bool := ckB ⟨d.N, defScope d.st, none, fns, cns, gcd⟩ d.body (defBody d.st) && fnScB d.N d.ps (defScope d.st)

/-- nothing is promised -/
theorem fn_bad {P : Program} {w : World} {K : PySem.W.Frag} {mg : Str → Option Value} {base : Heap} {CX : CXT} {G : Gx} {k n : Nat} {f : Addr} {fd : FuncData} {ps : List Str} {c : List D → M D} (hc : ∀ ds, c ds = M.bad) : FnOk P w K mg base CX k f fd ps (spD G n c) := by
  have no : ∀ vs H Q E, ¬ spD G n c vs H Q E := by
    rintro vs H Q E ⟨z, ds, W, e, _, _, _, h⟩
    rw [hc] at h
    exact h.bad
  exact ⟨fun vs H Q E h => absurd h (no vs H Q E), fun A outer s H args us vs Q E _ _ _ _ h => absurd h (no vs H Q E)⟩
theorem start_env {G : Gx} {z : List Addr} {W : Wd} {ds : List D} {vs : List V} (r : RpsW G z W ds vs) (N : List Str) : EnvR G z W (ds.map some ++ List.replicate (N.length - ds.length) none) (L2.start N vs) := by
  have hl := r.len
  refine ⟨by unfold L2.start; rw [List.length_append, List.length_append, List.length_map, List.length_map, List.length_replicate, List.length_replicate, hl], fun i d e => ?_⟩
  by_cases hi : i < ds.length
  · rw [List.getElem?_append_left (by rw [List.length_map]; exact hi), List.getElem?_map] at e
    cases q : ds[i]? with
    | none => rw [q] at e; cases e
    | some d' =>
      rw [q] at e
      cases e
      obtain ⟨v, h1, h2⟩ := r.get q
      refine ⟨v, ?_, h2⟩
      unfold L2.start
      rw [List.getElem?_append_left (by rw [List.length_map, ← hl]; exact hi), List.getElem?_map, h1]
      rfl
  · rw [List.getElem?_append_right (by rw [List.length_map]; omega)] at e
    have := List.mem_of_getElem? e
    have := List.eq_of_mem_replicate this
    cases this
/-- a checked def does what its body's run says -/
theorem def_ok {P : Program} {w : World} {K : PySem.W.Frag} {mg : Str → Option Value} {base : Heap} {G : Gx} {C : Nat → List D → M D} {Kc : Nat → D} {n : Nat} {fns : List (Str × Nat)} {cns : List Str} {gcd : Bool} {d : Dr} {f : Addr} {fd : FuncData}
    (hK : K = G.K) (F : FunD K d.name d.name (defArgs d.st) (defBody d.st) (defScope d.st) [] [] f fd) (hc : ckDr fns cns gcd d = true)
    (bi : ∀ x ∈ builtins, mg x = none) (con : ∀ k x, cns[k]? = some x → ∃ v u, mg x = some u ∧ RelV v u ∧ ∀ F m, Rp G F m (Kc k) v) (hg : gcd = true → mg "gcd" = some (.builtin "math.gcd"))
    (hf : ∀ k x n, fns[k]? = some (x, n) → mg x = some (.ref (G.fa k)) ∧ PySem.W.keepIn K (.ref (G.fa k)) = true)
    (ar : ∀ k x n, fns[k]? = some (x, n) → ∀ (z : List Addr) (W : Wd) (ds : List D) (P : D → Wd → Prop) (Ex : Nat → List D → Wd → Prop), Wp G z W (C k ds) P Ex → ds.length = n)
    (calls : ∀ k x m, fns[k]? = some (x, m) → ∃ fd ps, Binds K fd ps [] ∧ FnOk P w K mg base (L2.CX P w) n (G.fa k) fd ps (spD G m (C k))) :
    FnOk P w K mg base (L2.CX P w) (n + 1) f fd d.ps (spD G d.ps.length fun as => if as.length = d.ps.length then run C Kc d.N.length d.body as else M.bad) := by
  obtain ⟨h1, h2⟩ := and4 hc
  have S := fnSc_ok h2
  refine F.ok S (fun vs H Q E h => ?_) (fun cdv A outer s H vs Q E hr h => ?_)
  · obtain ⟨z, ds, W, e, hl, _⟩ := h
    exact hl
  · obtain ⟨z, ds, W, e, hl, k, r, h⟩ := h
    have g : Good G C Kc ⟨d.N, defScope d.st, none, fns, cns, gcd⟩ (cxOf (L2.CX P w) P w K mg base d.N d.name (defScope d.st) f cdv A outer s H E) (fun cls dd _ H => E cls dd H) :=
      ⟨hK, rfl, S.nd, rfl, rfl, rfl, takes_of rfl rfl rfl rfl, hr.units, bi, con, hg, hf, ar, fun k x m e => let ⟨fd, ps, q1, q2⟩ := calls k x m e; ⟨n, fd, ps, hr, q1, q2⟩⟩
    have gs : GoodS G C Kc ⟨d.N, defScope d.st, none, fns, cns, gcd⟩ (cxOf (L2.CX P w) P w K mg base d.N d.name (defScope d.st) f cdv A outer s H E) (fun cls dd _ H => E cls dd H) := ⟨g, passes_of rfl, S.kind⟩
    refine ⟨_, pss_ok gs d.body _ h1, ?_⟩
    rcases h.ite with ⟨q, h⟩ | ⟨_, h⟩
    case inr => exact h.bad.elim
    refine ⟨z, ds.map some ++ List.replicate (d.N.length - ds.length) none, W, e, k, start_env r d.N, ?_⟩
    unfold run at h
    refine h.bind.mono (fun o W' k' l' h => ?_) fun c xs W' k' l' q σ dd hd => q dd hd
    cases o with
    | nx ρ => exact fun σ _ => (show Wp G z W' (M.pure D.non) _ _ from h).pure0 k' _ .non
    | rt v => exact (show Wp G z W' (M.pure v) _ _ from h).pure0 k'
    | bk ρ => exact (show Wp G z W' M.bad _ _ from h).bad.elim
    | ct ρ => exact (show Wp G z W' M.bad _ _ from h).bad.elim

/-! ### the cup -/
def primCup : List D → M D
  | [.scr ns] => if ns.length ≤ 63 then alloc .cup else M.bad
  | _ => M.bad
def primRoll : List D → M D
  | [.ref n, .int many] => fun μ => match μ[n]? with
    | some .cup => if 0 < many ∧ many.natAbs.log2 < 9000 then .roll many.toNat fun r => .ret (.ok (.int (r : Int)) μ) else .ret .bad
    | _ => .ret .bad
  | _ => M.bad
section
variable {G : Gx} {z : List Addr}
/-- what refs hold is told otherwise -/
theorem relabel_ok {m : List Addr} {μ μ' : Mem} {H : Hp} (k : Mok G z ⟨m, μ, H⟩) (hl : μ'.length = μ.length) (hv : ∀ i, live μ' i ↔ live μ i)
    (hob : ∀ (i : Nat) (a : Addr) (o : Ob), m[i]? = some a → μ'[i]? = some o → (∀ o', μ[i]? = some o' → ObR G (Wd.F z ⟨m, μ, H⟩) m H a o') → ObR G (Wd.F z ⟨m, μ, H⟩) m H a o) :
    Mok G z ⟨m, μ', H⟩ ∧ Wd.F z ⟨m, μ', H⟩ = Wd.F z ⟨m, μ, H⟩ := by
  have lv : ∀ b, Wd.lv ⟨m, μ', H⟩ b ↔ Wd.lv ⟨m, μ, H⟩ b := fun b => ⟨fun ⟨i, q1, q2⟩ => ⟨i, (hv i).mp q1, q2⟩, fun ⟨i, q1, q2⟩ => ⟨i, (hv i).mpr q1, q2⟩⟩
  have eF : Wd.F z ⟨m, μ', H⟩ = Wd.F z ⟨m, μ, H⟩ := by
    funext b
    unfold Wd.F
    by_cases q : b ∈ z ∨ Wd.lv ⟨m, μ, H⟩ b
    · rw [if_pos q, if_pos (q.imp id (lv b).mpr)]
    · rw [if_neg q, if_neg (fun q' => q (q'.imp id (lv b).mp))]
  refine ⟨⟨k.len.trans hl.symm, fun i j a h1 h2 => k.inj i j a ((hv i).mp h1) ((hv j).mp h2), fun b hb q => k.zl b hb ((lv b).mp q), k.zs, fun i a o h1 h2 => ?_⟩, eF⟩
  rw [eF]
  exact hob i a o h1 h2 fun o' h3 => k.ob i a o' h1 h3
theorem live_cup {μ : Mem} {n i : Nat} {o o' : Ob} (h : μ[n]? = some o) (ho : ∀ d, o ≠ .fro d) (ho' : ∀ d, o' ≠ .fro d) : live (μ.set n o') i ↔ live μ i :=
  live_set (by
    unfold live
    rw [h]
    cases o with
    | fro d => exact absurd rfl (ho d)
    | _ => trivial) ho'
theorem to_cup {m : List Addr} {μ : Mem} {H : Hp} {n : Nat} {x y : Int} (k : Mok G z ⟨m, μ, H⟩) (h : μ[n]? = some (.lst [.int x, .int y])) (h1 : 0 ≤ x) (h2 : 0 ≤ y) (h3 : y < 2 ^ 32) : Mok G z ⟨m, μ.set n .cup, H⟩ ∧ Wd.F z ⟨m, μ.set n .cup, H⟩ = Wd.F z ⟨m, μ, H⟩ := by
  refine relabel_ok k (List.length_set ..) (fun i => live_cup h (fun _ q => nomatch q) fun _ q => nomatch q) fun i a o e1 e2 ho => ?_
  by_cases hi : n = i
  · subst hi
    rw [List.getElem?_set_self (List.getElem?_eq_some_iff.mp h).1] at e2
    cases e2
    obtain ⟨vs, q1, q2⟩ := ho _ h
    match q2 with
    | .cons (.int _) (.cons (.int _) .nil) => exact ⟨x, y, q1, h1, h2, h3⟩
  · rw [List.getElem?_set_ne hi] at e2
    exact ho o e2
theorem of_cup {m : List Addr} {μ : Mem} {H : Hp} {n : Nat} (k : Mok G z ⟨m, μ, H⟩) (h : μ[n]? = some .cup) : ∃ x y : Int, 0 ≤ x ∧ 0 ≤ y ∧ y < 2 ^ 32 ∧ Mok G z ⟨m, μ.set n (.lst [.int x, .int y]), H⟩ ∧ Wd.F z ⟨m, μ.set n (.lst [.int x, .int y]), H⟩ = Wd.F z ⟨m, μ, H⟩ := by
  obtain ⟨a, ha⟩ : ∃ a, m[n]? = some a := by
    have : n < m.length := by
      rw [k.len]
      exact (List.getElem?_eq_some_iff.mp h).1
    exact ⟨m[n], List.getElem?_eq_getElem this⟩
  obtain ⟨x, y, q1, q2, q3, q4⟩ := k.ob n a _ ha h
  refine ⟨x, y, q2, q3, q4, ?_⟩
  refine relabel_ok k (List.length_set ..) (fun i => live_cup h (fun _ q => nomatch q) fun _ q => nomatch q) fun i a o e1 e2 ho => ?_
  by_cases hi : n = i
  · subst hi
    rw [List.getElem?_set_self (List.getElem?_eq_some_iff.mp h).1] at e2
    cases e2
    rw [show m[n]? = some _ from ha] at e1
    cases e1
    exact ⟨_, q1, .cons (.int _) (.cons (.int _) .nil)⟩
  · rw [List.getElem?_set_ne hi] at e2
    exact ho o e2
end
/-- cup(script), as it is written -/
def cupBody : Sz :=
  .cons (.set 1 (.bf .abs (.cons (.idx (.bin .add (.bf .list (.cons (.var 0) .nil)) (.lst (.cons (.int 0) .nil))) (.int 0)) .nil)))
  (.cons (.ret (.mkl (.lst (.cons (.ife (.cmp .ge (.var 1) (.bin .pow (.int 10) (.int 18))) (.bin .fdiv (.var 1) (.int 113)) (.int 0))
    (.cons (.bin .add (.bin .mod (.bf .int (.cons (.bin .add (.bin .mul (.var 1) (.int 367)) (.int 5303)) .nil)) (.int 1984129399)) (.int 227)) .nil))))) .nil)
/-- roll(cup, many), as it is written -/
def rollBody : Sz :=
  let c0 : Ez := .idx (.var 0) (.int 0)
  let c1 : Ez := .idx (.var 0) (.int 1)
  .cons (.ite (.cmp .gt c0 (.int 0))
    (.cons (.set 2 (.bin .mod (.bf .int (.cons c0 .nil)) (.var 1))) (.cons (.setix (.var 0) (.int 0) (.bin .fdiv c0 (.var 1))) (.cons (.ret (.var 2)) .nil))) .nil)
  (.cons (.setix (.var 0) (.int 1) (.bin .mod (.bf .int (.cons (.bin .add (.bin .mul c1 (.int 30011)) (.int 9001)) .nil)) (.int 2147483543)))
  (.cons (.set 3 (.bin .mod (.bf .int (.cons (.bin .mul c1 (.bin .add c1 (.int 293))) .nil)) (.int 2147483587)))
  (.cons (.ret (.bin .mod (.bf .int (.cons (.bin .fdiv (.var 3) (.int 883)) .nil)) (.var 1))) .nil)))
theorem bind_ok {α β : Type} {m : M α} {f : α → M β} {μ μ' : Mem} {a : α} (h : m μ = .ret (.ok a μ')) : M.bind m f μ = f a μ' := by
  unfold M.bind
  rw [h]
  rfl
theorem bin_add (i j : Int) : binop .add (.int i) (.int j) = M.pure (.int (i + j)) := rfl
theorem bin_mulR {i j : Int} (h : -(2 ^ 64) < j ∧ j < 2 ^ 64) : binop .mul (.int i) (.int j) = M.pure (.int (i * j)) := by
  refine if_pos ?_
  simp only [Bool.or_eq_true, Bool.and_eq_true, decide_eq_true_eq]
  exact .inr h
theorem bin_mod {i j : Int} (h : j ≠ 0) : binop .mod (.int i) (.int j) = M.pure (.int (i.fmod j)) := if_pos h
theorem bin_fdiv {i j : Int} (h : 0 < j) (hl : j.natAbs.log2 < 9000) : binop .fdiv (.int i) (.int j) = M.pure (.int (i.fdiv j)) := by
  show (if j ≠ 0 ∧ j.natAbs < 1073741824 then M.pure (D.int (i.fdiv j)) else if 0 < j ∧ j.natAbs.log2 < 9000 then M.pure (D.int (i.fdiv j)) else M.bad) = _
  by_cases q : j ≠ 0 ∧ j.natAbs < 1073741824
  · rw [if_pos q]
  · rw [if_neg q, if_pos ⟨h, hl⟩]
section
variable {C : Nat → List D → M D} {Kc : Nat → D}
set_option maxHeartbeats 400000 in
theorem roll_run {n : Nat} {many x y : Int} {μ : Mem} (h : μ[n]? = some (.lst [.int x, .int y])) (hx : 0 ≤ x) (hy : 0 ≤ y) (hy2 : y < 2 ^ 32) (hm : 0 < many) (hl : many.natAbs.log2 < 9000) :
    ∃ (r : Nat) (x' y' : Int), r < many.toNat ∧ 0 ≤ x' ∧ 0 ≤ y' ∧ y' < 2 ^ 32 ∧ run C Kc 4 rollBody [.ref n, .int many] μ = .ret (.ok (.int (r : Int)) (μ.set n (.lst [.int x', .int y']))) := by
  have hn : n < μ.length := (List.getElem?_eq_some_iff.mp h).1
  have hm0 : many ≠ 0 := by omega
  by_cases h0 : 0 < x
  · refine ⟨(x.fmod many).toNat, x.fdiv many, y, ?_, ?_, hy, hy2, ?_⟩
    · have := Int.fmod_nonneg_of_pos x hm
      have := Int.fmod_lt_of_pos x hm
      omega
    · exact Int.fdiv_nonneg hx (Int.le_of_lt hm)
    · have e : ((x.fmod many).toNat : Int) = x.fmod many := Int.toNat_of_nonneg (Int.fmod_nonneg_of_pos x hm)
      rw [e]
      simp [run, rollBody, evS, ev, Fn.ofE, M.bind, T.bind, M.andThen, M.pure, get, res, seqA, seqL, idxop, cmpop, truth, bfop, bin_mod hm0, bin_fdiv hm hl, storeL, setE, M.opt, atI, ixN, h, h0]
  · obtain ⟨y1, e1⟩ : ∃ y1 : Int, y1 = (y * 30011 + 9001).fmod 2147483543 := ⟨_, rfl⟩
    have b1 : 0 ≤ y1 ∧ y1 < 2147483543 := by
      rw [e1]
      exact ⟨Int.fmod_nonneg_of_pos _ (by decide), Int.fmod_lt_of_pos _ (by decide)⟩
    obtain ⟨d, e2⟩ : ∃ d : Int, d = (y1 * (y1 + 293)).fmod 2147483587 := ⟨_, rfl⟩
    obtain ⟨r, e3⟩ : ∃ r : Int, r = (d.fdiv 883).fmod many := ⟨_, rfl⟩
    have b3 : 0 ≤ r ∧ r < many := by
      rw [e3]
      exact ⟨Int.fmod_nonneg_of_pos _ hm, Int.fmod_lt_of_pos _ hm⟩
    refine ⟨r.toNat, x, y1, by omega, hx, b1.1, by omega, ?_⟩
    have e : ((r.toNat : Nat) : Int) = r := Int.toNat_of_nonneg b3.1
    rw [e, e3, e2, e1]
    have m1 : binop .mul (.int y) (.int 30011) = M.pure (.int (y * 30011)) := bin_mulR (by decide)
    have m2 : binop .mul (.int y1) (.int (y1 + 293)) = M.pure (.int (y1 * (y1 + 293))) := bin_mulR (by omega)
    rw [e1] at m2
    have m3 : ∀ i : Int, binop .mod (.int i) (.int 2147483543) = M.pure (.int (i.fmod 2147483543)) := fun i => bin_mod (by decide)
    have m4 : ∀ i : Int, binop .mod (.int i) (.int 2147483587) = M.pure (.int (i.fmod 2147483587)) := fun i => bin_mod (by decide)
    have m5 : ∀ i : Int, binop .fdiv (.int i) (.int 883) = M.pure (.int (i.fdiv 883)) := fun i => bin_fdiv (by decide) (by rw [show (883 : Int).natAbs = 883 from rfl]; exact Nat.lt_of_le_of_lt (Nat.log2_le_self 883) (by decide))
    have hx0 : decide (0 < x) = false := decide_eq_false h0
    simp [run, rollBody, evS, ev, Fn.ofE, M.bind, T.bind, M.andThen, M.pure, get, res, seqA, seqL, idxop, cmpop, truth, bfop, bin_add, bin_mod hm0, storeL, setE, M.opt, atI, ixN, h, hx0, m1, m2, m3, m4, m5, List.getElem?_set_self hn]
theorem cup_run {ns : List Int} {μ : Mem} (hn : ns.length ≤ 63) : ∃ x y : Int, 0 ≤ x ∧ 0 ≤ y ∧ y < 2 ^ 32 ∧ run C Kc 2 cupBody [.scr ns] μ = .ret (.ok (.ref μ.length) (μ ++ [.lst [.int x, .int y]])) := by
  obtain ⟨c, hc⟩ : ∃ c : Int, c = ns.headD 0 := ⟨_, rfl⟩
  obtain ⟨a, ha⟩ : ∃ a : Int, a = if c < 0 then -c else c := ⟨_, rfl⟩
  have a0 : 0 ≤ a := by
    rw [ha]
    split <;> omega
  have e1 : binop .add (.lst (ns.map D.int)) (.lst [.int 0]) = M.pure (.lst (ns.map D.int ++ [.int 0])) := by
    show M.bind (M.bind (seqL (.lst (ns.map D.int))) fun xs => M.bind (seqL (.lst [D.int 0])) fun ys => if xs.length + ys.length ≤ sizeLine then M.pure (xs ++ ys) else M.bad) (fun xs => M.pure (D.lst xs)) = _
    funext μ
    have q : (ns.map D.int).length + [D.int 0].length ≤ sizeLine := by
      rw [List.length_map]
      show ns.length + 1 ≤ sizeLine
      rw [sizeLine_eq]
      omega
    simp only [M.bind, seqL, T.bind, M.andThen, if_pos q, M.pure]
  have e2 : idxop (.lst (ns.map D.int ++ [.int 0])) (.int 0) = M.pure (.int c) := by
    funext μ
    have q : L2.atI (ns.map D.int ++ [D.int 0]) 0 = some (.int c) := by
      rw [hc]
      refine L2.atI_nat (j := 0) ?_
      cases ns with
      | nil => rfl
      | cons n r => rfl
    simp only [idxop, M.bind, seqA, seqL, T.bind, M.andThen, q, M.opt, M.pure]
  have e3 : binop .pow (.int 10) (.int 18) = M.pure (.int 1000000000000000000) := rfl
  have m1 : binop .mul (.int a) (.int 367) = M.pure (.int (a * 367)) := bin_mulR (by decide)
  have m3 : ∀ i : Int, binop .mod (.int i) (.int 1984129399) = M.pure (.int (i.fmod 1984129399)) := fun i => bin_mod (by decide)
  have m5 : ∀ i : Int, binop .fdiv (.int i) (.int 113) = M.pure (.int (i.fdiv 113)) := fun i => bin_fdiv (by decide) (by rw [show (113 : Int).natAbs = 113 from rfl]; exact Nat.lt_of_le_of_lt (Nat.log2_le_self 113) (by decide))
  have b1 := Int.fmod_nonneg_of_pos (a * 367 + 5303) (b := 1984129399) (by decide)
  have b2 := Int.fmod_lt_of_pos (a * 367 + 5303) (b := 1984129399) (by decide)
  have l2 : ∀ x y : Int, lenOk [D.int x, D.int y] = M.pure [D.int x, D.int y] := fun x y => rfl
  have l1 : lenOk [D.int 0] = M.pure [D.int 0] := rfl
  by_cases h : 1000000000000000000 ≤ a
  · refine ⟨a.fdiv 113, (a * 367 + 5303).fmod 1984129399 + 227, Int.fdiv_nonneg a0 (by decide), by omega, by omega, ?_⟩
    have hd : decide ((1000000000000000000 : Int) ≤ a) = true := decide_eq_true h
    simp [run, cupBody, evS, ev, Fn.ofE, Fn.ofL, M.bind, T.bind, M.andThen, M.pure, get, res, cmpop, truth, bfop, bfL, bin_add, setE, e1, e2, e3, m1, m3, m5, ← ha, hd, l1, l2, alloc]
  · refine ⟨0, (a * 367 + 5303).fmod 1984129399 + 227, Int.le_refl 0, by omega, by omega, ?_⟩
    have hd : decide ((1000000000000000000 : Int) ≤ a) = false := decide_eq_false h
    simp [run, cupBody, evS, ev, Fn.ofE, Fn.ofL, M.bind, T.bind, M.andThen, M.pure, get, res, cmpop, truth, bfop, bfL, bin_add, setE, e1, e2, e3, m1, m3, m5, ← ha, hd, l1, l2, alloc]
end
end DL
/-! DL13: the table of a text's defs; the law's end -/
namespace DL
open PySem PyProof.Rows L2 PySem.Spec
section
variable {G : Gx} {C : Nat → List D → M D} {Kc : Nat → D}
/-- the cup's def does what primCup says -/
theorem cup_imp (vs : List V) (H : Hp) (Q : VK) (E : XK) (h : spD G 1 primCup vs H Q E) : spD G 1 (fun as => if as.length = 1 then run C Kc 2 cupBody as else M.bad) vs H Q E := by
  obtain ⟨z, ds, W, e, hl, k, r, h⟩ := h
  unfold primCup at h
  split at h
  case h_2 => exact h.bad.elim
  rename_i ns
  rcases h.ite with ⟨hn, h⟩ | ⟨_, h⟩
  case inr => exact h.bad.elim
  refine ⟨z, [.scr ns], W, e, hl, k, r, ?_⟩
  obtain ⟨x, y, h1, h2, h3, hr⟩ := cup_run (C := C) (Kc := Kc) (μ := W.μ) hn
  show Wp G z W (run C Kc 2 cupBody [.scr ns]) _ _
  unfold Wp
  rw [hr]
  intro W' e' k' l'
  have hm : W'.μ[W.μ.length]? = some (.lst [.int x, .int y]) := by
    rw [e']
    simp
  obtain ⟨m, μ', H'⟩ := W'
  obtain ⟨q1, q2⟩ := to_cup k' hm h1 h2 h3
  have em : μ'.set W.μ.length .cup = W.μ ++ [.cup] := by
    rw [show μ' = _ from e']
    simp
  have := h ⟨m, μ'.set W.μ.length .cup, H'⟩ em q1 ⟨l'.pre, by rw [q2]; exact l'.ext, l'.zk⟩
  intro v hv
  refine this v ?_
  show Rp G (Wd.F z ⟨m, μ'.set W.μ.length .cup, H'⟩) m _ v
  rw [q2]
  exact hv
theorem set_self {α : Type} {l : List α} {n : Nat} {a b : α} (h : l[n]? = some a) : (l.set n b).set n a = l := by
  rw [List.set_set]
  obtain ⟨h1, h2⟩ := List.getElem?_eq_some_iff.mp h
  rw [← h2]
  exact List.set_getElem_self h1
theorem roll_imp (vs : List V) (H : Hp) (Q : VK) (E : XK) (h : spD G 2 primRoll vs H Q E) : spD G 2 (fun as => if as.length = 2 then run C Kc 4 rollBody as else M.bad) vs H Q E := by
  obtain ⟨z, ds, W, e, hl, k, r, h⟩ := h
  unfold primRoll at h
  split at h
  case h_2 => exact h.bad.elim
  rename_i n many
  obtain ⟨hc, hm, h⟩ : W.μ[n]? = some .cup ∧ (0 < many ∧ many.natAbs.log2 < 9000) ∧ Wp G z W (fun μ => .roll many.toNat fun r => .ret (.ok (.int (r : Int)) μ)) (Wt G z Q) fun c xs W' => ∀ (d : Option Addr), ExR G z xs d W' → E (Value.ref (G.ca c)) d W'.H := by
    unfold Wp at h ⊢
    dsimp only at h ⊢
    cases q : W.μ[n]? with
    | none =>
      rw [q] at h
      exact h.elim
    | some o =>
      rw [q] at h
      cases o with
      | cup =>
        by_cases q2 : 0 < many ∧ many.natAbs.log2 < 9000
        · exact ⟨rfl, q2, by simpa only [if_pos q2] using h⟩
        · simp only [if_neg q2] at h
          exact h.elim
      | _ => exact h.elim
  obtain ⟨x, y, q1, q2, q3, q4, q5⟩ := of_cup (m := W.m) (H := W.H) k hc
  have hn : n < W.μ.length := (List.getElem?_eq_some_iff.mp hc).1
  have hx : (W.μ.set n (.lst [.int x, .int y]))[n]? = some (.lst [.int x, .int y]) := List.getElem?_set_self hn
  obtain ⟨s, x', y', hs, p1, p2, p3, hr⟩ := roll_run (C := C) (Kc := Kc) hx q1 q2 q3 hm.1 hm.2
  refine ⟨z, [.ref n, .int many], ⟨W.m, W.μ.set n (.lst [.int x, .int y]), W.H⟩, e, hl, q4, ?_, ?_⟩
  · show Rps G (Wd.F z ⟨W.m, W.μ.set n (.lst [.int x, .int y]), W.H⟩) W.m _ vs
    rw [q5]
    exact r
  show Wp G z ⟨W.m, W.μ.set n (.lst [.int x, .int y]), W.H⟩ (run C Kc 4 rollBody [.ref n, .int many]) _ _
  unfold Wp
  show (run C Kc 4 rollBody [.ref n, .int many] (W.μ.set n (.lst [.int x, .int y]))).good _
  rw [hr]
  intro W' e' k' l'
  obtain ⟨m, μ', H'⟩ := W'
  have e2 : μ' = W.μ.set n (.lst [.int x', .int y']) := by
    rw [show μ' = _ from e', List.set_set]
  have hm' : μ'[n]? = some (.lst [.int x', .int y']) := by
    rw [e2]
    exact List.getElem?_set_self hn
  obtain ⟨t1, t2⟩ := to_cup k' hm' p1 p2 p3
  have em : μ'.set n .cup = W.μ := by
    rw [e2]
    exact set_self hc
  have := h s hs ⟨m, μ'.set n .cup, H'⟩ em t1 ⟨l'.pre, by rw [t2]; exact q5 ▸ l'.ext, l'.zk⟩
  intro v hv
  refine this v ?_
  show Rp G (Wd.F z ⟨m, μ'.set n .cup, H'⟩) m _ v
  rw [t2]
  exact hv
end
/-! ### what is let go -/
section
variable {G : Gx}
theorem D.noRefs_iff {n : Nat} : ∀ {ds : List D}, D.noRefs n ds = true ↔ ∀ d ∈ ds, D.noRef n d = true
  | [] => by simp [D.noRefs]
  | x :: xs => by simp [D.noRefs, D.noRefs_iff]
mutual
theorem Rp.cut {F F' : Hp} {m : List Addr} {n : Nat} (e : Ext F F') : ∀ {d : D} {v : V}, Rp G F m d v → D.noRef n d = true → Rp G F' (m.take n) d v
  | _, _, .non, _ => .non
  | _, _, .bl b, _ => .bl b
  | _, _, .int i, _ => .int i
  | _, _, .str x, _ => .str x
  | _, _, .tup h r, q => .tup (e.sqT h) (Rps.cut e r q)
  | _, _, .lst h r, q => .lst (e _ _ h (fun _ q => nomatch q)) (Rps.cut e r q)
  | _, _, .ref (n := k) h, q => .ref (by
      have q : Nat.blt k n = true := q
      rw [List.getElem?_take_of_lt (Nat.le_of_ble_eq_true q)]
      exact h)
  | _, _, .fn k, _ => .fn k
  | _, _, .cls k, _ => .cls k
  | _, _, .ty n, _ => .ty n
  | _, _, .scr h, _ => .scr (e.sqL h)
theorem Rps.cut {F F' : Hp} {m : List Addr} {n : Nat} (e : Ext F F') : ∀ {ds : List D} {vs : List V}, Rps G F m ds vs → D.noRefs n ds = true → Rps G F' (m.take n) ds vs
  | _, _, .nil, _ => .nil
  | _, _, .cons h t, q => .cons (Rp.cut e h (Bool.and_eq_true_iff.mp q).1) (Rps.cut e t (Bool.and_eq_true_iff.mp q).2)
end
theorem take_get {α : Type} {l : List α} {n i : Nat} {a : α} (h : (l.take n)[i]? = some a) : i < n ∧ l[i]? = some a := by
  rw [List.getElem?_take] at h
  split at h
  · exact ⟨by assumption, h⟩
  · cases h
theorem cut_ok {z : List Addr} {W W' : Wd} (k0 : Mok G z W) (k : Mok G z W') (l : Le z W W') (hq : (W'.μ.take W.μ.length).all (Ob.noRef W.μ.length) = true) :
    Mok G z ⟨W'.m.take W.μ.length, W'.μ.take W.μ.length, W'.H⟩ ∧ Le z W ⟨W'.m.take W.μ.length, W'.μ.take W.μ.length, W'.H⟩ ∧ Ext (W'.F z) (Wd.F z ⟨W'.m.take W.μ.length, W'.μ.take W.μ.length, W'.H⟩) := by
  obtain ⟨n, hn⟩ : ∃ n, n = W.μ.length := ⟨_, rfl⟩
  rw [← hn] at hq ⊢
  have lv : ∀ b, Wd.lv ⟨W'.m.take n, W'.μ.take n, W'.H⟩ b → W'.lv b := fun b ⟨i, h1, h2⟩ => by
    obtain ⟨q1, q2⟩ := take_get h2
    refine ⟨i, ?_, q2⟩
    unfold live at h1 ⊢
    rw [show (Wd.μ ⟨W'.m.take n, W'.μ.take n, W'.H⟩)[i]? = W'.μ[i]? from List.getElem?_take_of_lt q1] at h1
    exact h1
  have lvi : ∀ i, live (W'.μ.take n) i → live W'.μ i := fun i h1 => by
    unfold live at h1 ⊢
    cases q : (W'.μ.take n)[i]? with
    | none => rw [q] at h1; exact h1.elim
    | some o =>
      rw [q] at h1
      rw [(take_get q).2]
      exact h1
  have ext : Ext (W'.F z) (Wd.F z ⟨W'.m.take n, W'.μ.take n, W'.H⟩) := fun b o e _ => by
    obtain ⟨h1, h2, h3⟩ := Wd.F_some e
    exact Wd.F_of h1 h2 fun q => h3 (lv b q)
  refine ⟨{ len := ?_, inj := fun i j a h1 h2 e1 e2 => k.inj i j a (lvi i h1) (lvi j h2) (take_get e1).2 (take_get e2).2, zl := fun b hb q => k.zl b hb (lv b q), zs := k.zs, ob := fun i a o e1 e2 => ?_ }, ⟨fun i a e => ?_, l.ext.trans ext, l.zk⟩, ext⟩
  · show (W'.m.take n).length = (W'.μ.take n).length
    rw [List.length_take, List.length_take, k.len]
  · have q : Ob.noRef n o = true := List.all_eq_true.mp hq o (List.mem_of_getElem? e2)
    have h := k.ob i a o (take_get e1).2 (take_get e2).2
    cases o with
    | lst xs =>
      obtain ⟨vs, h1, h2⟩ := h
      exact ⟨vs, h1, Rps.cut ext h2 q⟩
    | fro d => exact Rp.cut ext (show Rp G _ _ d (.ref a) from h) q
    | cup => exact h
    | dK _ => cases q
    | dT _ => cases q
  · show (W'.m.take n)[i]? = some a
    have : i < n := by
      rw [hn, ← k0.len]
      exact (List.getElem?_eq_some_iff.mp e).1
    rw [List.getElem?_take_of_lt this]
    exact l.pre i a e
theorem pop_imp {n : Nat} {p : List D → Prop} [DecidablePred p] {f : List D → M D} (vs : List V) (H : Hp) (Q : VK) (E : XK) (h : spD G n (fun as => if p as then popM (f as) else M.bad) vs H Q E) : spD G n (fun as => if p as then f as else M.bad) vs H Q E := by
  obtain ⟨z, ds, W, e, hl, k, r, h⟩ := h
  refine ⟨z, ds, W, e, hl, k, r, ?_⟩
  rcases h.ite with ⟨hp, h⟩ | ⟨_, h⟩
  case inr => exact h.bad.elim
  show Wp G z W (if p ds then f ds else M.bad) _ _
  rw [if_pos hp]
  have h : ((f ds W.μ).bind _).good _ := h
  refine DL.T.good_mono (fun q hq => ?_) (DL.T.good_bind h)
  cases q with
  | bad => exact hq
  | exc c xs μ' => exact hq
  | ok a μ' =>
    intro W' e' k' l'
    dsimp only at hq
    by_cases c : (a.noRef W.μ.length && (μ'.take W.μ.length).all (Ob.noRef W.μ.length)) = true
    · rw [if_pos c] at hq
      obtain ⟨c1, c2⟩ := Bool.and_eq_true_iff.mp c
      obtain ⟨g1, g2, g3⟩ := cut_ok k k' l' (by rw [e']; exact c2)
      intro v hv
      exact hq ⟨W'.m.take W.μ.length, W'.μ.take W.μ.length, W'.H⟩ (by show W'.μ.take _ = _; rw [e']) g1 g2 v (Rp.cut g3 hv c1)
    · rw [if_neg c] at hq
      exact hq W' e' k' l'
end
/-- the prims of a table: c stands for the cup's place, r for the roll's -/
def primOf (c r : Nat) : Nat → Option (List D → M D) := fun k => if k = c then some primCup else if k = r then some primRoll else none
abbrev tabF (Kc : Nat → D) (ds : List Dr) (c r n : Nat) : Nat → List D → M D := callF Kc (ds.map Dr.df) (primOf c r) n
theorem fns_at {ds : List Dr} {k : Nat} {x : Str} {n : Nat} (h : (fnsOf ds)[k]? = some (x, n)) : ∃ d, ds[k]? = some d ∧ d.name = x ∧ d.ps.length = n := by
  unfold fnsOf at h
  rw [List.getElem?_map] at h
  cases e : ds[k]? with
  | none => rw [e] at h; cases h
  | some d =>
    rw [e] at h
    cases h
    exact ⟨d, rfl, rfl, rfl⟩
theorem callF_prim {Kc : Nat → D} {ds : List Df} {p : Nat → Option (List D → M D)} {n k : Nat} {f : List D → M D} (h : p k = some f) : callF Kc ds p (n + 1) k = f := by
  funext as
  rw [callF, h]
theorem callF_at {Kc : Nat → D} {ds : List Df} {p : Nat → Option (List D → M D)} {n k : Nat} {d : Df} (h : p k = none) (hd : ds[k]? = some d) : callF Kc ds p (n + 1) k = fun as => if as.length = d.pars then popM (run (callF Kc ds p n) Kc d.names d.body as) else M.bad := by
  funext as
  rw [callF, h]
  simp only [hd]
structure TabOk (ds : List Dr) (cns : List Str) (gcd : Bool) (c r : Nat) : Prop where
  ck : ∀ d ∈ ds, ckDr (fnsOf ds) cns gcd d = true
  cup : ∀ d, ds[c]? = some d → d.N.length = 2 ∧ d.ps.length = 1 ∧ d.body = cupBody
  roll : ∀ d, ds[r]? = some d → d.N.length = 4 ∧ d.ps.length = 2 ∧ d.body = rollBody
  ne : c ≠ r
theorem arity_ok {Kc : Nat → D} {ds : List Dr} {c r n k m : Nat} {x : Str} {cns : List Str} {gcd : Bool} (T : TabOk ds cns gcd c r) (h : (fnsOf ds)[k]? = some (x, m)) {G : Gx} (z : List Addr) (W : Wd) (as : List D) (P : D → Wd → Prop) (Ex : Nat → List D → Wd → Prop) (q : Wp G z W (tabF Kc ds c r n k as) P Ex) : as.length = m := by
  obtain ⟨d, h1, h2, h3⟩ := fns_at h
  cases n with
  | zero => exact q.bad.elim
  | succ n =>
    by_cases hc : k = c
    · subst hc
      rw [show tabF Kc ds k r (n + 1) k = primCup from callF_prim (if_pos rfl)] at q
      have := (T.cup d h1).2.1
      unfold primCup at q
      split at q
      · rw [← h3, this]; rfl
      · exact q.bad.elim
    · by_cases hr : k = r
      · subst hr
        rw [show tabF Kc ds c k (n + 1) k = primRoll from callF_prim (by unfold primOf; rw [if_neg hc, if_pos rfl])] at q
        have := (T.roll d h1).2.1
        unfold primRoll at q
        split at q
        · rw [← h3, this]; rfl
        · exact q.bad.elim
      · rw [show tabF Kc ds c r (n + 1) k = _ from callF_at (d := d.df) (by unfold primOf; rw [if_neg hc, if_neg hr]) (by rw [List.getElem?_map, h1]; rfl)] at q
        rcases q.ite with ⟨q1, _⟩ | ⟨_, q⟩
        · exact q1.trans h3
        · exact q.bad.elim
/-- THE TABLE: each def does what its run says -/
theorem tab_ok {P : Program} {w : World} {K : PySem.W.Frag} {mg : Str → Option Value} {base : Heap} {G : Gx} {Kc : Nat → D} {ds : List Dr} {cns : List Str} {gcd : Bool} {c r : Nat}
    (hK : K = G.K) (T : TabOk ds cns gcd c r)
    (F : ∀ k d, ds[k]? = some d → ∃ fd, FunD K d.name d.name (defArgs d.st) (defBody d.st) (defScope d.st) [] [] (G.fa k) fd ∧ Binds K fd d.ps [])
    (bi : ∀ x ∈ builtins, mg x = none) (con : ∀ k x, cns[k]? = some x → ∃ v u, mg x = some u ∧ RelV v u ∧ ∀ F m, Rp G F m (Kc k) v) (hg : gcd = true → mg "gcd" = some (.builtin "math.gcd"))
    (gl : ∀ k d, ds[k]? = some d → mg d.name = some (.ref (G.fa k))) :
    ∀ n k d fd, ds[k]? = some d → FunD K d.name d.name (defArgs d.st) (defBody d.st) (defScope d.st) [] [] (G.fa k) fd → FnOk P w K mg base (L2.CX P w) n (G.fa k) fd d.ps (spD G d.ps.length (tabF Kc ds c r n k))
  | 0, k, d, fd, _, _ => fn_bad fun _ => rfl
  | n + 1, k, d, fd, hk, FD => by
    have ih := tab_ok (P := P) (w := w) (base := base) hK T F bi con hg gl n
    have D := def_ok (P := P) (w := w) (mg := mg) (base := base) (G := G) (C := tabF Kc ds c r n) (Kc := Kc) (n := n) (fns := fnsOf ds) (cns := cns) (gcd := gcd) hK FD (T.ck d (List.mem_of_getElem? hk)) bi con hg
      (fun k x m e => by
        obtain ⟨d', e1, e2, e3⟩ := fns_at e
        obtain ⟨fd', F', _⟩ := F k d' e1
        exact ⟨e2 ▸ gl k d' e1, F'.kp⟩)
      (fun k x m e z W as P' Ex q => arity_ok T e z W as P' Ex q)
      (fun k x m e => by
        obtain ⟨d', e1, e2, e3⟩ := fns_at e
        obtain ⟨fd', F', B'⟩ := F k d' e1
        exact ⟨fd', d'.ps, B', e3 ▸ ih k d' fd' e1 F'⟩)
    by_cases hc : k = c
    · subst hc
      obtain ⟨t1, t2, t3⟩ := T.cup d hk
      rw [show tabF Kc ds k r (n + 1) k = primCup from callF_prim (if_pos rfl)]
      rw [t1, t2, t3] at D
      rw [t2]
      exact D.imp cup_imp
    · by_cases hr : k = r
      · subst hr
        obtain ⟨t1, t2, t3⟩ := T.roll d hk
        rw [show tabF Kc ds c k (n + 1) k = primRoll from callF_prim (by unfold primOf; rw [if_neg hc, if_pos rfl])]
        rw [t1, t2, t3] at D
        rw [t2]
        exact D.imp roll_imp
      · rw [show tabF Kc ds c r (n + 1) k = _ from callF_at (d := d.df) (by unfold primOf; rw [if_neg hc, if_neg hr]) (by rw [List.getElem?_map, hk]; rfl)]
        exact D.imp pop_imp
end DL
/-! DL14: a law's end by the facts of the head -/
namespace DL
open PySem PyProof.Rows L2 PySem.Spec
instance : Inhabited Dr := ⟨⟨"", .Pass ⟨0, 0, 0, 0⟩, [], [], .nil⟩⟩
/-- constants of the module -/
inductive Kon where
  | int (i : Int) | str (x : Str)
def Kon.fa (x : Str) : Kon → He.Fa
  | .int i => .int x i
  | .str z => .str x z
def Kon.d : Kon → D
  | .int i => .int i
  | .str z => .str z
def kcOf (ks : List (Str × Kon)) (k : Nat) : D := match ks[k]? with
  | some (_, q) => q.d
  | none => .non
def dfdOf (d : Dr) : He.DefD := ⟨(d.name, none), d.name, d.name, defArgs d.st, defBody d.st, defScope d.st, [], []⟩
def faOf (ds : List Dr) (ks : List (Str × Kon)) : List He.Fa := ds.map (fun d => He.Fa.glo d.name) ++ (builtins.map He.Fa.free ++ ks.map fun q => q.2.fa q.1)
def exOf (gcd : Bool) (K : PySem.W.Frag) : Bool := !gcd || He.eqO (PySem.W.nsIn K mainGlobals "gcd") (some (some (.builtin "math.gcd")))
abbrev hkOf (n : Nat) (ds : List Dr) (ks : List (Str × Kon)) (gcd : Bool) : PySem.W.Hook := He.hookX n (faOf ds ks) (ds.map dfdOf) [] [] (exOf gcd)
theorem fnOk_calm {P : Program} {w : World} {K : PySem.W.Frag} {mg : Str → Option Value} {base : Heap} {k : Nat} {f : Addr} {fd : FuncData} {ps : List Str} {sp : Sp} (F : FnOk P w K mg base (L2.CX P w) k f fd ps sp) :
    FnOk P w K mg base CX0 k f fd ps (fun vs H Q _ => sp vs H Q fun _ _ _ => False) :=
  ⟨fun vs H Q E h => F.len _ _ _ _ h, fun A outer s H args us vs Q E hr he hb hv hs => codeAny_mono (F.run A outer s H args us vs Q _ hr he hb hv hs) fun r s' q => by
    cases r with
    | ok v =>
      cases v with
      | ret u => exact q
      | _ => exact q
    | error e =>
      obtain ⟨_, _, _, _, _, _, _, _, _, _, _, _, q⟩ := q
      exact q⟩
def bindsB (d : Dr) : Prop := ∀ (kV doc pm : Value) (an : Option Addr) (cdv ct : Value) (us : List Value), us.length = d.ps.length → bindArgs (PySem.W.fnOf d.name d.name (defArgs d.st) (defBody d.st) (defScope d.st) .none kV doc pm an cdv ct) ⟨us, []⟩ = pure (d.ps.zip us)
theorem wd0_F (H : Hp) : Wd.F [] ⟨[], [], H⟩ = H := by
  funext b
  unfold Wd.F
  rw [if_neg]
  rintro (h | ⟨i, h, e⟩)
  · cases h
  · cases e
theorem mok0 {G : Gx} (H : Hp) : Mok G [] ⟨[], [], H⟩ := { len := rfl, inj := fun i j a h => by simp [live] at h, zl := fun b h => (nomatch h), zs := fun b h => (nomatch h), ob := fun i a o e => by simp at e }
def good (N : Nat) (ds : List Dr) (ks : List (Str × Kon)) (c r L : Nat) : Prop := ∀ ns : List Int, ns.length ≤ 63 → (tabF (kcOf ks) ds c r N L [.scr ns] []).good fun q => ∃ μ, q = .ok (.bl true) μ
theorem law_facts {P : Program} {w : World} {K : PySem.W.Frag} {h : Heap} {mg : Str → Option Value} {f : Addr} {ds : List Dr} {ks : List (Str × Kon)} {gcd : Bool} {c r L N : Nat} {x : Str} {dL : Dr}
    (T : TabOk ds (ks.map (·.1)) gcd c r) (hb : ∀ d ∈ ds, bindsB d) (hL : ds[L]? = some dL) (hps : dL.ps = [x]) (hgood : good N ds ks c r L)
    (X : K.In h) (G0 : h.Ns mainGlobals mg) (cc : He.SaysX (faOf ds ks) (ds.map dfdOf) [] [] (exOf gcd) w h K) (hmg : mg dL.name = some (.ref f)) :
    ∃ (fd : FuncData) (sp : Sp), (∀ (s : Shared) (u : Value), BindsTo s fd ⟨[u], []⟩ [(x, u)]) ∧
      (∀ (H : Hp) (a : Addr) (ns : List Int), ns.length ≤ 63 → Only H → SqL K H a (ns.map V.int) → sp [.ref a] H (fun v _ => v = .bl true) fun _ _ _ => False) ∧
      ∀ base : Heap, K.In base → base.Ns mainGlobals mg → FnOk P w K mg base CX0 N f fd [x] sp := by
  have sd : He.SaysD (faOf ds ks) (ds.map dfdOf) K := cc.t.d
  have fF : ∀ {q : He.Fa}, q ∈ faOf ds ks → q.ok K = true := fun hq => sd.facts hq
  obtain ⟨G, hG⟩ : ∃ G : Gx, G = ⟨P, w, K, mg, h, fun k => He.ga K (ds.getD k default).name, fun _ => 0⟩ := ⟨_, rfl⟩
  have hK : K = G.K := by rw [hG]
  have hfa : ∀ k d, ds[k]? = some d → G.fa k = He.ga K d.name := fun k d e => by
    rw [hG]
    show He.ga K (ds.getD k default).name = _
    rw [List.getD_eq_getElem?_getD, e]
    rfl
  have gl : ∀ k d, ds[k]? = some d → mg d.name = some (.ref (G.fa k)) := fun k d e => by
    rw [hfa k d e]
    exact He.glo_ok X G0 (fF (List.mem_append_left _ (List.mem_map.mpr ⟨d, List.mem_of_getElem? e, rfl⟩)))
  have fd_of : ∀ k d, ds[k]? = some d → ∃ fd, FunD K d.name d.name (defArgs d.st) (defBody d.st) (defScope d.st) [] [] (G.fa k) fd := fun k d e => by
    obtain ⟨fd, F⟩ := sd.defs (d := dfdOf d) (List.mem_map.mpr ⟨d, List.mem_of_getElem? e, rfl⟩)
    rw [hfa k d e]
    exact ⟨fd, F⟩
  have F : ∀ k d, ds[k]? = some d → ∃ fd, FunD K d.name d.name (defArgs d.st) (defBody d.st) (defScope d.st) [] [] (G.fa k) fd ∧ Binds K fd d.ps [] := fun k d e => by
    obtain ⟨fd, F⟩ := fd_of k d e
    exact ⟨fd, F, F.bindsN (hb d (List.mem_of_getElem? e))⟩
  have bi : ∀ y ∈ builtins, mg y = none := fun y hy => He.free_ok X G0 (fF (List.mem_append_right _ (List.mem_append_left _ (List.mem_map.mpr ⟨y, hy, rfl⟩))))
  have con : ∀ k y, (ks.map (·.1))[k]? = some y → ∃ v u, mg y = some u ∧ RelV v u ∧ ∀ F m, Rp G F m (kcOf ks k) v := fun k y e => by
    rw [List.getElem?_map] at e
    cases q : ks[k]? with
    | none => rw [q] at e; cases e
    | some p =>
      rw [q] at e
      cases e
      obtain ⟨y, p⟩ := p
      have hq : p.fa y ∈ faOf ds ks := List.mem_append_right _ (List.mem_append_right _ (List.mem_map.mpr ⟨(y, p), List.mem_of_getElem? q, rfl⟩))
      have hkc : kcOf ks k = p.d := by
        unfold kcOf
        rw [q]
      cases p with
      | int i =>
        obtain ⟨t, ht⟩ := He.int_ok X G0 (fF hq)
        exact ⟨.int i, _, ht, ⟨t, rfl⟩, fun F m => by rw [hkc]; exact .int i⟩
      | str z =>
        obtain ⟨t, ht⟩ := He.str_ok X G0 (fF hq)
        exact ⟨.str z, _, ht, ⟨t, rfl⟩, fun F m => by rw [hkc]; exact .str z⟩
  have hg : gcd = true → mg "gcd" = some (.builtin "math.gcd") := fun hg => by
    have q : exOf gcd K = true := cc.more
    rw [hg] at q
    exact PySem.W.mg_of X G0 (He.eqO_ok q)
  obtain ⟨fd, FD⟩ := fd_of L dL hL
  have ef : f = G.fa L := by
    have := hmg.symm.trans (gl L dL hL)
    cases this
    rfl
  have b := FunD.bindsA (ps := dL.ps) FD (hb dL (List.mem_of_getElem? hL))
  refine ⟨fd, _, fun s u => ?_, ?_, fun base _ _ => fnOk_calm (ef ▸ hps ▸ tab_ok (P := P) (w := w) (base := base) (ds := ds) (c := c) (r := r) hK T F bi con hg gl N L dL fd hL FD)⟩
  · have := b s [u] (by rw [hps]; rfl)
    rw [hps] at this
    exact this
  · intro H a ns hl _ hS
    refine ⟨[], [.scr ns], ⟨[], [], H⟩, rfl, rfl, mok0 H, ?_, ?_⟩
    · show Rps G (Wd.F [] ⟨[], [], H⟩) [] [.scr ns] [.ref a]
      rw [wd0_F]
      exact .cons (.scr (hK ▸ hS)) .nil
    · refine DL.T.good_mono (fun q hq => ?_) (hgood ns hl)
      obtain ⟨μ, rfl⟩ := hq
      intro W' _ _ _ v hv
      cases hv
      rfl
end DL
/-! DL15: runs without memory, in equations -/
namespace DL
open PySem
theorem T.bind_assoc {α β γ : Type} (f : α → T β) (g : β → T γ) : ∀ t : T α, (t.bind f).bind g = t.bind fun a => (f a).bind g
  | .ret a => rfl
  | .roll n k => by
    show T.roll n _ = T.roll n _
    congr 1
    funext r
    exact T.bind_assoc f g (k r)
section
variable {α β γ : Type}
@[simp] theorem pb (a : α) (f : α → M β) : M.bind (M.pure a) f = f a := rfl
@[simp] theorem bb (m : M α) (f : α → M β) (g : β → M γ) : M.bind (M.bind m f) g = M.bind m fun x => M.bind (f x) g := by
  funext μ
  unfold M.bind
  rw [T.bind_assoc]
  congr 1
  funext r
  cases r <;> rfl
@[simp] theorem badb (f : α → M β) : M.bind M.bad f = M.bad := rfl
@[simp] theorem opt_some (a : α) : M.opt (some a) = M.pure a := rfl
@[simp] theorem opt_none : M.opt (none : Option α) = M.bad := rfl
@[simp] theorem iteb {c : Prop} [Decidable c] (a b : M α) (f : α → M β) : M.bind (if c then a else b) f = if c then M.bind a f else M.bind b f := by
  by_cases q : c
  · rw [if_pos q, if_pos q]
  · rw [if_neg q, if_neg q]
@[simp] theorem popM_pure (a : D) : popM (M.pure a) = M.pure a := by
  funext μ
  show (if _ then T.ret (R.ok a (μ.take μ.length)) else T.ret (R.ok a μ)) = _
  rw [List.take_length]
  exact ite_self _
@[simp] theorem popM_bad : popM M.bad = M.bad := rfl
@[simp] theorem popM_ite {c : Prop} [Decidable c] (a b : M D) : popM (if c then a else b) = if c then popM a else popM b := by
  by_cases q : c
  · rw [if_pos q, if_pos q]
  · rw [if_neg q, if_neg q]
theorem popM_opt (o : Option D) : popM (M.opt o) = M.opt o := by
  cases o <;> simp
end
section
variable (C : Nat → List D → M D) (K : Nat → D) (ρ : Env)

variable (a b c d e es it elt cond lo hi : Ez) (o : Op2) (bo : BoolOp) (cp cp2 : Cp) (n : Nat) (z : Int) (x : Str) (q : Bool) (s : String) (f : Bf) (tg : Tz)
@[simp] theorem ev_non_e : (ev C K (.non)).e ρ = M.pure .non := rfl
@[simp] theorem ev_non_t : (ev C K (.non)).t ρ = M.bind ((ev C K (.non)).e ρ) truth := rfl
@[simp] theorem ev_non_i : (ev C K (.non)).i ρ = M.bind ((ev C K (.non)).e ρ) still := rfl
@[simp] theorem ev_non_p : (ev C K (.non)).p ρ = M.bind ((ev C K (.non)).e ρ) asInt := rfl
@[simp] theorem ev_bl_e : (ev C K (.bl q)).e ρ = M.pure (.bl q) := rfl
@[simp] theorem ev_bl_t : (ev C K (.bl q)).t ρ = M.bind ((ev C K (.bl q)).e ρ) truth := rfl
@[simp] theorem ev_bl_i : (ev C K (.bl q)).i ρ = M.bind ((ev C K (.bl q)).e ρ) still := rfl
@[simp] theorem ev_bl_p : (ev C K (.bl q)).p ρ = M.bind ((ev C K (.bl q)).e ρ) asInt := rfl
@[simp] theorem ev_int_e : (ev C K (.int z)).e ρ = M.pure (.int z) := rfl
@[simp] theorem ev_int_t : (ev C K (.int z)).t ρ = M.bind ((ev C K (.int z)).e ρ) truth := rfl
@[simp] theorem ev_int_i : (ev C K (.int z)).i ρ = M.bind ((ev C K (.int z)).e ρ) still := rfl
@[simp] theorem ev_int_p : (ev C K (.int z)).p ρ = M.bind ((ev C K (.int z)).e ρ) asInt := rfl
@[simp] theorem ev_str_e : (ev C K (.str x)).e ρ = M.pure (.str x) := rfl
@[simp] theorem ev_str_t : (ev C K (.str x)).t ρ = M.bind ((ev C K (.str x)).e ρ) truth := rfl
@[simp] theorem ev_str_i : (ev C K (.str x)).i ρ = M.bind ((ev C K (.str x)).e ρ) still := rfl
@[simp] theorem ev_str_p : (ev C K (.str x)).p ρ = M.bind ((ev C K (.str x)).e ρ) asInt := rfl
@[simp] theorem ev_var_e : (ev C K (.var n)).e ρ = M.bind (get ρ n) res := rfl
@[simp] theorem ev_var_t : (ev C K (.var n)).t ρ = M.bind ((ev C K (.var n)).e ρ) truth := rfl
@[simp] theorem ev_var_i : (ev C K (.var n)).i ρ = M.bind ((ev C K (.var n)).e ρ) still := rfl
@[simp] theorem ev_var_p : (ev C K (.var n)).p ρ = M.bind ((ev C K (.var n)).e ρ) asInt := rfl
@[simp] theorem ev_gfn_e : (ev C K (.gfn n)).e ρ = M.pure (.fn n) := rfl
@[simp] theorem ev_gfn_t : (ev C K (.gfn n)).t ρ = M.bind ((ev C K (.gfn n)).e ρ) truth := rfl
@[simp] theorem ev_gfn_i : (ev C K (.gfn n)).i ρ = M.bind ((ev C K (.gfn n)).e ρ) still := rfl
@[simp] theorem ev_gfn_p : (ev C K (.gfn n)).p ρ = M.bind ((ev C K (.gfn n)).e ρ) asInt := rfl
@[simp] theorem ev_gcon_e : (ev C K (.gcon n)).e ρ = M.pure (K n) := rfl
@[simp] theorem ev_gcon_t : (ev C K (.gcon n)).t ρ = M.bind ((ev C K (.gcon n)).e ρ) truth := rfl
@[simp] theorem ev_gcon_i : (ev C K (.gcon n)).i ρ = M.bind ((ev C K (.gcon n)).e ρ) still := rfl
@[simp] theorem ev_gcon_p : (ev C K (.gcon n)).p ρ = M.bind ((ev C K (.gcon n)).e ρ) asInt := rfl
@[simp] theorem ev_gty_e : (ev C K (.gty s)).e ρ = M.pure (.ty s) := rfl
@[simp] theorem ev_gty_t : (ev C K (.gty s)).t ρ = M.bind ((ev C K (.gty s)).e ρ) truth := rfl
@[simp] theorem ev_gty_i : (ev C K (.gty s)).i ρ = M.bind ((ev C K (.gty s)).e ρ) still := rfl
@[simp] theorem ev_gty_p : (ev C K (.gty s)).p ρ = M.bind ((ev C K (.gty s)).e ρ) asInt := rfl
@[simp] theorem ev_frz_e : (ev C K (.frz n)).e ρ = M.bind (get ρ n) frz := rfl
@[simp] theorem ev_frz_t : (ev C K (.frz n)).t ρ = M.bind ((ev C K (.frz n)).e ρ) truth := rfl
@[simp] theorem ev_frz_i : (ev C K (.frz n)).i ρ = M.bind ((ev C K (.frz n)).e ρ) still := rfl
@[simp] theorem ev_frz_p : (ev C K (.frz n)).p ρ = M.bind ((ev C K (.frz n)).e ρ) asInt := rfl
@[simp] theorem ev_bin_e : (ev C K (.bin o a b)).e ρ = M.bind ((ev C K a).e ρ) fun x => M.bind ((ev C K b).e ρ) fun y => binop o x y := rfl
@[simp] theorem ev_bin_t : (ev C K (.bin o a b)).t ρ = M.bind ((ev C K (.bin o a b)).e ρ) truth := rfl
@[simp] theorem ev_bin_i : (ev C K (.bin o a b)).i ρ = M.bind ((ev C K (.bin o a b)).e ρ) still := rfl
@[simp] theorem ev_bin_p : (ev C K (.bin o a b)).p ρ = M.bind ((ev C K (.bin o a b)).e ρ) asInt := rfl
@[simp] theorem ev_neg_e : (ev C K (.neg a)).e ρ = M.bind ((ev C K a).e ρ) negop := rfl
@[simp] theorem ev_neg_t : (ev C K (.neg a)).t ρ = M.bind ((ev C K (.neg a)).e ρ) truth := rfl
@[simp] theorem ev_neg_i : (ev C K (.neg a)).i ρ = M.bind ((ev C K (.neg a)).e ρ) still := rfl
@[simp] theorem ev_neg_p : (ev C K (.neg a)).p ρ = M.bind ((ev C K (.neg a)).e ρ) asInt := rfl
@[simp] theorem ev_cmp_e : (ev C K (.cmp cp a b)).e ρ = M.bind ((ev C K a).e ρ) fun x => M.bind ((ev C K b).e ρ) fun y => cmpop cp x y := rfl
@[simp] theorem ev_cmp_t : (ev C K (.cmp cp a b)).t ρ = M.bind ((ev C K (.cmp cp a b)).e ρ) truth := rfl
@[simp] theorem ev_cmp_i : (ev C K (.cmp cp a b)).i ρ = M.bind ((ev C K (.cmp cp a b)).e ρ) still := rfl
@[simp] theorem ev_cmp_p : (ev C K (.cmp cp a b)).p ρ = M.bind ((ev C K (.cmp cp a b)).e ρ) asInt := rfl
@[simp] theorem ev_chain_e : (ev C K (.chain cp cp2 a b d)).e ρ = M.bind ((ev C K a).e ρ) fun x => M.bind ((ev C K b).e ρ) fun y => M.bind (cmpop cp x y) (chainop cp2 y ((ev C K d).e ρ)) := rfl
@[simp] theorem ev_chain_t : (ev C K (.chain cp cp2 a b d)).t ρ = M.bind ((ev C K (.chain cp cp2 a b d)).e ρ) truth := rfl
@[simp] theorem ev_chain_i : (ev C K (.chain cp cp2 a b d)).i ρ = M.bind ((ev C K (.chain cp cp2 a b d)).e ρ) still := rfl
@[simp] theorem ev_chain_p : (ev C K (.chain cp cp2 a b d)).p ρ = M.bind ((ev C K (.chain cp cp2 a b d)).e ρ) asInt := rfl
@[simp] theorem ev_ife_e : (ev C K (.ife c a b)).e ρ = M.bind ((ev C K c).t ρ) fun k => if k = true then (ev C K a).e ρ else (ev C K b).e ρ := rfl
@[simp] theorem ev_ife_t : (ev C K (.ife c a b)).t ρ = M.bind ((ev C K (.ife c a b)).e ρ) truth := rfl
@[simp] theorem ev_ife_i : (ev C K (.ife c a b)).i ρ = M.bind ((ev C K (.ife c a b)).e ρ) still := rfl
@[simp] theorem ev_ife_p : (ev C K (.ife c a b)).p ρ = M.bind ((ev C K (.ife c a b)).e ρ) asInt := rfl
@[simp] theorem ev_tup_e : (ev C K (.tup es)).e ρ = M.bind ((ev C K es).es ρ) fun xs => M.bind (lenOk xs) fun xs => M.pure (.tup xs) := rfl
@[simp] theorem ev_tup_t : (ev C K (.tup es)).t ρ = M.bind ((ev C K (.tup es)).e ρ) truth := rfl
@[simp] theorem ev_tup_i : (ev C K (.tup es)).i ρ = M.bind ((ev C K (.tup es)).e ρ) still := rfl
@[simp] theorem ev_tup_p : (ev C K (.tup es)).p ρ = M.bind ((ev C K (.tup es)).e ρ) asInt := rfl
@[simp] theorem ev_idx_e : (ev C K (.idx a b)).e ρ = M.bind ((ev C K a).e ρ) fun x => M.bind ((ev C K b).e ρ) fun y => idxop x y := rfl
@[simp] theorem ev_idx_t : (ev C K (.idx a b)).t ρ = M.bind ((ev C K (.idx a b)).e ρ) truth := rfl
@[simp] theorem ev_idx_i : (ev C K (.idx a b)).i ρ = M.bind ((ev C K (.idx a b)).e ρ) still := rfl
@[simp] theorem ev_idx_p : (ev C K (.idx a b)).p ρ = M.bind ((ev C K (.idx a b)).e ρ) asInt := rfl
@[simp] theorem ev_slc_e : (ev C K (.slc a lo hi)).e ρ = M.bind ((ev C K a).e ρ) fun x => M.bind ((ev C K lo).p ρ) fun l => M.bind ((ev C K hi).p ρ) fun h => slcop l h x := rfl
@[simp] theorem ev_slc_t : (ev C K (.slc a lo hi)).t ρ = M.bind ((ev C K (.slc a lo hi)).e ρ) truth := rfl
@[simp] theorem ev_slc_i : (ev C K (.slc a lo hi)).i ρ = M.bind ((ev C K (.slc a lo hi)).e ρ) still := rfl
@[simp] theorem ev_slc_p : (ev C K (.slc a lo hi)).p ρ = M.bind ((ev C K (.slc a lo hi)).e ρ) asInt := rfl
@[simp] theorem ev_mkl_e : (ev C K (.mkl a)).e ρ = M.bind ((ev C K a).l ρ) fun xs => alloc (.lst xs) := rfl
@[simp] theorem ev_mkl_t : (ev C K (.mkl a)).t ρ = M.bind ((ev C K (.mkl a)).e ρ) truth := rfl
@[simp] theorem ev_mkl_i : (ev C K (.mkl a)).i ρ = M.bind ((ev C K (.mkl a)).e ρ) still := rfl
@[simp] theorem ev_mkl_p : (ev C K (.mkl a)).p ρ = M.bind ((ev C K (.mkl a)).e ρ) asInt := rfl
@[simp] theorem ev_call_e : (ev C K (.call n es)).e ρ = M.bind ((ev C K es).es ρ) (C n) := rfl
@[simp] theorem ev_call_t : (ev C K (.call n es)).t ρ = M.bind ((ev C K (.call n es)).e ρ) truth := rfl
@[simp] theorem ev_call_i : (ev C K (.call n es)).i ρ = M.bind ((ev C K (.call n es)).e ρ) still := rfl
@[simp] theorem ev_call_p : (ev C K (.call n es)).p ρ = M.bind ((ev C K (.call n es)).e ρ) asInt := rfl
@[simp] theorem ev_bf_e : (ev C K (.bf f es)).e ρ = M.bind ((ev C K es).es ρ) (bfop f) := rfl
@[simp] theorem ev_bf_t : (ev C K (.bf f es)).t ρ = M.bind ((ev C K (.bf f es)).e ρ) truth := rfl
@[simp] theorem ev_bf_i : (ev C K (.bf f es)).i ρ = M.bind ((ev C K (.bf f es)).e ρ) still := rfl
@[simp] theorem ev_bf_p : (ev C K (.bf f es)).p ρ = M.bind ((ev C K (.bf f es)).e ρ) asInt := rfl
@[simp] theorem ev_bin_l : (ev C K (.bin o a b)).l ρ = M.bind ((ev C K a).e ρ) fun x => M.bind ((ev C K b).e ρ) fun y => binopL o x y := rfl
@[simp] theorem ev_bf_l : (ev C K (.bf f es)).l ρ = M.bind ((ev C K es).es ρ) (bfL f) := rfl
@[simp] theorem ev_slc_l : (ev C K (.slc a lo hi)).l ρ = M.bind ((ev C K a).e ρ) fun x => M.bind ((ev C K lo).p ρ) fun l => M.bind ((ev C K hi).p ρ) fun h => M.bind (seqL x) fun xs => M.pure (cut xs l h) := rfl
@[simp] theorem ev_lst_l : (ev C K (.lst es)).l ρ = M.bind ((ev C K es).es ρ) lenOk := rfl
@[simp] theorem ev_lst_e : (ev C K (.lst es)).e ρ = M.bind ((ev C K (.lst es)).l ρ) fun xs => M.pure (.lst xs) := rfl
@[simp] theorem ev_lst_i : (ev C K (.lst es)).i ρ = M.bind ((ev C K (.lst es)).e ρ) still := rfl
@[simp] theorem ev_lc_l : (ev C K (.lc tg it cond elt)).l ρ = M.bind ((ev C K it).i ρ) fun ds => M.bind (lenOk ds) fun ds => lcGo ds (lcTurn tg (ev C K cond).t (ev C K elt).e ρ) := rfl
@[simp] theorem ev_lc_e : (ev C K (.lc tg it cond elt)).e ρ = M.bind ((ev C K (.lc tg it cond elt)).l ρ) fun xs => M.pure (.lst xs) := rfl
@[simp] theorem ev_lc_i : (ev C K (.lc tg it cond elt)).i ρ = M.bind ((ev C K (.lc tg it cond elt)).e ρ) still := rfl
@[simp] theorem ev_bool_e : (ev C K (.bool bo es)).e ρ = (ev C K es).b bo ρ := rfl
@[simp] theorem ev_bool_t : (ev C K (.bool bo es)).t ρ = (ev C K es).bt bo ρ := rfl
@[simp] theorem ev_not_e : (ev C K (.not a)).e ρ = M.bind ((ev C K a).e ρ) fun x => M.bind (truth x) fun k => M.pure (.bl !k) := rfl
@[simp] theorem ev_not_t : (ev C K (.not a)).t ρ = M.bind ((ev C K a).t ρ) fun k => M.pure !k := rfl
@[simp] theorem ev_range1_i : (ev C K (.range1 a)).i ρ = M.bind ((ev C K a).e ρ) rng1 := rfl
@[simp] theorem ev_range2_i : (ev C K (.range2 a b)).i ρ = M.bind ((ev C K a).e ρ) fun x => M.bind ((ev C K b).e ρ) fun y => rng2 x y := rfl
@[simp] theorem ev_enum_i : (ev C K (.enum a)).i ρ = M.bind ((ev C K a).e ρ) enumop := rfl
@[simp] theorem ev_zip_i : (ev C K (.zip a b)).i ρ = M.bind ((ev C K a).e ρ) fun x => M.bind ((ev C K b).e ρ) fun y => zipop x y := rfl
@[simp] theorem ev_nil_es : (ev C K .nil).es ρ = M.pure [] := rfl
@[simp] theorem ev_nil_t : (ev C K .nil).t ρ = M.pure true := rfl
@[simp] theorem ev_nil_p : (ev C K .nil).p ρ = M.pure none := rfl
@[simp] theorem ev_cons_es : (ev C K (.cons e es)).es ρ = M.bind ((ev C K e).e ρ) fun x => M.bind ((ev C K es).es ρ) fun xs => M.pure (x :: xs) := rfl
@[simp] theorem ev_one_b : (ev C K (.cons e .nil)).b bo ρ = (ev C K e).e ρ := rfl
@[simp] theorem ev_more_b : (ev C K (.cons e (.cons d es))).b bo ρ = M.bind ((ev C K e).e ρ) fun x => M.bind (truth x) fun k => boolV bo k x ((ev C K (.cons d es)).b bo ρ) := rfl
@[simp] theorem ev_one_bt : (ev C K (.cons e .nil)).bt bo ρ = (ev C K e).t ρ := rfl
@[simp] theorem ev_more_bt : (ev C K (.cons e (.cons d es))).bt bo ρ = M.bind ((ev C K e).t ρ) fun k => boolT bo k ((ev C K (.cons d es)).bt bo ρ) := rfl
end
@[simp] theorem res_non  : res .non = M.pure .non := rfl
@[simp] theorem res_bl {b : Bool} : res (.bl b) = M.pure (.bl b) := rfl
@[simp] theorem res_int {i : Int} : res (.int i) = M.pure (.int i) := rfl
@[simp] theorem res_str {x : Str} : res (.str x) = M.pure (.str x) := rfl
@[simp] theorem res_tup {xs : List D} : res (.tup xs) = M.pure (.tup xs) := rfl
@[simp] theorem res_lst {xs : List D} : res (.lst xs) = M.pure (.lst xs) := rfl
@[simp] theorem res_fn {k : Nat} : res (.fn k) = M.pure (.fn k) := rfl
@[simp] theorem res_cls {k : Nat} : res (.cls k) = M.pure (.cls k) := rfl
@[simp] theorem res_ty {s : String} : res (.ty s) = M.pure (.ty s) := rfl
@[simp] theorem res_scr {ns : List Int} : res (.scr ns) = M.pure (.scr ns) := rfl
section
variable {i j : Int} {xs ys : List D} {a b : Bool} {x y : Str} {m : M D}
@[simp] theorem truth_bl : truth (.bl a) = M.pure a := rfl
@[simp] theorem truth_int : truth (.int i) = M.pure (i != 0) := rfl
@[simp] theorem truth_lst : truth (.lst xs) = M.pure !xs.isEmpty := rfl
@[simp] theorem truth_tup : truth (.tup xs) = M.pure !xs.isEmpty := rfl
@[simp] theorem truth_non : truth .non = M.pure false := rfl
@[simp] theorem bin_add' : binop .add (.int i) (.int j) = M.pure (.int (i + j)) := rfl
@[simp] theorem bin_sub' : binop .sub (.int i) (.int j) = M.pure (.int (i - j)) := rfl
@[simp] theorem neg_int : negop (.int i) = M.pure (.int (-i)) := rfl
@[simp] theorem lt_int : cmpop .lt (.int i) (.int j) = M.pure (.bl (decide (i < j))) := rfl
@[simp] theorem le_int : cmpop .le (.int i) (.int j) = M.pure (.bl (decide (i ≤ j))) := rfl
@[simp] theorem gt_int : cmpop .gt (.int i) (.int j) = M.pure (.bl (decide (j < i))) := rfl
@[simp] theorem ge_int : cmpop .ge (.int i) (.int j) = M.pure (.bl (decide (j ≤ i))) := rfl
@[simp] theorem eq_int : cmpop .eq (.int i) (.int j) = M.pure (.bl (i == j)) := rfl
@[simp] theorem ne_int : cmpop .ne (.int i) (.int j) = M.pure (.bl (!(i == j))) := rfl
@[simp] theorem chain_t (c : Cp) (d : D) : chainop c d m (.bl true) = M.bind m fun z => cmpop c d z := rfl
@[simp] theorem chain_f (c : Cp) (d : D) : chainop c d m (.bl false) = M.pure (.bl false) := rfl
theorem chain_b (c : Cp) (d : D) : chainop c d m (.bl a) = if a = true then M.bind m fun z => cmpop c d z else M.pure (.bl false) := by cases a <;> rfl
@[simp] theorem seqL_lst : seqL (.lst xs) = M.pure xs := rfl
@[simp] theorem seqA_lst : seqA (.lst xs) = M.pure xs := rfl
@[simp] theorem seqA_tup : seqA (.tup xs) = M.pure xs := rfl
@[simp] theorem still_lst : still (.lst xs) = M.pure xs := rfl
@[simp] theorem still_tup : still (.tup xs) = M.pure xs := rfl
@[simp] theorem asInt_int : asInt (.int i) = M.pure (some i) := rfl
@[simp] theorem idx_int (d : D) : idxop d (.int i) = M.bind (seqA d) fun xs => M.opt (L2.atI xs i) := rfl
@[simp] theorem boolV_at (d : D) : boolV .And true d m = m := rfl
@[simp] theorem boolV_af (d : D) : boolV .And false d m = M.pure d := rfl
@[simp] theorem boolV_ot (d : D) : boolV .Or true d m = M.pure d := rfl
@[simp] theorem boolV_of (d : D) : boolV .Or false d m = m := rfl
@[simp] theorem boolT_at (m : M Bool) : boolT .And true m = m := rfl
@[simp] theorem boolT_af (m : M Bool) : boolT .And false m = M.pure false := rfl
@[simp] theorem boolT_ot (m : M Bool) : boolT .Or true m = M.pure true := rfl
@[simp] theorem boolT_of (m : M Bool) : boolT .Or false m = m := rfl
theorem boolT_and (m : M Bool) : boolT .And a m = if a = true then m else M.pure false := by cases a <;> rfl
theorem boolT_or (m : M Bool) : boolT .Or a m = if a = true then M.pure true else m := by cases a <;> rfl
theorem boolV_and (d : D) : boolV .And a d m = if a = true then m else M.pure d := by cases a <;> rfl
theorem boolV_or (d : D) : boolV .Or a d m = if a = true then M.pure d else m := by cases a <;> rfl
@[simp] theorem bf_len (d : D) : bfop .len [d] = M.bind (seqA d) fun xs => M.pure (.int xs.length) := rfl
@[simp] theorem bf_abs : bfop .abs [.int i] = M.pure (.int (if i < 0 then -i else i)) := rfl
@[simp] theorem bf_int : bfop .int [.int i] = M.pure (.int i) := rfl
@[simp] theorem bf_min : bfop .min2 [.int i, .int j] = M.pure (.int (if j < i then j else i)) := rfl
@[simp] theorem bf_max : bfop .max2 [.int i, .int j] = M.pure (.int (if j > i then j else i)) := rfl
@[simp] theorem bf_gcd : bfop .gcd [.int i, .int j] = M.pure (.int ((Nat.gcd i.natAbs j.natAbs : Nat) : Int)) := Eq.trans (Eq.refl _) (Eq.refl _)
@[simp] theorem bf_tuple (d : D) : bfop .tuple [d] = M.bind (seqA d) fun xs => M.pure (.tup xs) := rfl
@[simp] theorem bf_sum (d : D) : bfop .sum [d] = M.bind (seqL d) fun xs => M.bind (M.opt (intsOf xs)) fun is => M.pure (.int is.sum) := rfl
@[simp] theorem isin_ii : bfop .isin [.int i, .ty "int"] = M.pure (.bl true) := rfl
@[simp] theorem isin_ib : bfop .isin [.int i, .ty "bool"] = M.pure (.bl false) := rfl
@[simp] theorem intsOf_map (is : List Int) : intsOf (is.map D.int) = some is := by
  induction is with
  | nil => rfl
  | cons i is ih =>
    show (match intsOf (is.map D.int) with
      | some is => some (i :: is)
      | none => none) = _
    rw [ih]
@[simp] theorem lenOk0 : lenOk [] = M.pure [] := rfl
@[simp] theorem len1 (d : D) : lenOk [d] = M.pure [d] := rfl
@[simp] theorem len2 (d e : D) : lenOk [d, e] = M.pure [d, e] := rfl
@[simp] theorem len3 (d e f : D) : lenOk [d, e, f] = M.pure [d, e, f] := rfl
@[simp] theorem len4 (d e f g : D) : lenOk [d, e, f, g] = M.pure [d, e, f, g] := rfl
theorem lenOk_le (h : xs.length ≤ 8000) : lenOk xs = M.pure xs := by
  unfold lenOk
  rw [if_pos (by rw [sizeLine_eq]; omega)]
@[simp] theorem atI0 {α : Type} (a : α) (l : List α) : L2.atI (a :: l) 0 = some a := L2.atI_nat (j := 0) rfl
@[simp] theorem atI1 {α : Type} (a b : α) (l : List α) : L2.atI (a :: b :: l) 1 = some b := L2.atI_nat (j := 1) rfl
@[simp] theorem atI2 {α : Type} (a b c : α) (l : List α) : L2.atI (a :: b :: c :: l) 2 = some c := L2.atI_nat (j := 2) rfl
theorem bin_mulS (h : -(2 ^ 64) < i ∧ i < 2 ^ 64) : binop .mul (.int i) (.int j) = M.pure (.int (i * j)) := by
  refine if_pos ?_
  simp only [Bool.or_eq_true, Bool.and_eq_true, decide_eq_true_eq]
  exact .inl h
/-- a def, called -/
theorem call_at {Kc : Nat → D} {ds : List Dr} {c r n k : Nat} {d : Dr} (hd : ds[k]? = some d) (h : primOf c r k = none) (as : List D) (ha : as.length = d.ps.length) :
    tabF Kc ds c r (n + 1) k as = popM (run (tabF Kc ds c r n) Kc d.N.length d.body as) := by
  have := callF_at (Kc := Kc) (ds := ds.map Dr.df) (p := primOf c r) (n := n) (k := k) (d := d.df) h (by rw [List.getElem?_map, hd]; rfl)
  show callF Kc (ds.map Dr.df) (primOf c r) (n + 1) k as = _
  rw [this]
  exact if_pos ha
theorem run_eq {C : Nat → List D → M D} {K : Nat → D} {n : Nat} {b : Sz} {as : List D} : run C K n b as = M.bind (evS C K b (as.map some ++ List.replicate (n - as.length) none)) fun o => match o with
  | .nx _ => M.pure .non
  | .rt d => M.pure d
  | _ => M.bad := rfl
end
/-! ### loops -/
section
variable {σ : Type}
/-- a loop whose turns go on -/
theorem forGo_fold {tg : Tz} {b : Env → M Out} {emb : σ → Env} {g : σ → D → σ} : ∀ (ds : List D) (s : σ), (∀ s, ∀ d ∈ ds, (M.bind (M.opt (bindT tg d (emb s))) fun ρ' => b ρ') = M.pure (.nx (emb (g s d)))) → forGo tg b ds (emb s) = M.pure (.nx (emb (ds.foldl g s)))
  | [], s, _ => rfl
  | d :: ds, s, h => by
    have h1 := h s d (List.mem_cons_self ..)
    show (M.bind (M.opt (bindT tg d (emb s))) fun ρ' => M.bind (b ρ') _) = _
    rw [← bb, h1, pb]
    exact forGo_fold ds (g s d) fun s e he => h s e (List.mem_cons_of_mem _ he)
theorem lcGo_map {f : D → M (Option D)} {g : D → Option D} : ∀ (ds : List D), (∀ d ∈ ds, f d = M.pure (g d)) → lcGo ds f = M.pure (ds.filterMap g)
  | [], _ => rfl
  | d :: ds, h => by
    show (M.bind (f d) fun r => M.bind (lcGo ds f) fun rs => M.pure (match r with
      | some e => e :: rs
      | none => rs)) = _
    rw [h d (List.mem_cons_self ..), pb, lcGo_map ds fun e he => h e (List.mem_cons_of_mem _ he), pb, List.filterMap_cons]
    cases g d <;> rfl
@[simp] theorem calmM_pure {α : Type} (a : α) : calmM (M.pure a) = M.pure a := rfl
@[simp] theorem calmM_ite {α : Type} {c : Prop} [Decidable c] (a b : M α) : calmM (if c then a else b) = if c then calmM a else calmM b := by
  by_cases q : c
  · rw [if_pos q, if_pos q]
  · rw [if_neg q, if_neg q]
end
end DL
/-! DL16: the laws' common defs: sort, like -/
namespace DL
open PySem
theorem mem2 {l a b : Int} : cmpop .mem (.int l) (.tup [.int a, .int b]) = M.pure (.bl (a == l || b == l)) := by
  show M.pure (D.bl (a == l || (b == l || false))) = _
  rw [Bool.or_false]
theorem rng1_ok {n : Int} (h : 0 ≤ n ∧ n ≤ 1000000) : rng1 (.int n) = M.pure ((List.range n.toNat).map fun (i : Nat) => D.int (i : Int)) := by
  refine if_pos ?_
  unfold lim
  omega
theorem bin_fdivS {i j : Int} (h : j ≠ 0 ∧ j.natAbs < 1073741824) : binop .fdiv (.int i) (.int j) = M.pure (.int (i.fdiv j)) := if_pos h
theorem mem_rng {s : Nat} {d : D} (h : d ∈ (List.range s).map fun (i : Nat) => D.int (i : Int)) : ∃ i : Nat, i < s ∧ d = .int i := by
  obtain ⟨i, h1, h2⟩ := List.mem_map.mp h
  exact ⟨i, List.mem_range.mp h1, h2.symm⟩
@[simp] theorem isN_non {d : D} : cmpop .isN d .non = M.pure (D.bl d.isNon) := rfl
@[simp] theorem notN_non {d : D} : cmpop .notN d .non = M.pure (D.bl (!d.isNon)) := rfl
theorem isinF {d : D} {n t : String} (h1 : tyName d = some t) (h2 : tyOk n = true) : bfop .isin [d, .ty n] = M.pure (.bl (isTy t n)) := by
  show (match tyName d with
    | some t => if tyOk n then M.pure (D.bl (isTy t n)) else M.bad
    | none => M.bad) = _
  rw [h1]
  exact if_pos h2
theorem isinE {d : D} {n : String} : bfop .isin [d, .ty n] = match tyName d with
    | some t => if tyOk n then M.pure (D.bl (isTy t n)) else M.bad
    | none => M.bad := rfl
def sortB : Sz := (.cons (.ite (.bool .Or (.cons (.cmp .isN (.var 0) .non) (.cons (.bf .isin (.cons (.var 0) (.cons (.gty "bool") .nil))) .nil))) (.cons (.ret (.ife (.cmp .isN (.var 0) .non) (.int 0) (.int 1))) .nil) .nil) (.cons (.ite (.bool .Or (.cons (.bf .isin (.cons (.var 0) (.cons (.gty "int") .nil))) (.cons (.bf .isin (.cons (.var 0) (.cons (.gty "str") .nil))) .nil))) (.cons (.ret (.ife (.bf .isin (.cons (.var 0) (.cons (.gty "int") .nil))) (.int 2) (.int 3))) .nil) .nil) (.cons (.ret (.ife (.bf .isin (.cons (.var 0) (.cons (.gty "tuple") .nil))) (.int 4) (.ife (.bf .isin (.cons (.var 0) (.cons (.gty "list") .nil))) (.int 5) (.int 6)))) .nil)))
def likeB (kS kL : Nat) : Sz := (.cons (.set 2 (.call kS (.cons (.var 1) .nil))) (.cons (.ite (.bool .Or (.cons (.cmp .ne (.call kS (.cons (.var 0) .nil)) (.var 2)) (.cons (.cmp .eq (.var 2) (.int 6)) .nil))) (.cons (.ret (.bl false)) .nil) .nil) (.cons (.ite (.cmp .mem (.var 2) (.tup (.cons (.int 4) (.cons (.int 5) .nil)))) (.cons (.ret (.bool .And (.cons (.cmp .eq (.bf .len (.cons (.var 0) .nil)) (.bf .len (.cons (.var 1) .nil))) (.cons (.cmp .eq (.lc (.tp (.cons (.nm 3) (.cons (.nm 4) .nil))) (.zip (.var 0) (.var 1)) (.not (.call kL (.cons (.var 3) (.cons (.var 4) .nil)))) (.int 1)) (.lst .nil)) .nil)))) .nil) .nil) (.cons (.ret (.cmp .eq (.var 0) (.var 1))) .nil))))
def srt : D → Option Int
  | .non => some 0
  | .bl _ => some 1
  | .int _ => some 2
  | .str _ => some 3
  | .tup _ => some 4
  | .lst _ => some 5
  | _ => none
structure LikeAt (ds : List Dr) (c r kS kL : Nat) : Prop where
  s : ∃ d, ds[kS]? = some d ∧ d.ps.length = 1 ∧ d.N.length = 1 ∧ d.body = sortB
  l : ∃ d, ds[kL]? = some d ∧ d.ps.length = 2 ∧ d.N.length = 5 ∧ d.body = likeB kS kL
  ps : primOf c r kS = none
  pl : primOf c r kL = none
section
variable {Kc : Nat → D} {ds : List Dr} {c r kS kL : Nat} (A : LikeAt ds c r kS kL)
include A
theorem sort_at (n : Nat) {v : D} {i : Int} (h : srt v = some i) : tabF Kc ds c r (n + 1) kS [v] = M.pure (.int i) := by
  obtain ⟨d, h1, h2, h3, h4⟩ := A.s
  rw [call_at h1 A.ps _ (by rw [h2]; rfl), run_eq, h3, h4]
  have b1 : tyOk "bool" = true := by decide
  have b2 : tyOk "int" = true := by decide
  have b3 : tyOk "str" = true := by decide
  have b4 : tyOk "tuple" = true := by decide
  have b5 : tyOk "list" = true := by decide
  cases v <;> cases h <;> simp -implicitDefEqProofs [sortB, evS, DL.get, D.isNon, isinE, tyName, b1, b2, b3, b4, b5, isTy]
/-- plain data of depth at most k -/
def PL : Nat → D → Prop
  | 0, _ => False
  | k + 1, d => match d with
    | .non => True
    | .bl _ => True
    | .int _ => True
    | .str x => cmpop .eq (.str x) (.str x) = M.pure (.bl true)
    | .tup xs => xs.length ≤ 8000 ∧ ∀ x ∈ xs, PL k x
    | .lst xs => xs.length ≤ 8000 ∧ ∀ x ∈ xs, PL k x
    | _ => False
omit A in
theorem zipD_self {xs : List D} {d : D} (h : d ∈ zipD xs xs) : ∃ x ∈ xs, d = .tup [x, x] := by
  unfold zipD at h
  obtain ⟨p, hp, rfl⟩ := List.mem_map.mp h
  have : ∀ {l : List D} {p : D × D}, p ∈ l.zip l → p.1 ∈ l ∧ p.2 = p.1 := fun {l} => by
    induction l with
    | nil => intro p h; cases h
    | cons a l ih =>
      intro p h
      rw [List.zip_cons_cons] at h
      rcases List.mem_cons.mp h with rfl | h
      · exact ⟨List.mem_cons_self .., rfl⟩
      · exact ⟨List.mem_cons_of_mem _ (ih h).1, (ih h).2⟩
  obtain ⟨q1, q2⟩ := this hp
  exact ⟨p.1, q1, by rw [q2]⟩
omit A in
theorem eq_nil : cmpop .eq (.lst []) (.lst []) = M.pure (.bl true) := rfl
theorem like_at : ∀ (k n : Nat) {x : D}, PL k x → tabF Kc ds c r (n + k + 1) kL [x, x] = M.pure (.bl true)
  | 0, n, x, h => h.elim
  | k + 1, n, x, h => by
    obtain ⟨d, h1, h2, h3, h4⟩ := A.l
    rw [call_at h1 A.pl _ (by rw [h2]; rfl), run_eq, h3, h4]
    have seq : ∀ xs : List D, xs.length ≤ 8000 → (∀ x ∈ xs, PL k x) → ∀ ρ : Env, ρ.length = 5 → lcGo (zipD xs xs) (lcTurn (.tp (.cons (.nm 3) (.cons (.nm 4) .nil))) (ev (tabF Kc ds c r (n + (k + 1))) Kc (.not (.call kL (.cons (.var 3) (.cons (.var 4) .nil))))).t (ev (tabF Kc ds c r (n + (k + 1))) Kc (.int 1)).e ρ) = M.pure [] := fun xs hl hx ρ hρ => by
      obtain ⟨a, b, c', d', e, rfl⟩ : ∃ a b c d e, ρ = [a, b, c, d, e] := by
        match ρ, hρ with
        | [a, b, c, d, e], _ => exact ⟨a, b, c, d, e, rfl⟩
      rw [lcGo_map (g := fun _ => none)]
      · rw [show (zipD xs xs).filterMap (fun _ => (none : Option D)) = [] from by simp]
      · intro dd hd
        obtain ⟨x, hx', rfl⟩ := zipD_self hd
        have ih := like_at k n (hx x hx')
        have rs : res x = M.pure x := by
          have := hx x hx'
          match k, x, this with
          | k + 1, .non, _ => rfl
          | k + 1, .bl _, _ => rfl
          | k + 1, .int _, _ => rfl
          | k + 1, .str _, _ => rfl
          | k + 1, .tup _, _ => rfl
          | k + 1, .lst _, _ => rfl
        have ih' : tabF Kc ds c r (n + (k + 1)) kL [x, x] = M.pure (.bl true) := ih
        simp -implicitDefEqProofs [lcTurn, wipeE, Tz.slots, bindT, bindTs, DL.get, rs, ih']
    have so := fun {v i} (hv : srt v = some i) => sort_at (Kc := Kc) A (n + k) hv
    have so' : ∀ {v : D} {i : Int}, srt v = some i → tabF Kc ds c r (n + (k + 1)) kS [v] = M.pure (.int i) := so
    have zl : ∀ xs : List D, xs.length ≤ 8000 → lenOk (zipD xs xs) = M.pure (zipD xs xs) := fun xs hl => lenOk_le (by unfold zipD; simpa using hl)
    match x, h with
    | .non, _ => simp -implicitDefEqProofs [likeB, evS, DL.get, setE, so' (v := .non) rfl, mem2, show cmpop .eq (.non) (.non) = M.pure (.bl true) from rfl]
    | .bl b, _ => simp -implicitDefEqProofs [likeB, evS, DL.get, setE, so' (v := .bl b) rfl, mem2, show cmpop .eq (.bl b) (.bl b) = M.pure (.bl true) from by cases b <;> rfl]
    | .int i, _ => simp -implicitDefEqProofs [likeB, evS, DL.get, setE, so' (v := .int i) rfl, mem2]
    | .str s, h =>
      have h : cmpop .eq (.str s) (.str s) = M.pure (.bl true) := h
      simp -implicitDefEqProofs [likeB, evS, DL.get, setE, so' (v := .str s) rfl, mem2, h]
    | .tup xs, h =>
      have hz : zipop (.tup xs) (.tup xs) = M.pure (zipD xs xs) := rfl
      simp -implicitDefEqProofs [likeB, evS, DL.get, setE, so' (v := .tup xs) rfl, mem2, hz, zl xs h.1, seq xs h.1 h.2 [some (.tup xs), some (.tup xs), some (.int 4), none, none] rfl, eq_nil]
    | .lst xs, h =>
      have hz : zipop (.lst xs) (.lst xs) = M.pure (zipD xs xs) := rfl
      simp -implicitDefEqProofs [likeB, evS, DL.get, setE, so' (v := .lst xs) rfl, mem2, hz, zl xs h.1, seq xs h.1 h.2 [some (.lst xs), some (.lst xs), some (.int 5), none, none] rfl, eq_nil]
end
end DL
namespace Row
open PySem PySem.Spec PyProof.Rows L2 DL
def top (i : Nat) : Stmt := PySem.Challenge.pw_gamesweighed_k54_whole_inspections.main.body.getD i (.Pass ⟨0, 0, 0, 0⟩)
def b0 : Sz := (.cons (.set 1 (.call 1 (.cons (.var 0) .nil))) (.cons (.set 2 (.bin .add (.int 1) (.call 2 (.cons (.var 1) (.cons (.int 12) .nil))))) (.cons (.for (.nm 3) (.range1 (.bin .add (.var 2) (.int 1))) (.cons (.ite (.not (.call 18 (.cons (.var 2) (.cons (.var 3) .nil)))) (.cons (.ret (.bl false)) .nil) .nil) .nil)) (.cons (.ret (.bool .And (.cons (.call 3 (.cons (.var 1) .nil)) (.cons (.call 30 .nil) .nil)))) .nil))))
def b1 : Sz := (.cons (.set 1 (.bf .abs (.cons (.idx (.bin .add (.bf .list (.cons (.var 0) .nil)) (.lst (.cons (.int 0) .nil))) (.int 0)) .nil))) (.cons (.ret (.mkl (.lst (.cons (.ife (.cmp .ge (.var 1) (.bin .pow (.int 10) (.int 18))) (.bin .fdiv (.var 1) (.int 113)) (.int 0)) (.cons (.bin .add (.bin .mod (.bf .int (.cons (.bin .add (.bin .mul (.var 1) (.int 367)) (.int 5303)) .nil)) (.int 1984129399)) (.int 227)) .nil))))) .nil))
def b2 : Sz := (.cons (.ite (.cmp .gt (.idx (.var 0) (.int 0)) (.int 0)) (.cons (.set 2 (.bin .mod (.bf .int (.cons (.idx (.var 0) (.int 0)) .nil)) (.var 1))) (.cons (.setix (.var 0) (.int 0) (.bin .fdiv (.idx (.var 0) (.int 0)) (.var 1))) (.cons (.ret (.var 2)) .nil))) .nil) (.cons (.setix (.var 0) (.int 1) (.bin .mod (.bf .int (.cons (.bin .add (.bin .mul (.idx (.var 0) (.int 1)) (.int 30011)) (.int 9001)) .nil)) (.int 2147483543))) (.cons (.set 3 (.bin .mod (.bf .int (.cons (.bin .mul (.idx (.var 0) (.int 1)) (.bin .add (.idx (.var 0) (.int 1)) (.int 293))) .nil)) (.int 2147483587))) (.cons (.ret (.bin .mod (.bf .int (.cons (.bin .fdiv (.var 3) (.int 883)) .nil)) (.var 1))) .nil))))
def b3 : Sz := (.cons (.set 1 (.lst (.cons (.call 6 (.cons (.int 60) (.cons (.int 0) .nil))) (.cons (.call 6 (.cons (.int 60) (.cons (.int 1) .nil))) (.cons (.call 6 (.cons (.int 60) (.cons (.int 59) .nil))) (.cons (.call 6 (.cons (.int 60) (.cons (.int 60) .nil))) (.cons (.call 13 (.cons (.int 60) (.cons (.int 1) .nil))) (.cons (.call 17 (.cons (.int 60) (.cons (.int 1) .nil))) .nil)))))))) (.cons (.set 2 (.lst (.cons (.tup (.cons (.int 1) (.cons (.int 1) .nil))) (.cons (.tup (.cons (.int 59) (.cons (.int 61) .nil))) (.cons (.tup (.cons (.int 1) (.cons (.bin .sub (.bin .shl (.int 1) (.int 60)) (.int 1)) .nil))) (.cons (.tup (.cons (.int 0) (.cons (.int 1) .nil))) .nil)))))) (.cons (.ite (.bool .Or (.cons (.not (.call 4 (.cons (.slc (.var 1) .nil (.int 4)) (.cons (.var 2) .nil)))) (.cons (.not (.call 18 (.cons (.int 60) (.cons (.bin .add (.int 1) (.call 2 (.cons (.var 0) (.cons (.int 59) .nil)))) .nil)))) .nil))) (.cons (.ret (.bl false)) .nil) .nil) (.cons (.par [3, 4] (.tup (.cons (.bin .add (.int 2) (.call 2 (.cons (.var 0) (.cons (.int 58) .nil)))) (.cons (.call 2 (.cons (.var 0) (.cons (.int 30) .nil))) .nil)))) (.cons (.set 4 (.bf .min2 (.cons (.var 4) (.cons (.bin .sub (.var 3) (.int 1)) .nil)))) (.cons (.par [5, 6, 7] (.tup (.cons (.call 6 (.cons (.var 3) (.cons (.var 4) .nil))) (.cons (.call 6 (.cons (.var 3) (.cons (.bin .add (.var 4) (.int 1)) .nil))) (.cons (.call 6 (.cons (.bin .add (.var 3) (.int 1)) (.cons (.var 4) .nil))) .nil))))) (.cons (.ite (.bool .Or (.cons (.cmp .le (.call 27 (.cons (.var 5) (.cons (.var 6) .nil))) (.int 0)) (.cons (.cmp .lt (.call 27 (.cons (.var 7) (.cons (.var 5) .nil))) (.int 0)) (.cons (.bool .And (.cons (.cmp .gt (.var 4) (.int 0)) (.cons (.cmp .eq (.call 27 (.cons (.var 7) (.cons (.var 5) .nil))) (.int 0)) .nil))) .nil)))) (.cons (.ret (.bl false)) .nil) .nil) (.cons (.ret (.call 4 (.cons (.lst (.cons (.call 17 (.cons (.var 3) (.cons (.int 1) .nil))) (.cons (.call 13 (.cons (.var 3) (.cons (.int 1) .nil))) .nil))) (.cons (.lst (.cons (.call 28 (.cons (.var 3) .nil)) (.cons (.call 29 (.cons (.var 3) .nil)) .nil))) .nil)))) .nil))))))))
def b4 : Sz := (.cons (.set 2 (.call 5 (.cons (.var 1) .nil))) (.cons (.ite (.bool .Or (.cons (.cmp .ne (.call 5 (.cons (.var 0) .nil)) (.var 2)) (.cons (.cmp .eq (.var 2) (.int 6)) .nil))) (.cons (.ret (.bl false)) .nil) .nil) (.cons (.ite (.cmp .mem (.var 2) (.tup (.cons (.int 4) (.cons (.int 5) .nil)))) (.cons (.ret (.bool .And (.cons (.cmp .eq (.bf .len (.cons (.var 0) .nil)) (.bf .len (.cons (.var 1) .nil))) (.cons (.cmp .eq (.lc (.tp (.cons (.nm 3) (.cons (.nm 4) .nil))) (.zip (.var 0) (.var 1)) (.not (.call 4 (.cons (.var 3) (.cons (.var 4) .nil)))) (.int 1)) (.lst .nil)) .nil)))) .nil) .nil) (.cons (.ret (.cmp .eq (.var 0) (.var 1))) .nil))))
def b5 : Sz := (.cons (.ite (.bool .Or (.cons (.cmp .isN (.var 0) .non) (.cons (.bf .isin (.cons (.var 0) (.cons (.gty "bool") .nil))) .nil))) (.cons (.ret (.ife (.cmp .isN (.var 0) .non) (.int 0) (.int 1))) .nil) .nil) (.cons (.ite (.bool .Or (.cons (.bf .isin (.cons (.var 0) (.cons (.gty "int") .nil))) (.cons (.bf .isin (.cons (.var 0) (.cons (.gty "str") .nil))) .nil))) (.cons (.ret (.ife (.bf .isin (.cons (.var 0) (.cons (.gty "int") .nil))) (.int 2) (.int 3))) .nil) .nil) (.cons (.ret (.ife (.bf .isin (.cons (.var 0) (.cons (.gty "tuple") .nil))) (.int 4) (.ife (.bf .isin (.cons (.var 0) (.cons (.gty "list") .nil))) (.int 5) (.int 6)))) .nil)))
def b6 : Sz := (.cons (.expr (.call 7 (.cons (.var 0) (.cons (.var 1) .nil)))) (.cons (.ret (.call 10 (.cons (.var 0) (.cons (.var 1) .nil)))) .nil))
def b7 : Sz := (.cons (.expr (.call 8 (.cons (.var 0) (.cons (.int 0) (.cons (.gcon 0) .nil))))) (.cons (.expr (.call 8 (.cons (.var 1) (.cons (.int 0) (.cons (.var 0) .nil))))) .nil))
def b8 : Sz := (.cons (.ite (.not (.call 9 (.cons (.var 0) (.cons (.var 1) (.cons (.var 2) .nil))))) (.cons .never .nil) .nil) .nil)
def b9 : Sz := (.cons (.ret (.bool .And (.cons (.bf .isin (.cons (.var 0) (.cons (.gty "int") .nil))) (.cons (.not (.bf .isin (.cons (.var 0) (.cons (.gty "bool") .nil)))) (.cons (.chain .le .le (.var 1) (.var 0) (.var 2)) .nil))))) .nil)
def b10 : Sz := (.cons (.ite (.cmp .ge (.var 1) (.var 0)) (.cons (.ret (.tup (.cons (.int 0) (.cons (.int 1) .nil)))) .nil) .nil) (.cons (.ret (.call 11 (.cons (.call 12 (.cons (.bin .sub (.var 0) (.int 1)) (.cons (.var 1) .nil))) (.cons (.bf .sum (.cons (.lc (.nm 2) (.range1 (.bin .add (.var 1) (.int 1))) .nil (.call 12 (.cons (.var 0) (.cons (.var 2) .nil)))) .nil)) .nil)))) .nil))
def b11 : Sz := (.cons (.set 2 (.bin .mul (.bf .gcd (.cons (.var 0) (.cons (.var 1) .nil))) (.ife (.cmp .gt (.var 1) (.int 0)) (.int 1) (.neg (.int 1))))) (.cons (.ret (.tup (.cons (.bin .fdiv (.var 0) (.var 2)) (.cons (.bin .fdiv (.var 1) (.var 2)) .nil)))) .nil))
def b12 : Sz := (.cons (.set 2 (.int 1)) (.cons (.for (.nm 3) (.range1 (.var 1)) (.cons (.set 2 (.bin .fdiv (.bin .mul (.var 2) (.bin .sub (.var 0) (.var 3))) (.bin .add (.var 3) (.int 1)))) .nil)) (.cons (.ret (.var 2)) .nil)))
def b13 : Sz := (.cons (.expr (.call 14 (.cons (.var 0) (.cons (.var 1) .nil)))) (.cons (.ite (.cmp .mem (.var 1) (.tup (.cons (.int 0) (.cons (.var 0) .nil)))) (.cons (.ret (.ife (.cmp .eq (.var 1) (.int 0)) (.tup (.cons (.int 0) (.cons (.int 1) .nil))) (.tup (.cons (.int 1) (.cons (.int 1) .nil))))) .nil) .nil) (.cons (.tset (.cons (.nm 2) (.cons (.nm 3) .nil)) (.call 15 (.cons (.var 0) (.cons (.var 1) .nil)))) (.cons (.set 4 (.call 16 (.cons (.tup (.cons (.int 2) (.cons (.int 1) .nil))) (.cons (.call 16 (.cons (.var 2) (.cons (.tup (.cons (.neg (.idx (.var 3) (.int 0))) (.cons (.idx (.var 3) (.int 1)) .nil))) .nil))) .nil)))) (.cons (.set 5 (.call 16 (.cons (.tup (.cons (.int 1) (.cons (.int 1) .nil))) (.cons (.tup (.cons (.neg (.idx (.var 3) (.int 0))) (.cons (.idx (.var 3) (.int 1)) .nil))) .nil)))) (.cons (.ret (.call 11 (.cons (.bin .mul (.idx (.var 5) (.int 0)) (.idx (.var 4) (.int 1))) (.cons (.bin .mul (.idx (.var 5) (.int 1)) (.idx (.var 4) (.int 0))) .nil)))) .nil))))))
def b14 : Sz := (.cons (.expr (.call 7 (.cons (.var 0) (.cons (.var 1) .nil)))) (.cons (.expr (.call 8 (.cons (.var 0) (.cons (.int 1) (.cons (.gcon 0) .nil))))) .nil))
def b15 : Sz := (.cons (.ret (.tup (.cons (.call 10 (.cons (.bin .sub (.var 0) (.int 1)) (.cons (.bin .sub (.var 1) (.int 1)) .nil))) (.cons (.call 10 (.cons (.bin .sub (.var 0) (.int 1)) (.cons (.var 1) .nil))) .nil)))) .nil)
def b16 : Sz := (.cons (.ret (.call 11 (.cons (.bin .add (.bin .mul (.idx (.var 0) (.int 0)) (.idx (.var 1) (.int 1))) (.bin .mul (.idx (.var 1) (.int 0)) (.idx (.var 0) (.int 1)))) (.cons (.bin .mul (.idx (.var 0) (.int 1)) (.idx (.var 1) (.int 1))) .nil)))) .nil)
def b17 : Sz := (.cons (.expr (.call 14 (.cons (.var 0) (.cons (.var 1) .nil)))) (.cons (.ite (.cmp .mem (.var 1) (.tup (.cons (.int 0) (.cons (.var 0) .nil)))) (.cons (.ret (.ife (.cmp .eq (.var 1) (.int 0)) (.tup (.cons (.int 1) (.cons (.int 1) .nil))) (.tup (.cons (.int 0) (.cons (.int 1) .nil))))) .nil) .nil) (.cons (.tset (.cons (.nm 2) (.cons (.nm 3) .nil)) (.call 15 (.cons (.var 0) (.cons (.var 1) .nil)))) (.cons (.set 4 (.call 16 (.cons (.var 2) (.cons (.tup (.cons (.neg (.idx (.var 3) (.int 0))) (.cons (.idx (.var 3) (.int 1)) .nil))) .nil)))) (.cons (.set 5 (.call 16 (.cons (.tup (.cons (.int 2) (.cons (.int 1) .nil))) (.cons (.var 4) .nil)))) (.cons (.ret (.call 11 (.cons (.bin .mul (.idx (.var 4) (.int 0)) (.idx (.var 5) (.int 1))) (.cons (.bin .mul (.idx (.var 4) (.int 1)) (.idx (.var 5) (.int 0))) .nil)))) .nil))))))
def b18 : Sz := (.cons (.set 2 (.call 6 (.cons (.var 0) (.cons (.var 1) .nil)))) (.cons (.ite (.not (.call 4 (.cons (.var 2) (.cons (.call 23 (.cons (.var 0) (.cons (.var 1) .nil))) .nil)))) (.cons (.ret (.bl false)) .nil) .nil) (.cons (.par [3, 4] (.tup (.cons (.call 17 (.cons (.var 0) (.cons (.var 1) .nil))) (.cons (.call 13 (.cons (.var 0) (.cons (.var 1) .nil))) .nil)))) (.cons (.ite (.cmp .mem (.var 1) (.tup (.cons (.int 0) (.cons (.var 0) .nil)))) (.cons (.ret (.call 4 (.cons (.lst (.cons (.var 3) (.cons (.var 4) .nil))) (.cons (.ife (.cmp .eq (.var 1) (.int 0)) (.lst (.cons (.tup (.cons (.int 1) (.cons (.int 1) .nil))) (.cons (.tup (.cons (.int 0) (.cons (.int 1) .nil))) .nil))) (.lst (.cons (.tup (.cons (.int 0) (.cons (.int 1) .nil))) (.cons (.tup (.cons (.int 1) (.cons (.int 1) .nil))) .nil)))) .nil)))) .nil) .nil) (.cons (.set 5 (.call 19 (.cons (.var 0) (.cons (.var 1) .nil)))) (.cons (.set 6 (.tup (.cons (.tup (.cons (.tup (.cons (.neg (.int 1)) (.cons (.int 1) .nil))) (.cons (.tup (.cons (.int 1) (.cons (.int 1) .nil))) .nil))) (.cons (.tup (.cons (.call 23 (.cons (.bin .sub (.var 0) (.int 1)) (.cons (.bin .sub (.var 1) (.int 1)) .nil))) (.cons (.call 23 (.cons (.bin .sub (.var 0) (.int 1)) (.cons (.var 1) .nil))) .nil))) .nil)))) (.cons (.ite (.not (.call 4 (.cons (.var 5) (.cons (.var 6) .nil)))) (.cons (.ret (.bl false)) .nil) .nil) (.cons (.for (.nm 7) (.tup (.cons (.int 0) (.cons (.int 1) .nil))) (.cons (.set 8 (.call 20 (.cons (.call 25 (.cons (.var 3) (.cons (.idx (.idx (.var 5) (.int 0)) (.var 7)) .nil))) (.cons (.call 25 (.cons (.call 26 (.cons (.tup (.cons (.int 1) (.cons (.int 1) .nil))) (.cons (.var 3) .nil))) (.cons (.idx (.idx (.var 5) (.int 1)) (.var 7)) .nil))) .nil)))) (.cons (.set 9 (.call 20 (.cons (.call 25 (.cons (.var 4) (.cons (.idx (.idx (.var 5) (.var 7)) (.int 0)) .nil))) (.cons (.call 25 (.cons (.call 26 (.cons (.tup (.cons (.int 1) (.cons (.int 1) .nil))) (.cons (.var 4) .nil))) (.cons (.idx (.idx (.var 5) (.var 7)) (.int 1)) .nil))) .nil)))) (.cons (.ite (.not (.call 4 (.cons (.lst (.cons (.var 8) (.cons (.var 9) .nil))) (.cons (.lst (.cons (.var 2) (.cons (.var 2) .nil))) .nil)))) (.cons (.ret (.bl false)) .nil) .nil) .nil)))) (.cons (.ret (.bool .And (.cons (.call 4 (.cons (.var 3) (.cons (.call 21 (.cons (.idx (.var 3) (.int 0)) (.cons (.idx (.var 3) (.int 1)) .nil))) .nil))) (.cons (.chain .lt .lt (.int 0) (.idx (.var 3) (.int 0)) (.idx (.var 3) (.int 1))) (.cons (.chain .lt .lt (.int 0) (.idx (.var 4) (.int 0)) (.idx (.var 4) (.int 1))) .nil))))) .nil)))))))))
def b19 : Sz := (.cons (.expr (.call 14 (.cons (.var 0) (.cons (.var 1) .nil)))) (.cons (.ite (.cmp .eq (.var 1) (.int 0)) (.cons .never .nil) .nil) (.cons (.ret (.tup (.cons (.tup (.cons (.tup (.cons (.neg (.int 1)) (.cons (.int 1) .nil))) (.cons (.tup (.cons (.int 1) (.cons (.int 1) .nil))) .nil))) (.cons (.call 15 (.cons (.var 0) (.cons (.var 1) .nil))) .nil)))) .nil)))
def b20 : Sz := (.cons (.ret (.call 21 (.cons (.bin .add (.bin .mul (.idx (.var 0) (.int 0)) (.idx (.var 1) (.int 1))) (.bin .mul (.idx (.var 1) (.int 0)) (.idx (.var 0) (.int 1)))) (.cons (.bin .mul (.idx (.var 0) (.int 1)) (.idx (.var 1) (.int 1))) .nil)))) .nil)
def b21 : Sz := (.cons (.set 2 (.call 22 (.cons (.var 0) (.cons (.var 1) .nil)))) (.cons (.ret (.ife (.cmp .gt (.var 1) (.int 0)) (.tup (.cons (.bin .fdiv (.var 0) (.var 2)) (.cons (.bin .fdiv (.var 1) (.var 2)) .nil))) (.tup (.cons (.bin .fdiv (.neg (.var 0)) (.var 2)) (.cons (.bin .fdiv (.neg (.var 1)) (.var 2)) .nil))))) .nil))
def b22 : Sz := (.cons (.par [0, 1] (.tup (.cons (.bf .abs (.cons (.var 0) .nil)) (.cons (.bf .abs (.cons (.var 1) .nil)) .nil)))) (.cons (.for (.nm 2) (.range1 (.int 700)) (.cons (.ite (.cmp .eq (.var 1) (.int 0)) (.cons (.ret (.var 0)) .nil) .nil) (.cons (.par [0, 1] (.tup (.cons (.var 1) (.cons (.bin .mod (.bf .int (.cons (.var 0) .nil)) (.var 1)) .nil)))) .nil))) (.cons (.ret (.var 0)) .nil)))
def b23 : Sz := (.cons (.ite (.bool .Or (.cons (.cmp .eq (.var 0) (.int 0)) (.cons (.cmp .ge (.var 1) (.var 0)) .nil))) (.cons (.ret (.tup (.cons (.int 0) (.cons (.int 1) .nil)))) .nil) .nil) (.cons (.ret (.call 21 (.cons (.idx (.call 24 (.cons (.bin .sub (.var 0) (.int 1)) .nil)) (.var 1)) (.cons (.bf .sum (.cons (.slc (.call 24 (.cons (.var 0) .nil)) .nil (.bin .add (.var 1) (.int 1))) .nil)) .nil)))) .nil))
def b24 : Sz := (.cons (.set 1 (.lst (.cons (.int 1) .nil))) (.cons (.for (.nm 2) (.range1 (.var 0)) (.cons (.set 1 (.bin .add (.bin .add (.lst (.cons (.int 1) .nil)) (.lc (.tp (.cons (.nm 3) (.cons (.nm 4) .nil))) (.zip (.var 1) (.slc (.var 1) (.int 1) .nil)) .nil (.bin .add (.var 3) (.var 4)))) (.lst (.cons (.int 1) .nil)))) .nil)) (.cons (.ret (.var 1)) .nil)))
def b25 : Sz := (.cons (.ret (.call 21 (.cons (.bin .mul (.idx (.var 0) (.int 0)) (.idx (.var 1) (.int 0))) (.cons (.bin .mul (.idx (.var 0) (.int 1)) (.idx (.var 1) (.int 1))) .nil)))) .nil)
def b26 : Sz := (.cons (.ret (.call 21 (.cons (.bin .sub (.bin .mul (.idx (.var 0) (.int 0)) (.idx (.var 1) (.int 1))) (.bin .mul (.idx (.var 1) (.int 0)) (.idx (.var 0) (.int 1)))) (.cons (.bin .mul (.idx (.var 0) (.int 1)) (.idx (.var 1) (.int 1))) .nil)))) .nil)
def b27 : Sz := (.cons (.ret (.bin .sub (.bin .mul (.idx (.var 0) (.int 0)) (.idx (.var 1) (.int 1))) (.bin .mul (.idx (.var 1) (.int 0)) (.idx (.var 0) (.int 1))))) .nil)
def b28 : Sz := (.cons (.set 1 (.call 26 (.cons (.tup (.cons (.int 1) (.cons (.int 1) .nil))) (.cons (.call 23 (.cons (.bin .sub (.var 0) (.int 1)) (.cons (.int 1) .nil))) .nil)))) (.cons (.set 2 (.call 20 (.cons (.tup (.cons (.int 2) (.cons (.int 1) .nil))) (.cons (.var 1) .nil)))) (.cons (.ret (.call 21 (.cons (.bin .mul (.idx (.var 1) (.int 0)) (.idx (.var 2) (.int 1))) (.cons (.bin .mul (.idx (.var 1) (.int 1)) (.idx (.var 2) (.int 0))) .nil)))) .nil)))
def b29 : Sz := (.cons (.set 1 (.call 26 (.cons (.tup (.cons (.int 1) (.cons (.int 1) .nil))) (.cons (.call 23 (.cons (.bin .sub (.var 0) (.int 1)) (.cons (.int 1) .nil))) .nil)))) (.cons (.set 2 (.call 20 (.cons (.tup (.cons (.int 2) (.cons (.int 1) .nil))) (.cons (.var 1) .nil)))) (.cons (.ret (.call 21 (.cons (.bin .mul (.idx (.var 1) (.int 0)) (.idx (.var 2) (.int 1))) (.cons (.bin .mul (.idx (.var 1) (.int 1)) (.idx (.var 2) (.int 0))) .nil)))) .nil)))
def b30 : Sz := (.cons (.set 0 (.lst (.cons (.call 6 (.cons (.int 2) (.cons (.int 1) .nil))) (.cons (.call 6 (.cons (.int 3) (.cons (.int 1) .nil))) (.cons (.call 6 (.cons (.int 3) (.cons (.int 2) .nil))) (.cons (.call 6 (.cons (.int 5) (.cons (.int 0) .nil))) (.cons (.call 6 (.cons (.int 4) (.cons (.int 4) .nil))) (.cons (.call 6 (.cons (.int 0) (.cons (.int 0) .nil))) (.cons (.call 17 (.cons (.int 2) (.cons (.int 1) .nil))) (.cons (.call 13 (.cons (.int 2) (.cons (.int 1) .nil))) (.cons (.call 19 (.cons (.int 3) (.cons (.int 2) .nil))) (.cons (.call 13 (.cons (.int 3) (.cons (.int 0) .nil))) .nil)))))))))))) (.cons (.set 0 (.bin .add (.var 0) (.lst (.cons (.call 6 (.cons (.int 1) (.cons (.int 0) .nil))) (.cons (.call 6 (.cons (.int 1) (.cons (.int 1) .nil))) (.cons (.call 17 (.cons (.int 1) (.cons (.int 1) .nil))) (.cons (.call 19 (.cons (.int 1) (.cons (.int 1) .nil))) (.cons (.call 6 (.cons (.int 4) (.cons (.int 2) .nil))) (.cons (.call 17 (.cons (.int 3) (.cons (.int 2) .nil))) (.cons (.call 13 (.cons (.int 3) (.cons (.int 2) .nil))) (.cons (.call 19 (.cons (.int 2) (.cons (.int 2) .nil))) .nil))))))))))) (.cons (.set 1 (.lst (.cons (.tup (.cons (.int 1) (.cons (.int 3) .nil))) (.cons (.tup (.cons (.int 1) (.cons (.int 2) .nil))) (.cons (.tup (.cons (.int 1) (.cons (.int 7) .nil))) (.cons (.tup (.cons (.int 1) (.cons (.int 1) .nil))) (.cons (.tup (.cons (.int 0) (.cons (.int 1) .nil))) (.cons (.tup (.cons (.int 0) (.cons (.int 1) .nil))) (.cons (.tup (.cons (.int 1) (.cons (.int 3) .nil))) (.cons (.tup (.cons (.int 1) (.cons (.int 3) .nil))) (.cons (.tup (.cons (.tup (.cons (.tup (.cons (.neg (.int 1)) (.cons (.int 1) .nil))) (.cons (.tup (.cons (.int 1) (.cons (.int 1) .nil))) .nil))) (.cons (.tup (.cons (.tup (.cons (.int 1) (.cons (.int 3) .nil))) (.cons (.tup (.cons (.int 0) (.cons (.int 1) .nil))) .nil))) .nil))) (.cons (.tup (.cons (.int 0) (.cons (.int 1) .nil))) .nil)))))))))))) (.cons (.set 1 (.bin .add (.var 1) (.lst (.cons (.tup (.cons (.int 1) (.cons (.int 1) .nil))) (.cons (.tup (.cons (.int 0) (.cons (.int 1) .nil))) (.cons (.tup (.cons (.int 0) (.cons (.int 1) .nil))) (.cons (.tup (.cons (.tup (.cons (.tup (.cons (.neg (.int 1)) (.cons (.int 1) .nil))) (.cons (.tup (.cons (.int 1) (.cons (.int 1) .nil))) .nil))) (.cons (.tup (.cons (.tup (.cons (.int 0) (.cons (.int 1) .nil))) (.cons (.tup (.cons (.int 0) (.cons (.int 1) .nil))) .nil))) .nil))) (.cons (.tup (.cons (.int 3) (.cons (.int 11) .nil))) (.cons (.tup (.cons (.int 1) (.cons (.int 7) .nil))) (.cons (.tup (.cons (.int 3) (.cons (.int 7) .nil))) (.cons (.tup (.cons (.tup (.cons (.tup (.cons (.neg (.int 1)) (.cons (.int 1) .nil))) (.cons (.tup (.cons (.int 1) (.cons (.int 1) .nil))) .nil))) (.cons (.tup (.cons (.tup (.cons (.int 0) (.cons (.int 1) .nil))) (.cons (.tup (.cons (.int 0) (.cons (.int 1) .nil))) .nil))) .nil))) .nil))))))))))) (.cons (.ret (.call 4 (.cons (.var 0) (.cons (.var 1) .nil)))) .nil)))))
def d0 : Dr := ⟨"law", top 40, ["script", "cup", "days", "looks"], ["script"], b0⟩
def d1 : Dr := ⟨"_law_cup", top 23, ["script", "cell"], ["script"], b1⟩
def d2 : Dr := ⟨"_law_roll", top 24, ["cup", "many", "found", "deep"], ["cup", "many"], b2⟩
def d3 : Dr := ⟨"_law_great_right", top 36, ["cup", "told", "due", "days", "looks", "one", "more", "later"], ["cup"], b3⟩
def d4 : Dr := ⟨"_law_like", top 26, ["one", "other", "sort", "first", "second"], ["one", "other"], b4⟩
def d5 : Dr := ⟨"_law_sort", top 25, ["value"], ["value"], b5⟩
def d6 : Dr := ⟨"deed_value", top 17, ["days", "looks"], ["days", "looks"], b6⟩
def d7 : Dr := ⟨"need_days", top 13, ["days", "looks"], ["days", "looks"], b7⟩
def d8 : Dr := ⟨"need_whole", top 7, ["value", "low", "high"], ["value", "low", "high"], b8⟩
def d9 : Dr := ⟨"is_whole", top 6, ["value", "low", "high"], ["value", "low", "high"], b9⟩
def d10 : Dr := ⟨"value_in", top 15, ["days", "looks", "size"], ["days", "looks"], b10⟩
def d11 : Dr := ⟨"shortened", top 9, ["top", "bottom", "shared"], ["top", "bottom"], b11⟩
def d12 : Dr := ⟨"sets_of", top 14, ["many", "size", "found", "at"], ["many", "size"], b12⟩
def d13 : Dr := ⟨"look_today", top 20, ["days", "looks", "one", "other", "whole", "loss"], ["days", "looks"], b13⟩
def d14 : Dr := ⟨"need_today", top 18, ["days", "looks"], ["days", "looks"], b14⟩
def d15 : Dr := ⟨"waits_in", top 16, ["days", "looks"], ["days", "looks"], b15⟩
def d16 : Dr := ⟨"plus", top 10, ["one", "other"], ["one", "other"], b16⟩
def d17 : Dr := ⟨"deed_today", top 19, ["days", "looks", "one", "other", "gain", "whole"], ["days", "looks"], b17⟩
def d18 : Dr := ⟨"_law_day_right", top 35, ["days", "looks", "value", "deed", "look", "table", "due", "at", "got", "gave"], ["days", "looks"], b18⟩
def d19 : Dr := ⟨"deed_table", top 21, ["days", "looks"], ["days", "looks"], b19⟩
def d20 : Dr := ⟨"_law_plus", top 34, ["one", "other"], ["one", "other"], b20⟩
def d21 : Dr := ⟨"_law_part", top 28, ["top", "bottom", "shared"], ["top", "bottom"], b21⟩
def d22 : Dr := ⟨"_law_gcd", top 27, ["one", "other", "turn"], ["one", "other"], b22⟩
def d23 : Dr := ⟨"_law_value", top 31, ["days", "looks"], ["days", "looks"], b23⟩
def d24 : Dr := ⟨"_law_sets", top 30, ["days", "row", "day", "one", "other"], ["days"], b24⟩
def d25 : Dr := ⟨"_law_times", top 33, ["one", "other"], ["one", "other"], b25⟩
def d26 : Dr := ⟨"_law_less", top 32, ["one", "other"], ["one", "other"], b26⟩
def d27 : Dr := ⟨"_law_gap", top 29, ["one", "other"], ["one", "other"], b27⟩
def d28 : Dr := ⟨"_law_today", top 37, ["days", "gain", "whole"], ["days"], b28⟩
def d29 : Dr := ⟨"_law_look", top 38, ["days", "loss", "whole"], ["days"], b29⟩
def d30 : Dr := ⟨"_law_written_right", top 39, ["told", "due"], [], b30⟩
def ds : List Dr := [d0, d1, d2, d3, d4, d5, d6, d7, d8, d9, d10, d11, d12, d13, d14, d15, d16, d17, d18, d19, d20, d21, d22, d23, d24, d25, d26, d27, d28, d29, d30]
def ks : List (Str × Kon) := [("DAYS", .int 60)]
def gc : Bool := true
theorem tok : TabOk ds (ks.map (·.1)) gc 1 2 where
  ck := by
    have h : (ds.all fun d => ckDr (fnsOf ds) (ks.map (·.1)) gc d) = true := by decide +kernel
    exact List.all_eq_true.mp h
  cup := fun d h => by
    cases h
    exact ⟨rfl, rfl, rfl⟩
  roll := fun d h => by
    cases h
    exact ⟨rfl, rfl, rfl⟩
  ne := by decide
theorem bnd : ∀ d ∈ ds, bindsB d := by
  intro d hd
  simp only [ds, List.mem_cons, List.not_mem_nil, or_false] at hd
  rcases hd with rfl | rfl | rfl | rfl | rfl | rfl | rfl | rfl | rfl | rfl | rfl | rfl | rfl | rfl | rfl | rfl | rfl | rfl | rfl | rfl | rfl | rfl | rfl | rfl | rfl | rfl | rfl | rfl | rfl | rfl | rfl
  · exact fun _ _ _ _ _ _ us hl => match us, hl with | [_], _ => rfl
  · exact fun _ _ _ _ _ _ us hl => match us, hl with | [_], _ => rfl
  · exact fun _ _ _ _ _ _ us hl => match us, hl with | [_, _], _ => rfl
  · exact fun _ _ _ _ _ _ us hl => match us, hl with | [_], _ => rfl
  · exact fun _ _ _ _ _ _ us hl => match us, hl with | [_, _], _ => rfl
  · exact fun _ _ _ _ _ _ us hl => match us, hl with | [_], _ => rfl
  · exact fun _ _ _ _ _ _ us hl => match us, hl with | [_, _], _ => rfl
  · exact fun _ _ _ _ _ _ us hl => match us, hl with | [_, _], _ => rfl
  · exact fun _ _ _ _ _ _ us hl => match us, hl with | [_, _, _], _ => rfl
  · exact fun _ _ _ _ _ _ us hl => match us, hl with | [_, _, _], _ => rfl
  · exact fun _ _ _ _ _ _ us hl => match us, hl with | [_, _], _ => rfl
  · exact fun _ _ _ _ _ _ us hl => match us, hl with | [_, _], _ => rfl
  · exact fun _ _ _ _ _ _ us hl => match us, hl with | [_, _], _ => rfl
  · exact fun _ _ _ _ _ _ us hl => match us, hl with | [_, _], _ => rfl
  · exact fun _ _ _ _ _ _ us hl => match us, hl with | [_, _], _ => rfl
  · exact fun _ _ _ _ _ _ us hl => match us, hl with | [_, _], _ => rfl
  · exact fun _ _ _ _ _ _ us hl => match us, hl with | [_, _], _ => rfl
  · exact fun _ _ _ _ _ _ us hl => match us, hl with | [_, _], _ => rfl
  · exact fun _ _ _ _ _ _ us hl => match us, hl with | [_, _], _ => rfl
  · exact fun _ _ _ _ _ _ us hl => match us, hl with | [_, _], _ => rfl
  · exact fun _ _ _ _ _ _ us hl => match us, hl with | [_, _], _ => rfl
  · exact fun _ _ _ _ _ _ us hl => match us, hl with | [_, _], _ => rfl
  · exact fun _ _ _ _ _ _ us hl => match us, hl with | [_, _], _ => rfl
  · exact fun _ _ _ _ _ _ us hl => match us, hl with | [_, _], _ => rfl
  · exact fun _ _ _ _ _ _ us hl => match us, hl with | [_], _ => rfl
  · exact fun _ _ _ _ _ _ us hl => match us, hl with | [_, _], _ => rfl
  · exact fun _ _ _ _ _ _ us hl => match us, hl with | [_, _], _ => rfl
  · exact fun _ _ _ _ _ _ us hl => match us, hl with | [_, _], _ => rfl
  · exact fun _ _ _ _ _ _ us hl => match us, hl with | [_], _ => rfl
  · exact fun _ _ _ _ _ _ us hl => match us, hl with | [_], _ => rfl
  · exact fun _ _ _ _ _ _ us hl => match us, hl with | [], _ => rfl
abbrev R : PySem.W.OpenRow := PySem.W.OpenLaw.row PySem.Challenge.rw_gamesweighed_k54_whole_inspections
abbrev hk : PySem.W.Hook := hkOf 4 ds ks gc
def obs (s : PySem.W.SharedT) : He.AlX := He.obsX 4 (faOf ds ks) (ds.map dfdOf) [] [] (exOf gc) (HandSHeadRun.getT s)
theorem obs_eq (s : PySem.W.SharedT) : obs s = hk.obs s.abs := He.obsX_eq (HandSHeadRun.getT_eq s)
def loose : List Str := (["is_whole", "need_whole", "shortened", "plus", "need_days", "sets_of", "value_in", "waits_in", "deed_value", "need_today", "deed_today", "look_today", "deed_table", "_law_cup", "_law_roll", "_law_sort", "_law_like", "_law_gcd", "_law_part", "_law_gap", "_law_sets", "_law_value", "_law_less", "_law_times", "_law_plus", "_law_day_right", "_law_great_right", "_law_today", "_law_look", "_law_written_right"] : List Str) ++ (["GameError", "InvalidNumber", "NotFound", "DAYS"] : List Str)
theorem hrun (w : World) : HeadRun.RunEqI R (PySem.W.view R.prog [0, 40]) hk obs 6000 loose w := by
  unfold HeadRun.RunEqI
  kernel_rfl
end Row
namespace Row
open PySem DL
abbrev F (n : Nat) : Nat → List D → M D := tabF (kcOf ks) ds 1 2 n
abbrev P (p : Int × Int) : D := .tup [.int p.1, .int p.2]
theorem is_whole (n : Nat) (v lo hi : Int) : F (n + 1) 9 [.int v, .int lo, .int hi] = M.pure (.bl (decide (lo ≤ v ∧ v ≤ hi))) := by
  unfold F
  rw [call_at (d := d9) rfl rfl _ rfl, run_eq]
  simp -implicitDefEqProofs [d9, b9, evS, DL.get, chain_b]
  by_cases h : lo ≤ v <;> simp -implicitDefEqProofs [h]
theorem need_whole (n : Nat) (v lo hi : Int) (h : lo ≤ v ∧ v ≤ hi) : F (n + 2) 8 [.int v, .int lo, .int hi] = M.pure .non := by
  unfold F
  rw [call_at (d := d8) rfl rfl _ rfl, run_eq]
  have e := is_whole n v lo hi
  unfold F at e
  simp -implicitDefEqProofs [d8, b8, evS, DL.get, e, h]
theorem need_days (n : Nat) (d l : Int) (h : 0 ≤ d ∧ d ≤ 60) (h2 : 0 ≤ l ∧ l ≤ d) : F (n + 3) 7 [.int d, .int l] = M.pure .non := by
  unfold F
  rw [call_at (d := d7) rfl rfl _ rfl, run_eq]
  have e := need_whole n d 0 60 h
  have e2 := need_whole n l 0 d h2
  unfold F at e e2
  have hk : kcOf ks 0 = .int 60 := rfl
  simp -implicitDefEqProofs [d7, b7, evS, DL.get, hk, e, e2]
theorem need_today (n : Nat) (d l : Int) (h : 1 ≤ d ∧ d ≤ 60) (h2 : 0 ≤ l ∧ l ≤ d) : F (n + 4) 14 [.int d, .int l] = M.pure .non := by
  unfold F
  rw [call_at (d := d14) rfl rfl _ rfl, run_eq]
  have e := need_days n d l ⟨by omega, h.2⟩ h2
  have e2 := need_whole (n + 1) d 1 60 h
  unfold F at e e2
  have hk : kcOf ks 0 = .int 60 := rfl
  simp -implicitDefEqProofs [d14, b14, evS, DL.get, hk, e, e2]
/-! ### fractions -/
def gc' (t b : Int) : Int := ((Nat.gcd t.natAbs b.natAbs : Nat) : Int)
def nShort (t b : Int) : Option (Int × Int) := if 0 < b ∧ (Nat.gcd t.natAbs b.natAbs).log2 < 9000 then some (t.fdiv (gc' t b), b.fdiv (gc' t b)) else none
theorem e0 (t b : Int) : bfop .gcd [.int t, .int b] = M.pure (.int (gc' t b)) := bf_gcd
theorem short0 (n : Nat) (t b g : Int) (hc : 0 < b) (e0 : bfop .gcd [.int t, .int b] = M.pure (.int g)) (e1 : binop .mul (.int g) (.int 1) = M.pure (.int g)) (e2 : ∀ i : Int, binop .fdiv (.int i) (.int g) = M.pure (.int (i.fdiv g))) :
   F (n + 1) 11 [.int t, .int b] = M.pure (P (t.fdiv g, b.fdiv g)) := by
  unfold F
  rw [call_at (d := d11) rfl rfl _ rfl, run_eq]
  simp -implicitDefEqProofs [-bf_gcd, d11, b11, evS, DL.get, setE, hc, e0, e1, e2]
theorem short (n : Nat) (t b : Int) {p : Int × Int} (h : nShort t b = some p) : F (n + 1) 11 [.int t, .int b] = M.pure (P p) := by
  unfold nShort at h
  split at h
  case isFalse => cases h
  rename_i c
  cases h
  have g0 : 0 < gc' t b := by
    unfold gc'
    have : 0 < Nat.gcd t.natAbs b.natAbs := Nat.gcd_pos_of_pos_right _ (by omega)
    omega
  refine short0 n t b (gc' t b) c.1 (e0 t b) (by rw [bin_mulR (by decide), Int.mul_one]) fun i => bin_fdiv g0 (by
    have q : (gc' t b).natAbs = Nat.gcd t.natAbs b.natAbs := by
      unfold gc'
      exact Int.natAbs_natCast _
    rw [q]
    exact c.2)
def nMul (i j : Int) : Option Int := if i.natAbs.log2 + j.natAbs.log2 < 1000000 then some (i * j) else none
theorem mul_ok {i j k : Int} (h : nMul i j = some k) : binop .mul (.int i) (.int j) = M.pure (.int k) := by
  unfold nMul at h
  split at h
  case isFalse => cases h
  rename_i c
  cases h
  show (if _ then M.pure (D.int (i * j)) else if i.natAbs.log2 + j.natAbs.log2 < 1000000 then M.pure (D.int (i * j)) else M.bad) = _
  rw [if_pos c]
  exact ite_self _
def nPlus (p q : Int × Int) : Option (Int × Int) := do
  let a ← nMul p.1 q.2
  let b ← nMul q.1 p.2
  let c ← nMul p.2 q.2
  nShort (a + b) c
theorem plus (n : Nat) {p q r : Int × Int} (h : nPlus p q = some r) : F (n + 2) 16 [P p, P q] = M.pure (P r) := by
  unfold nPlus at h
  simp only [Option.bind_eq_bind, Option.bind_eq_some_iff] at h
  obtain ⟨a, ha, b, hb, c, hc, h⟩ := h
  unfold F
  rw [call_at (d := d16) rfl rfl _ rfl, run_eq]
  have e := short n _ _ h
  unfold F at e
  simp -implicitDefEqProofs [d16, b16, evS, DL.get, mul_ok ha, mul_ok hb, mul_ok hc, e, P]
end Row
namespace Row
open PySem DL
def nSets (m : Int) : Nat → Int
  | 0 => 1
  | s + 1 => (nSets m s * (m - s)).fdiv (s + 1)
def gS (m : Int) (st : Int × Option D) (d : D) : Int × Option D := match d with
  | .int i => ((st.1 * (m - i)).fdiv (i + 1), some (.int i))
  | _ => st
theorem gS_fold (m : Int) : ∀ s : Nat, ∀ x, (((List.range s).map fun (i : Nat) => D.int (i : Int)).foldl (gS m) (1, x)).1 = nSets m s
  | 0, x => rfl
  | s + 1, x => by
    rw [List.range_succ, List.map_append, List.foldl_append]
    show ((_ : Int) * (m - s)).fdiv (s + 1) = _
    rw [gS_fold m s x]
    rfl
def lb12 : Sz := .cons (.set 2 (.bin .fdiv (.bin .mul (.var 2) (.bin .sub (.var 0) (.var 3))) (.bin .add (.var 3) (.int 1)))) .nil
theorem eb12 : d12.body = .cons (.set 2 (.int 1)) (.cons (.for (.nm 3) (.range1 (.var 1)) lb12) (.cons (.ret (.var 2)) .nil)) := rfl
theorem loop12 (C : Nat → List D → M D) (K : Nat → D) (m : Int) (s : Nat) (hm : -100 ≤ m ∧ m ≤ 100) (hs : s ≤ 100) : forGo (.nm 3) (evS C K lb12) ((List.range s).map fun (i : Nat) => D.int (i : Int)) [some (.int m), some (.int (s : Int)), some (.int 1), none] =
    M.pure (.nx [some (.int m), some (.int (s : Int)), some (.int (nSets m s)), (((List.range s).map fun (i : Nat) => D.int (i : Int)).foldl (gS m) (1, none)).2]) := by
  have hl := forGo_fold (tg := .nm 3) (b := evS C K lb12) (emb := fun (st : Int × Option D) => [some (.int m), some (.int (s : Int)), some (.int st.1), st.2]) (g := gS m) ((List.range s).map fun (i : Nat) => D.int (i : Int)) (1, none) (fun st d hd => by
    obtain ⟨i, hi, rfl⟩ := mem_rng hd
    have e1 : binop .mul (.int st.1) (.int (m - i)) = M.pure (.int (st.1 * (m - i))) := bin_mulR (by omega)
    have e2 : ∀ j : Int, binop .fdiv (.int j) (.int ((i : Int) + 1)) = M.pure (.int (j.fdiv (i + 1))) := fun j => bin_fdivS (by omega)
    simp -implicitDefEqProofs [bindT, evS, DL.get, setE, e1, e2, gS, lb12])
  rw [gS_fold] at hl
  exact hl
theorem sets_of (n : Nat) (m : Int) (s : Nat) (hm : -100 ≤ m ∧ m ≤ 100) (hs : s ≤ 100) : F (n + 1) 12 [.int m, .int (s : Int)] = M.pure (.int (nSets m s)) := by
  unfold F
  rw [call_at (d := d12) rfl rfl _ rfl, run_eq, eb12]
  have hr : rng1 (.int (s : Int)) = M.pure ((List.range s).map fun (i : Nat) => D.int (i : Int)) := by
    rw [rng1_ok (by omega), Int.toNat_natCast]
  have hl := loop12 (tabF (kcOf ks) ds 1 2 n) (kcOf ks) m s hm hs
  simp -implicitDefEqProofs [d12, evS, DL.get, setE, hr, hl]
end Row
namespace Row
open PySem DL
def nSum (d : Int) (l : Nat) : Int := ((List.range (l + 1)).map (nSets d)).sum
def nValue (d : Int) (l : Nat) : Option (Int × Int) := if (l : Int) ≥ d then some (0, 1) else nShort (nSets (d - 1) l) (nSum d l)
theorem value_in (n : Nat) (d : Int) (l : Nat) (hd : -50 ≤ d ∧ d ≤ 90) (hl : l ≤ 90) {p : Int × Int} (h : nValue d l = some p) : F (n + 2) 10 [.int d, .int (l : Int)] = M.pure (P p) := by
  unfold nValue at h
  unfold F
  rw [call_at (d := d10) rfl rfl _ rfl, run_eq]
  by_cases c : (l : Int) ≥ d
  · rw [if_pos c] at h
    cases h
    simp -implicitDefEqProofs [d10, b10, evS, DL.get, c, P]
  · rw [if_neg c] at h
    have e1 := sets_of n (d - 1) l (by omega) (by omega)
    have e2 := short n _ _ h
    unfold F at e1 e2
    have hr : rng1 (.int ((l : Int) + 1)) = M.pure ((List.range (l + 1)).map fun (i : Nat) => D.int (i : Int)) := by
      rw [rng1_ok (by omega)]
      congr 3
    have hg := lcGo_map (f := lcTurn (.nm 2) (ev (tabF (kcOf ks) ds 1 2 (n + 1)) (kcOf ks) .nil).t (ev (tabF (kcOf ks) ds 1 2 (n + 1)) (kcOf ks) (.call 12 (.cons (.var 0) (.cons (.var 2) .nil)))).e [some (.int d), some (.int (l : Int)), none])
      (g := fun x => match x with
        | .int i => some (.int (nSets d i.toNat))
        | _ => none) ((List.range (l + 1)).map fun (i : Nat) => D.int (i : Int)) (fun x hx => by
        obtain ⟨i, hi, rfl⟩ := mem_rng hx
        have e3 := sets_of n d i (by omega) (by omega)
        unfold F at e3
        simp -implicitDefEqProofs [lcTurn, wipeE, Tz.slots, bindT, DL.get, e3])
    have hm : ((List.range (l + 1)).map fun (i : Nat) => D.int (i : Int)).filterMap (fun x => match x with
        | .int i => some (D.int (nSets d i.toNat))
        | _ => none) = ((List.range (l + 1)).map (nSets d)).map D.int := by
      rw [List.filterMap_map, List.map_map]
      rw [show ((fun x => match x with
        | .int i => some (D.int (nSets d i.toNat))
        | _ => none) ∘ fun (i : Nat) => D.int (i : Int)) = fun i : Nat => some (D.int (nSets d i)) from by
          funext i
          simp]
      simp
    rw [hm] at hg
    have hlen : lenOk ((List.range (l + 1)).map fun (i : Nat) => D.int (i : Int)) = M.pure ((List.range (l + 1)).map fun (i : Nat) => D.int (i : Int)) := lenOk_le (by rw [List.length_map, List.length_range]; omega)
    have c' : ¬ d ≤ (l : Int) := c
    simp only [d10, b10]
    simp -implicitDefEqProofs [-List.map_map, evS, DL.get, c', hr, hlen, e1]
    rw [hg]
    simp -implicitDefEqProofs [-List.map_map]
    unfold nSum at e2
    rw [e2]
    simp
end Row
namespace Row
open PySem DL
theorem deed_value (n : Nat) (d : Int) (l : Nat) (hd : 0 ≤ d ∧ d ≤ 60) (hl : (l : Int) ≤ d) {p : Int × Int} (h : nValue d l = some p) : F (n + 4) 6 [.int d, .int (l : Int)] = M.pure (P p) := by
  unfold F
  rw [call_at (d := d6) rfl rfl _ rfl, run_eq]
  have e1 := need_days n d l hd (by omega)
  have e2 := value_in (n + 1) d l (by omega) (by omega) h
  unfold F at e1 e2
  simp -implicitDefEqProofs [d6, b6, evS, DL.get, e1, e2]
theorem waits_in (n : Nat) (d : Int) (l : Nat) (hd : 1 ≤ d ∧ d ≤ 60) (hl : (l : Int) ≤ d) (h1 : 1 ≤ l) {p q : Int × Int} (hp : nValue (d - 1) (l - 1) = some p) (hq : nValue (d - 1) l = some q) : F (n + 3) 15 [.int d, .int (l : Int)] = M.pure (.tup [P p, P q]) := by
  unfold F
  rw [call_at (d := d15) rfl rfl _ rfl, run_eq]
  have e1 := value_in n (d - 1) (l - 1) (by omega) (by omega) hp
  have e2 := value_in n (d - 1) l (by omega) (by omega) hq
  have ec : ((l - 1 : Nat) : Int) = (l : Int) - 1 := by omega
  rw [ec] at e1
  unfold F at e1 e2
  simp -implicitDefEqProofs [d15, b15, evS, DL.get, e1, e2]
def ng (p : Int × Int) : Int × Int := (-p.1, p.2)
def nDeed (d : Int) (l : Nat) : Option (Int × Int) := if l = 0 then some (1, 1) else if (l : Int) = d then some (0, 1) else do
  let one ← nValue (d - 1) (l - 1)
  let other ← nValue (d - 1) l
  let gain ← nPlus one (ng other)
  let whole ← nPlus (2, 1) gain
  let a ← nMul gain.1 whole.2
  let b ← nMul gain.2 whole.1
  nShort a b
def nLook (d : Int) (l : Nat) : Option (Int × Int) := if l = 0 then some (0, 1) else if (l : Int) = d then some (1, 1) else do
  let one ← nValue (d - 1) (l - 1)
  let other ← nValue (d - 1) l
  let dif ← nPlus one (ng other)
  let whole ← nPlus (2, 1) dif
  let loss ← nPlus (1, 1) (ng other)
  let a ← nMul loss.1 whole.2
  let b ← nMul loss.2 whole.1
  nShort a b
theorem deed_today (n : Nat) (d : Int) (l : Nat) (hd : 1 ≤ d ∧ d ≤ 60) (hl : (l : Int) ≤ d) {p : Int × Int} (h : nDeed d l = some p) : F (n + 5) 17 [.int d, .int (l : Int)] = M.pure (P p) := by
  unfold F
  rw [call_at (d := d17) rfl rfl _ rfl, run_eq]
  have e1 := need_today n d l hd (by omega)
  unfold F at e1
  unfold nDeed at h
  split at h
  · rename_i c
    subst c
    cases h
    simp -implicitDefEqProofs [d17, b17, evS, DL.get, e1, mem2, P] at e1 ⊢
    simp -implicitDefEqProofs [e1]
  · rename_i c
    have c' : ¬ (0 : Int) = (l : Int) := by omega
    have c'' : ¬ l = 0 := c
    split at h
    · rename_i c2
      cases h
      subst c2
      simp -implicitDefEqProofs [d17, b17, evS, DL.get, e1, mem2, P, c', c'']
    · rename_i c2
      have c2' : ¬ d = (l : Int) := fun q => c2 q.symm
      simp only [Option.bind_eq_bind, Option.bind_eq_some_iff] at h
      obtain ⟨one, h1, other, h2, gain, h3, whole, h4, a, h5, b, h6, h⟩ := h
      have e2 := waits_in (n + 1) d l hd hl (by omega) h1 h2
      have e3 := plus (n + 2) h3
      have e4 := plus (n + 2) h4
      have e5 := short (n + 3) _ _ h
      unfold F at e2 e3 e4 e5
      simp only [P, ng] at e2 e3 e4
      simp -implicitDefEqProofs [d17, b17, evS, DL.get, setE, bindT, bindTs, e1, mem2, c', c'', c2', e2, e3, e4, e5, mul_ok h5, mul_ok h6]
theorem look_today (n : Nat) (d : Int) (l : Nat) (hd : 1 ≤ d ∧ d ≤ 60) (hl : (l : Int) ≤ d) {p : Int × Int} (h : nLook d l = some p) : F (n + 5) 13 [.int d, .int (l : Int)] = M.pure (P p) := by
  unfold F
  rw [call_at (d := d13) rfl rfl _ rfl, run_eq]
  have e1 := need_today n d l hd (by omega)
  unfold F at e1
  unfold nLook at h
  split at h
  · rename_i c
    subst c
    cases h
    simp -implicitDefEqProofs [d13, b13, evS, DL.get, e1, mem2, P] at e1 ⊢
    simp -implicitDefEqProofs [e1]
  · rename_i c
    have c' : ¬ (0 : Int) = (l : Int) := by omega
    have c'' : ¬ l = 0 := c
    split at h
    · rename_i c2
      cases h
      subst c2
      simp -implicitDefEqProofs [d13, b13, evS, DL.get, e1, mem2, P, c', c'']
    · rename_i c2
      have c2' : ¬ d = (l : Int) := fun q => c2 q.symm
      simp only [Option.bind_eq_bind, Option.bind_eq_some_iff] at h
      obtain ⟨one, h1, other, h2, dif, h3, whole, h4, loss, h7, a, h5, b, h6, h⟩ := h
      have e2 := waits_in (n + 1) d l hd hl (by omega) h1 h2
      have e3 := plus (n + 2) h3
      have e4 := plus (n + 2) h4
      have e7 := plus (n + 2) h7
      have e5 := short (n + 3) _ _ h
      unfold F at e2 e3 e4 e5 e7
      simp only [P, ng] at e2 e3 e4 e7
      simp -implicitDefEqProofs [d13, b13, evS, DL.get, setE, bindT, bindTs, e1, mem2, c', c'', c2', e2, e3, e4, e7, e5, mul_ok h5, mul_ok h6]
theorem deed_table (n : Nat) (d : Int) (l : Nat) (hd : 1 ≤ d ∧ d ≤ 60) (hl : (l : Int) ≤ d) (h0 : 1 ≤ l) {p q : Int × Int} (hp : nValue (d - 1) (l - 1) = some p) (hq : nValue (d - 1) l = some q) :
    F (n + 5) 19 [.int d, .int (l : Int)] = M.pure (.tup [.tup [P (-1, 1), P (1, 1)], .tup [P p, P q]]) := by
  unfold F
  rw [call_at (d := d19) rfl rfl _ rfl, run_eq]
  have e1 := need_today n d l hd (by omega)
  have e2 := waits_in (n + 1) d l hd hl h0 hp hq
  unfold F at e1 e2
  have c'' : ¬ l = 0 := by omega
  simp -implicitDefEqProofs [d19, b19, evS, DL.get, e1, e2, c'', P]
end Row
namespace Row
open PySem DL
/-! ### the law's own -/
def nG : Nat → Int → Int → Option Int
  | 0, _, _ => none
  | k + 1, a, b => if b = 0 then some a else nG k b (a.fmod b)
def lb22 : Sz := (.cons (.ite (.cmp .eq (.var 1) (.int 0)) (.cons (.ret (.var 0)) .nil) .nil) (.cons (.par [0, 1] (.tup (.cons (.var 1) (.cons (.bin .mod (.bf .int (.cons (.var 0) .nil)) (.var 1)) .nil)))) .nil))
theorem eb22 : d22.body = (.cons (.par [0, 1] (.tup (.cons (.bf .abs (.cons (.var 0) .nil)) (.cons (.bf .abs (.cons (.var 1) .nil)) .nil)))) (.cons (.for (.nm 2) (.range1 (.int 700)) lb22) (.cons (.ret (.var 0)) .nil))) := rfl
theorem loop22 (C : Nat → List D → M D) (K : Nat → D) : ∀ (ds : List D) (a b : Int) (x : Option D) {g : Int}, nG ds.length a b = some g → forGo (.nm 2) (evS C K lb22) ds [some (.int a), some (.int b), x] = M.pure (.rt (.int g))
  | [], a, b, x, g, h => by cases h
  | d :: ds, a, b, x, g, h => by
    have h : (if b = 0 then some a else nG ds.length b (a.fmod b)) = some g := h
    show (M.bind (M.opt (bindT (.nm 2) d [some (.int a), some (.int b), x])) fun ρ' => M.bind (evS C K lb22 ρ') _) = _
    by_cases c : b = 0
    · rw [if_pos c] at h
      cases h
      subst c
      simp -implicitDefEqProofs [bindT, lb22, evS, DL.get]
    · rw [if_neg c] at h
      have ih := loop22 C K ds b (a.fmod b) (some d) h
      have e : binop .mod (.int a) (.int b) = M.pure (.int (a.fmod b)) := bin_mod c
      simp -implicitDefEqProofs [bindT, lb22, evS, DL.get, c, e, setPar, setAll]
      simp only [lb22] at ih
      simp -implicitDefEqProofs [evS, DL.get, c, e, setPar, setAll] at ih
      exact ih
def ab (i : Int) : Int := if i < 0 then -i else i
theorem law_gcd (n : Nat) (a b : Int) {g : Int} (h : nG 700 (ab a) (ab b) = some g) : F (n + 1) 22 [.int a, .int b] = M.pure (.int g) := by
  unfold F
  rw [call_at (d := d22) rfl rfl _ rfl, run_eq, eb22]
  have hr : rng1 (.int 700) = M.pure ((List.range 700).map fun (i : Nat) => D.int (i : Int)) := rng1_ok (by omega)
  have hl := loop22 (tabF (kcOf ks) ds 1 2 n) (kcOf ks) ((List.range 700).map fun (i : Nat) => D.int (i : Int)) (ab a) (ab b) none (g := g) (by rw [List.length_map, List.length_range]; exact h)
  unfold ab at hl
  have hb : ∀ i : Int, bfop .abs [.int i] = M.pure (.int (ab i)) := fun i => bf_abs
  have hN : d22.N.length = 3 := rfl
  rw [hN]
  generalize hL : (List.range 700).map (fun (i : Nat) => D.int (i : Int)) = L at hr hl
  simp -implicitDefEqProofs [evS, DL.get, setPar, setAll, hr, hl]
def nPart (t b : Int) : Option (Int × Int) := do
  let g ← nG 700 (ab t) (ab b)
  if 0 < b ∧ 0 < g ∧ g.natAbs.log2 < 9000 then some (t.fdiv g, b.fdiv g) else none
theorem part (n : Nat) {t b : Int} {p : Int × Int} (h : nPart t b = some p) : F (n + 2) 21 [.int t, .int b] = M.pure (P p) := by
  unfold nPart at h
  simp only [Option.bind_eq_bind, Option.bind_eq_some_iff] at h
  obtain ⟨g, hg, h⟩ := h
  split at h
  case isFalse => cases h
  rename_i c
  cases h
  unfold F
  rw [call_at (d := d21) rfl rfl _ rfl, run_eq]
  have e1 := law_gcd n t b hg
  unfold F at e1
  have e2 : ∀ i : Int, binop .fdiv (.int i) (.int g) = M.pure (.int (i.fdiv g)) := fun i => bin_fdiv c.2.1 c.2.2
  have c1 := c.1
  clear c hg
  simp -implicitDefEqProofs [d21, b21, evS, DL.get, setE, e1, e2, c1]
def nLess (p q : Int × Int) : Option (Int × Int) := do
  let a ← nMul p.1 q.2
  let b ← nMul q.1 p.2
  let c ← nMul p.2 q.2
  nPart (a - b) c
def nPlusL (p q : Int × Int) : Option (Int × Int) := do
  let a ← nMul p.1 q.2
  let b ← nMul q.1 p.2
  let c ← nMul p.2 q.2
  nPart (a + b) c
def nTimes (p q : Int × Int) : Option (Int × Int) := do
  let a ← nMul p.1 q.1
  let c ← nMul p.2 q.2
  nPart a c
theorem less (n : Nat) {p q r : Int × Int} (h : nLess p q = some r) : F (n + 3) 26 [P p, P q] = M.pure (P r) := by
  unfold nLess at h
  simp only [Option.bind_eq_bind, Option.bind_eq_some_iff] at h
  obtain ⟨a, ha, b, hb, c, hc, h⟩ := h
  unfold F
  rw [call_at (d := d26) rfl rfl _ rfl, run_eq]
  have e := part n h
  unfold F at e
  simp -implicitDefEqProofs [d26, b26, evS, DL.get, mul_ok ha, mul_ok hb, mul_ok hc, e, P]
theorem plusL (n : Nat) {p q r : Int × Int} (h : nPlusL p q = some r) : F (n + 3) 20 [P p, P q] = M.pure (P r) := by
  unfold nPlusL at h
  simp only [Option.bind_eq_bind, Option.bind_eq_some_iff] at h
  obtain ⟨a, ha, b, hb, c, hc, h⟩ := h
  unfold F
  rw [call_at (d := d20) rfl rfl _ rfl, run_eq]
  have e := part n h
  unfold F at e
  simp -implicitDefEqProofs [d20, b20, evS, DL.get, mul_ok ha, mul_ok hb, mul_ok hc, e, P]
theorem times (n : Nat) {p q r : Int × Int} (h : nTimes p q = some r) : F (n + 3) 25 [P p, P q] = M.pure (P r) := by
  unfold nTimes at h
  simp only [Option.bind_eq_bind, Option.bind_eq_some_iff] at h
  obtain ⟨a, ha, c, hc, h⟩ := h
  unfold F
  rw [call_at (d := d25) rfl rfl _ rfl, run_eq]
  have e := part n h
  unfold F at e
  simp -implicitDefEqProofs [d25, b25, evS, DL.get, mul_ok ha, mul_ok hc, e, P]
def nGap (p q : Int × Int) : Option Int := do
  let a ← nMul p.1 q.2
  let b ← nMul q.1 p.2
  some (a - b)
theorem gap (n : Nat) {p q : Int × Int} {r : Int} (h : nGap p q = some r) : F (n + 1) 27 [P p, P q] = M.pure (.int r) := by
  unfold nGap at h
  simp only [Option.bind_eq_bind, Option.bind_eq_some_iff] at h
  obtain ⟨a, ha, b, hb, h⟩ := h
  cases h
  unfold F
  rw [call_at (d := d27) rfl rfl _ rfl, run_eq]
  simp -implicitDefEqProofs [d27, b27, evS, DL.get, mul_ok ha, mul_ok hb, P]
end Row
namespace DL
open PySem
theorem addL {xs ys : List D} (h : xs.length + ys.length ≤ 8000) : binop .add (.lst xs) (.lst ys) = M.pure (.lst (xs ++ ys)) := by
  show M.bind (M.bind (seqL (.lst xs)) fun xs => M.bind (seqL (.lst ys)) fun ys => if xs.length + ys.length ≤ sizeLine then M.pure (xs ++ ys) else M.bad) (fun xs => M.pure (D.lst xs)) = _
  rw [seqL_lst, pb, seqL_lst, pb, if_pos (by rw [sizeLine_eq]; omega), pb]
theorem cut_tail (xs : List D) : cut xs (some 1) none = xs.tail := by
  unfold cut
  rw [HT.sIx_none, show HT.sIx xs.length 0 (some (1 : Int)) = min 1 xs.length from HT.sIx_nat _ _ 1]
  cases xs with
  | nil => rfl
  | cons a l =>
    have : min 1 (a :: l).length = 1 := by
      rw [List.length_cons]
      omega
    rw [this]
    show (l.take ((a :: l).length - 1)) = l
    rw [List.length_cons, Nat.add_sub_cancel, List.take_length]
theorem cut_take (xs : List D) (k : Nat) : cut xs none (some (k : Int)) = xs.take k := by
  unfold cut
  rw [HT.sIx_none, HT.sIx_nat, Nat.sub_zero, List.drop_zero]
  by_cases h : k ≤ xs.length
  · rw [Nat.min_eq_left h]
  · rw [Nat.min_eq_right (by omega), List.take_length, List.take_of_length_le (by omega)]
def addG : D → Option D
  | .tup [.int i, .int j] => some (.int (i + j))
  | _ => none
theorem zip_add : ∀ (a b : List Int), (zipD (a.map D.int) (b.map D.int)).filterMap addG = (List.zipWith (· + ·) a b).map D.int
  | [], b => by simp [zipD]
  | a :: l, [] => by simp [zipD]
  | a :: l, b :: m => by
    have ih := zip_add l m
    unfold zipD at ih ⊢
    rw [List.map_cons, List.map_cons, List.zip_cons_cons, List.map_cons, List.filterMap_cons, List.zipWith_cons_cons, List.map_cons, ← ih]
    rfl
theorem mem_zipI {a b : List Int} {d : D} (h : d ∈ zipD (a.map D.int) (b.map D.int)) : ∃ i j : Int, d = .tup [.int i, .int j] := by
  unfold zipD at h
  obtain ⟨p, hp, rfl⟩ := List.mem_map.mp h
  obtain ⟨h1, h2⟩ := List.of_mem_zip hp
  obtain ⟨i, _, q1⟩ := List.mem_map.mp h1
  obtain ⟨j, _, q2⟩ := List.mem_map.mp h2
  exact ⟨i, j, by rw [← q1, ← q2]⟩
end DL
namespace Row
open PySem DL
def nNext (r : List Int) : List Int := [1] ++ List.zipWith (· + ·) r r.tail ++ [1]
def iter : Nat → List Int → List Int
  | 0, r => r
  | k + 1, r => iter k (nNext r)
theorem next_len (r : List Int) : (nNext r).length ≤ r.length + 2 := by
  unfold nNext
  simp only [List.length_append, List.length_zipWith, List.length_cons, List.length_nil]
  omega
def lb24 : Sz := (.cons (.set 1 (.bin .add (.bin .add (.lst (.cons (.int 1) .nil)) (.lc (.tp (.cons (.nm 3) (.cons (.nm 4) .nil))) (.zip (.var 1) (.slc (.var 1) (.int 1) .nil)) .nil (.bin .add (.var 3) (.var 4)))) (.lst (.cons (.int 1) .nil)))) .nil)
theorem eb24 : d24.body = (.cons (.set 1 (.lst (.cons (.int 1) .nil))) (.cons (.for (.nm 2) (.range1 (.var 0)) lb24) (.cons (.ret (.var 1)) .nil))) := rfl
theorem turn24 (C : Nat → List D → M D) (K : Nat → D) (d : D) (r : List Int) (x : Option D) (h : r.length ≤ 1000) :
    evS C K lb24 [some d, some (.lst (r.map D.int)), x, none, none] = M.pure (.nx [some d, some (.lst ((nNext r).map D.int)), x, none, none]) := by
  have hz : zipop (.lst (r.map D.int)) (.lst (r.tail.map D.int)) = M.pure (zipD (r.map D.int) (r.tail.map D.int)) := rfl
  have hl : lenOk (zipD (r.map D.int) (r.tail.map D.int)) = M.pure (zipD (r.map D.int) (r.tail.map D.int)) := lenOk_le (by
    unfold zipD
    simp
    omega)
  have hg := lcGo_map (f := lcTurn (.tp (.cons (.nm 3) (.cons (.nm 4) .nil))) (ev C K .nil).t (ev C K (.bin .add (.var 3) (.var 4))).e [some d, some (.lst (r.map D.int)), x, none, none]) (g := addG) (zipD (r.map D.int) (r.tail.map D.int)) (fun e he => by
    obtain ⟨i, j, rfl⟩ := mem_zipI he
    simp -implicitDefEqProofs [lcTurn, wipeE, Tz.slots, bindT, bindTs, DL.get, addG])
  rw [zip_add] at hg
  have hs : slcop (some 1) none (.lst (r.map D.int)) = M.pure (.lst (r.tail.map D.int)) := by
    show M.bind (seqL (.lst (r.map D.int))) (fun xs => M.pure (D.lst (cut xs (some 1) none))) = _
    rw [seqL_lst, pb, cut_tail, List.map_tail]
  have a1 : binop .add (.lst [.int 1]) (.lst ((List.zipWith (· + ·) r r.tail).map D.int)) = M.pure (.lst ([.int 1] ++ (List.zipWith (· + ·) r r.tail).map D.int)) := addL (by
    simp
    omega)
  have a2 : binop .add (.lst ([.int 1] ++ (List.zipWith (· + ·) r r.tail).map D.int)) (.lst [.int 1]) = M.pure (.lst ([.int 1] ++ (List.zipWith (· + ·) r r.tail).map D.int ++ [.int 1])) := addL (by
    simp
    omega)
  have en : (nNext r).map D.int = [D.int 1] ++ (List.zipWith (· + ·) r r.tail).map D.int ++ [.int 1] := by
    unfold nNext
    rw [List.map_append, List.map_append]
    rfl
  rw [en]
  unfold lb24
  generalize (List.zipWith (· + ·) r r.tail).map D.int = zs at *
  simp only [evS, ev_bin_e, ev_lst_e, ev_lst_l, ev_cons_es, ev_nil_es, ev_int_e, pb, len1, bb, ev_lc_e, ev_lc_l, ev_zip_i, ev_var_e, ev_slc_e, ev_int_p, asInt_int, ev_nil_p]
  simp -implicitDefEqProofs only [DL.get, List.getElem?_cons_zero, List.getElem?_cons_succ, pb, res_lst, hs, hz, hl, hg, a1, a2, setE, List.length_cons, List.length_nil]
  simp -implicitDefEqProofs
theorem loop24 (C : Nat → List D → M D) (K : Nat → D) (d : D) : ∀ (ds : List D) (r : List Int) (x : Option D), r.length + 2 * ds.length ≤ 1000 →
    ∃ y, forGo (.nm 2) (evS C K lb24) ds [some d, some (.lst (r.map D.int)), x, none, none] = M.pure (.nx [some d, some (.lst ((iter ds.length r).map D.int)), y, none, none])
  | [], r, x, _ => ⟨x, rfl⟩
  | e :: ds, r, x, h => by
    rw [List.length_cons] at h
    have hn := next_len r
    obtain ⟨y, hy⟩ := loop24 C K d ds (nNext r) (some e) (by omega)
    refine ⟨y, ?_⟩
    show (M.bind (M.opt (bindT (.nm 2) e [some d, some (.lst (r.map D.int)), x, none, none])) fun ρ' => M.bind (evS C K lb24 ρ') _) = _
    have hb : M.opt (bindT (.nm 2) e [some d, some (.lst (r.map D.int)), x, none, none]) = M.pure [some d, some (.lst (r.map D.int)), some e, none, none] := rfl
    rw [hb, pb, turn24 C K d r (some e) (by omega), pb]
    exact hy
theorem law_sets (n : Nat) (d : Nat) (h : d ≤ 100) : F (n + 1) 24 [.int (d : Int)] = M.pure (.lst ((iter d [1]).map D.int)) := by
  unfold F
  rw [call_at (d := d24) rfl rfl _ rfl, run_eq, eb24]
  have hN : d24.N.length = 5 := rfl
  rw [hN]
  have hr : rng1 (.int (d : Int)) = M.pure ((List.range d).map fun (i : Nat) => D.int (i : Int)) := by
    rw [rng1_ok (by omega), Int.toNat_natCast]
  obtain ⟨y, hl⟩ := loop24 (tabF (kcOf ks) ds 1 2 n) (kcOf ks) (.int (d : Int)) ((List.range d).map fun (i : Nat) => D.int (i : Int)) [1] none (by simp; omega)
  rw [List.length_map, List.length_range] at hl
  simp only [List.map_cons, List.map_nil] at hl
  simp -implicitDefEqProofs [evS, DL.get, setE, hr, hl]
def nValueL (d l : Nat) : Option (Int × Int) := if d = 0 ∨ d ≤ l then some (0, 1) else do
  let a ← (iter (d - 1) [1])[l]?
  nPart a ((iter d [1]).take (l + 1)).sum
theorem law_value (n : Nat) (d l : Nat) (hd : d ≤ 100) {p : Int × Int} (h : nValueL d l = some p) : F (n + 3) 23 [.int (d : Int), .int (l : Int)] = M.pure (P p) := by
  unfold F
  rw [call_at (d := d23) rfl rfl _ rfl, run_eq]
  unfold nValueL at h
  by_cases c : d = 0 ∨ d ≤ l
  · rw [if_pos c] at h
    cases h
    by_cases c0 : d = 0
    · subst c0
      simp -implicitDefEqProofs [d23, b23, evS, DL.get, boolT_or, P]
    · have c1 : d ≤ l := c.resolve_left c0
      simp -implicitDefEqProofs [d23, b23, evS, DL.get, boolT_or, P, c0, c1]
  · rw [if_neg c] at h
    simp only [Option.bind_eq_bind, Option.bind_eq_some_iff] at h
    obtain ⟨a, ha, h⟩ := h
    have c0 : ¬ d = 0 := fun q => c (.inl q)
    have c1 : ¬ d ≤ l := fun q => c (.inr q)
    have e1 := law_sets (n + 1) (d - 1) (by omega)
    have e2 := law_sets (n + 1) d hd
    have e3 := part n h
    have ec : ((d - 1 : Nat) : Int) = (d : Int) - 1 := by omega
    rw [ec] at e1
    unfold F at e1 e2 e3
    have hi : L2.atI ((iter (d - 1) [1]).map D.int) (l : Int) = some (.int a) := L2.atI_nat (by rw [List.getElem?_map, ha]; rfl)
    have hc : slcop none (some ((l : Int) + 1)) (.lst ((iter d [1]).map D.int)) = M.pure (.lst (((iter d [1]).take (l + 1)).map D.int)) := by
      show M.bind (seqL (.lst ((iter d [1]).map D.int))) (fun xs => M.pure (D.lst (cut xs none (some (((l + 1 : Nat)) : Int))))) = _
      rw [seqL_lst, pb, cut_take, List.map_take]
    generalize (iter d [1]).take (l + 1) = zs at *
    simp -implicitDefEqProofs only [d23, b23, evS, ev_bool_t, ev_more_bt, ev_one_bt, ev_cmp_t, ev_cmp_e, ev_var_e, ev_int_e, DL.get]
    simp -implicitDefEqProofs [evS, DL.get, boolT_or, c0, c1, e1, e2, e3, hi, hc]
end Row
namespace Row
open PySem DL
theorem lk : LikeAt ds 1 2 5 4 := ⟨⟨d5, rfl, rfl, rfl, rfl⟩, ⟨d4, rfl, rfl, rfl, rfl⟩, rfl, rfl⟩
theorem PLp (k : Nat) (p : Int × Int) : PL (k + 2) (P p) := ⟨by show 2 ≤ 8000; omega, fun x hx => by
  rcases List.mem_cons.mp hx with rfl | hx
  · trivial
  · rcases List.mem_cons.mp hx with rfl | hx
    · trivial
    · cases hx⟩
theorem PLl2 {k : Nat} {a b : D} (h1 : PL k a) (h2 : PL k b) : PL (k + 1) (.lst [a, b]) := ⟨by simp, fun x hx => by
  rcases List.mem_cons.mp hx with rfl | hx
  · exact h1
  · rcases List.mem_cons.mp hx with rfl | hx
    · exact h2
    · cases hx⟩
theorem PLt2 {k : Nat} {a b : D} (h1 : PL k a) (h2 : PL k b) : PL (k + 1) (.tup [a, b]) := ⟨by simp, fun x hx => by
  rcases List.mem_cons.mp hx with rfl | hx
  · exact h1
  · rcases List.mem_cons.mp hx with rfl | hx
    · exact h2
    · cases hx⟩
def okDay (d l : Nat) : Option Unit := do
  let v ← nValue d l
  let v' ← nValueL d l
  let deed ← nDeed d l
  let look ← nLook d l
  if l = 0 then (if v = v' ∧ deed = (1, 1) ∧ look = (0, 1) then some () else none)
  else if l = d then (if v = v' ∧ deed = (0, 1) ∧ look = (1, 1) then some () else none)
  else do
    let p ← nValue ((d : Int) - 1) (l - 1)
    let q ← nValue ((d : Int) - 1) l
    let p' ← nValueL (d - 1) (l - 1)
    let q' ← nValueL (d - 1) l
    let nd ← nLess (1, 1) deed
    let nl ← nLess (1, 1) look
    let a0 ← nTimes deed (-1, 1)
    let b0 ← nTimes nd p
    let c0 ← nPlusL a0 b0
    let a1 ← nTimes look (-1, 1)
    let b1 ← nTimes nl (1, 1)
    let c1 ← nPlusL a1 b1
    let a2 ← nTimes deed (1, 1)
    let b2 ← nTimes nd q
    let c2 ← nPlusL a2 b2
    let a3 ← nTimes look p
    let b3 ← nTimes nl q
    let c3 ← nPlusL a3 b3
    let e ← nPart deed.1 deed.2
    if v = v' ∧ p = p' ∧ q = q' ∧ c0 = v ∧ c1 = v ∧ c2 = v ∧ c3 = v ∧ e = deed ∧ (0 < deed.1 ∧ deed.1 < deed.2) ∧ (0 < look.1 ∧ look.1 < look.2) then some () else none
theorem day_right (n : Nat) (d l : Nat) (hd : 1 ≤ d ∧ d ≤ 60) (hl : l ≤ d) (h : okDay d l = some ()) : F (n + 8) 18 [.int (d : Int), .int (l : Int)] = M.pure (.bl true) := by
  unfold okDay at h
  simp only [Option.bind_eq_bind, Option.bind_eq_some_iff] at h
  obtain ⟨v, hv, v', hv', deed, hdeed, look, hlook, h⟩ := h
  have e1 := deed_value (n + 3) (d : Int) l (by omega) (by omega) hv
  have e2 := law_value (n + 4) d l (by omega) hv'
  have e3 := deed_today (n + 2) (d : Int) l (by omega) (by omega) hdeed
  have e4 := look_today (n + 2) (d : Int) l (by omega) (by omega) hlook
  have L1 := like_at (Kc := kcOf ks) lk 2 (n + 4) (PLp 0 v)
  unfold F at e1 e2 e3 e4
  unfold F
  rw [call_at (d := d18) rfl rfl _ rfl, run_eq]
  by_cases c0 : l = 0
  · rw [if_pos c0] at h
    split at h
    case isFalse => cases h
    rename_i c
    obtain ⟨rfl, rfl, rfl⟩ := c
    subst c0
    have L2 := like_at (Kc := kcOf ks) lk 3 (n + 3) (PLl2 (PLp 0 (1, 1)) (PLp 0 (0, 1)))
    simp only [P] at e1 e2 e3 e4 L1 L2
    have z : ((0 : Nat) : Int) = 0 := rfl
    rw [z] at e1 e2 e3 e4
    simp -implicitDefEqProofs [d18, b18, evS, DL.get, setE, setPar, setAll, mem2, e1, e2, e3, e4, L1, L2]
  · rw [if_neg c0] at h
    by_cases c1 : l = d
    · rw [if_pos c1] at h
      split at h
      case isFalse => cases h
      rename_i c
      obtain ⟨rfl, rfl, rfl⟩ := c
      subst c1
      have L2 := like_at (Kc := kcOf ks) lk 3 (n + 3) (PLl2 (PLp 0 (0, 1)) (PLp 0 (1, 1)))
      simp only [P] at e1 e2 e3 e4 L1 L2
      have c0' : ¬ (0 : Int) = (l : Int) := by omega
      simp -implicitDefEqProofs [d18, b18, evS, DL.get, setE, setPar, setAll, mem2, e1, e2, e3, e4, L1, L2, c0, c0']
    · rw [if_neg c1] at h
      simp only [Option.bind_eq_bind, Option.bind_eq_some_iff] at h
      obtain ⟨p, hp, q, hq, p', hp', q', hq', nd, hnd, nl, hnl, a0, ha0, b0, hb0, g0, hg0, a1, ha1, b1, hb1, g1, hg1, a2, ha2, b2, hb2, g2, hg2, a3, ha3, b3, hb3, g3, hg3, e, he, h⟩ := h
      split at h
      case isFalse => cases h
      rename_i c
      obtain ⟨rfl, rfl, rfl, r0, r1, r2, r3, re, k1, k2⟩ := c
      subst re
      have t1 := deed_table (n + 2) (d : Int) l (by omega) (by omega) (by omega) hp hq
      have t2 := law_value (n + 4) (d - 1) (l - 1) (by omega) hp'
      have t3 := law_value (n + 4) (d - 1) l (by omega) hq'
      have x1 : ((d - 1 : Nat) : Int) = (d : Int) - 1 := by omega
      have x2 : ((l - 1 : Nat) : Int) = (l : Int) - 1 := by omega
      rw [x1, x2] at t2
      rw [x1] at t3
      have u1 := less (n + 4) hnd
      have u2 := less (n + 4) hnl
      have w0 := times (n + 4) ha0
      have w1 := times (n + 4) hb0
      have w2 := plusL (n + 4) hg0
      have w3 := times (n + 4) ha1
      have w4 := times (n + 4) hb1
      have w5 := plusL (n + 4) hg1
      have w6 := times (n + 4) ha2
      have w7 := times (n + 4) hb2
      have w8 := plusL (n + 4) hg2
      have w9 := times (n + 4) ha3
      have w10 := times (n + 4) hb3
      have w11 := plusL (n + 4) hg3
      have w12 := part (n + 5) he
      have L2 := like_at (Kc := kcOf ks) lk 4 (n + 2) (PLt2 (PLt2 (PLp 0 (-1, 1)) (PLp 0 (1, 1))) (PLt2 (PLp 0 p) (PLp 0 q)))
      have L3 := like_at (Kc := kcOf ks) lk 3 (n + 3) (PLl2 (PLp 0 v) (PLp 0 v))
      have L4 := like_at (Kc := kcOf ks) lk 2 (n + 4) (PLp 0 e)
      rw [r0] at w2
      rw [r1] at w5
      rw [r2] at w8
      rw [r3] at w11
      clear hv hv' hdeed hlook hp hq hp' hq' hnd hnl ha0 hb0 hg0 ha1 hb1 hg1 ha2 hb2 hg2 ha3 hb3 hg3 he r0 r1 r2 r3
      unfold F at t1 t2 t3 u1 u2 w0 w1 w2 w3 w4 w5 w6 w7 w8 w9 w10 w11 w12
      simp only [P] at e1 e2 e3 e4 L1 L2 L3 L4 t1 t2 t3 u1 u2 w0 w1 w2 w3 w4 w5 w6 w7 w8 w9 w10 w11 w12
      have c0' : ¬ (0 : Int) = (l : Int) := by omega
      have c1' : ¬ (d : Int) = (l : Int) := by omega
      have c1'' : ¬ d = l := by omega
      simp -implicitDefEqProofs [d18, b18, evS, DL.get, setE, setPar, setAll, mem2, forGo, bindT, e1, e2, e3, e4, L1, L2, L3, L4, c0, c0', c1', c1'', t1, t2, t3, u1, u2, w0, w1, w2, w3, w4, w5, w6, w7, w8, w9, w10, w11, w12, k1, k2]
end Row
namespace DL
open PySem
theorem T.good_bind' {α β : Type} {f : α → T β} {Q : β → Prop} : ∀ {t : T α}, t.good (fun a => (f a).good Q) → (t.bind f).good Q
  | .ret a, h => h
  | .roll n k, h => fun r hr => T.good_bind' (h r hr)
/-- from μ, whatever is drawn, m ends well -/
structure wp {α : Type} (m : M α) (μ : Mem) (Q : α → Mem → Prop) : Prop where
  g : (m μ).good fun r => ∃ a μ', r = .ok a μ' ∧ Q a μ'
section
variable {α β : Type} {μ : Mem}
theorem wp_pure {a : α} {Q : α → Mem → Prop} (h : Q a μ) : wp (M.pure a) μ Q := ⟨a, μ, rfl, h⟩
theorem wp_bind {m : M α} {f : α → M β} {Q : β → Mem → Prop} (h : wp m μ fun a μ' => wp (f a) μ' Q) : wp (M.bind m f) μ Q := by
  refine ⟨T.good_bind' (T.good_mono (fun r hr => ?_) h.g)⟩
  obtain ⟨a, μ', rfl, h⟩ := hr
  exact h.g
theorem wp_mono {m : M α} {Q Q' : α → Mem → Prop} (h : wp m μ Q) (hq : ∀ a μ', Q a μ' → Q' a μ') : wp m μ Q' := ⟨T.good_mono (fun r ⟨a, μ', e, h⟩ => ⟨a, μ', e, hq a μ' h⟩) h.g⟩
theorem wp_of {m : M α} {Q : α → Mem → Prop} {a : α} {μ' : Mem} (e : m μ = .ret (.ok a μ')) (h : Q a μ') : wp m μ Q := by
  refine ⟨?_⟩
  rw [e]
  exact ⟨a, μ', rfl, h⟩
theorem wp_pop {m : M D} {Q : D → Mem → Prop} (h : wp m μ fun a μ' => (a.noRef μ.length && (μ'.take μ.length).all (Ob.noRef μ.length)) = true ∧ Q a (μ'.take μ.length)) : wp (popM m) μ Q := by
  refine ⟨T.good_bind' (T.good_mono (fun r hr => ?_) h.g)⟩
  obtain ⟨a, μ', rfl, h1, h2⟩ := hr
  dsimp only
  rw [if_pos h1]
  exact ⟨a, _, rfl, h2⟩
theorem wp_cup {ns : List Int} {Q : D → Mem → Prop} (hn : ns.length ≤ 63) (h : Q (.ref μ.length) (μ ++ [.cup])) : wp (primCup [.scr ns]) μ Q := by
  show wp (if ns.length ≤ 63 then alloc .cup else M.bad) μ Q
  rw [if_pos hn]
  exact ⟨_, _, rfl, h⟩
theorem wp_roll {n : Nat} {many : Int} {Q : D → Mem → Prop} (hc : μ[n]? = some .cup) (hm : 0 < many ∧ many < 2 ^ 62) (h : ∀ r : Nat, (r : Int) < many → Q (.int (r : Int)) μ) : wp (primRoll [.ref n, .int many]) μ Q := by
  have hm2 : 0 < many ∧ many.natAbs.log2 < 9000 := ⟨hm.1, by
    have : many.natAbs.log2 < 62 := (Nat.log2_lt (by omega)).mpr (by omega)
    omega⟩
  refine ⟨?_⟩
  unfold primRoll
  dsimp only
  rw [hc]
  dsimp only
  rw [if_pos hm2]
  intro r hr
  exact ⟨_, _, rfl, h r (by omega)⟩
theorem wp_res {n : Nat} {Q : D → Mem → Prop} (hc : μ[n]? = some .cup) (h : Q (.ref n) μ) : wp (res (.ref n)) μ Q := by
  refine wp_of ?_ h
  unfold res
  dsimp only
  rw [hc]
def isT (t : T (R D)) : Bool := match t with
  | .ret (.ok (.bl true) [.cup]) => true
  | _ => false
theorem isT_ok {t : T (R D)} (h : isT t = true) : t = .ret (.ok (.bl true) [.cup]) := by
  unfold isT at h
  split at h
  · rfl
  · cases h
theorem call_cup {Kc : Nat → D} {ds : List Dr} {c r n : Nat} : tabF Kc ds c r (n + 1) c = primCup := callF_prim (if_pos rfl)
theorem call_roll {Kc : Nat → D} {ds : List Dr} {c r n : Nat} (h : r ≠ c) : tabF Kc ds c r (n + 1) r = primRoll := callF_prim (by unfold primOf; rw [if_neg h, if_pos rfl])
end
end DL
namespace Row
open PySem DL
def nToday (d : Nat) : Option (Int × Int) := do
  let v ← nValueL (d - 1) 1
  let g ← nLess (1, 1) v
  let w ← nPlusL (2, 1) g
  let a ← nMul g.1 w.2
  let b ← nMul g.2 w.1
  nPart a b
def okToday (d : Nat) : Option Unit := do
  let a ← nDeed d 1
  let b ← nLook d 1
  let t ← nToday d
  if a = t ∧ b = t then some () else none
def okPair (d l : Nat) : Option Unit := do
  let one ← nValue d l
  let more ← nValue d (l + 1)
  let later ← nValue ((d : Int) + 1) l
  let g1 ← nGap one more
  let g2 ← nGap later one
  if 0 < g1 ∧ 0 ≤ g2 ∧ (l = 0 ∨ g2 ≠ 0) then some () else none
theorem pairs : (List.range 58).all (fun d => (List.range 30).all fun l => (okPair (d + 2) (min l (d + 1))).isSome) = true := by decide +kernel
theorem todays : (List.range 58).all (fun d => (okToday (d + 2)).isSome) = true := by decide +kernel
theorem written : isT (F 59 30 [] [.cup]) = true := by decide +kernel
theorem days12 : (List.range 12).all (fun d => (List.range (d + 2)).all fun l => (okDay (d + 1) l).isSome) = true := by decide +kernel
theorem days60 : (List.range 59).all (fun l => (okDay 60 (l + 1)).isSome) = true := by decide +kernel
end Row
namespace Row
open PySem DL
theorem law_today (n : Nat) (d : Nat) (hd : 1 ≤ d ∧ d ≤ 60) {p : Int × Int} (h : nToday d = some p) : F (n + 4) 28 [.int (d : Int)] = M.pure (P p) := by
  unfold nToday at h
  simp only [Option.bind_eq_bind, Option.bind_eq_some_iff] at h
  obtain ⟨v, hv, g, hg, w, hw, a, ha, b, hb, h⟩ := h
  have e1 := law_value n (d - 1) 1 (by omega) hv
  have e2 := less n hg
  have e3 := plusL n hw
  have e4 := part (n + 1) h
  have x1 : ((d - 1 : Nat) : Int) = (d : Int) - 1 := by omega
  have z : ((1 : Nat) : Int) = 1 := rfl
  rw [x1, z] at e1
  unfold F at e1 e2 e3 e4
  unfold F
  rw [call_at (d := d28) rfl rfl _ rfl, run_eq]
  simp only [P] at e1 e2 e3 e4
  clear hv hg hw h
  simp -implicitDefEqProofs [d28, b28, evS, DL.get, setE, e1, e2, e3, e4, mul_ok ha, mul_ok hb]
theorem law_look (n : Nat) (d : Nat) (hd : 1 ≤ d ∧ d ≤ 60) {p : Int × Int} (h : nToday d = some p) : F (n + 4) 29 [.int (d : Int)] = M.pure (P p) := by
  unfold nToday at h
  simp only [Option.bind_eq_bind, Option.bind_eq_some_iff] at h
  obtain ⟨v, hv, g, hg, w, hw, a, ha, b, hb, h⟩ := h
  have e1 := law_value n (d - 1) 1 (by omega) hv
  have e2 := less n hg
  have e3 := plusL n hw
  have e4 := part (n + 1) h
  have x1 : ((d - 1 : Nat) : Int) = (d : Int) - 1 := by omega
  have z : ((1 : Nat) : Int) = 1 := rfl
  rw [x1, z] at e1
  unfold F at e1 e2 e3 e4
  unfold F
  rw [call_at (d := d29) rfl rfl _ rfl, run_eq]
  simp only [P] at e1 e2 e3 e4
  clear hv hg hw h
  simp -implicitDefEqProofs [d29, b29, evS, DL.get, setE, e1, e2, e3, e4, mul_ok ha, mul_ok hb]
theorem isSome_unit {o : Option Unit} (h : o.isSome = true) : o = some () := by
  cases o with
  | none => cases h
  | some u => rfl
theorem day60 (n : Nat) (l : Nat) (h : l < 59) : F (n + 8) 18 [.int 60, .int (1 + (l : Int))] = M.pure (.bl true) := by
  have q := isSome_unit (List.all_eq_true.mp days60 l (List.mem_range.mpr h))
  have := day_right n 60 (l + 1) (by omega) (by omega) q
  rw [show ((l + 1 : Nat) : Int) = 1 + (l : Int) from by omega] at this
  exact this
theorem day12 (n : Nat) (d l : Nat) (h : d < 12) (hl : l < d + 2) : F (n + 8) 18 [.int (1 + (d : Int)), .int (l : Int)] = M.pure (.bl true) := by
  have q := isSome_unit (List.all_eq_true.mp (List.all_eq_true.mp days12 d (List.mem_range.mpr h)) l (List.mem_range.mpr hl))
  have := day_right n (d + 1) l (by omega) (by omega) q
  rw [show ((d + 1 : Nat) : Int) = 1 + (d : Int) from by omega] at this
  exact this
/-- the second half of the great check -/
theorem great2 (n : Nat) (d l : Nat) (hd : 2 ≤ d ∧ d ≤ 59) (hl : l ≤ d - 1) (h1 : okPair d l = some ()) (h2 : okToday d = some ()) :
    ∃ one more later : Int × Int, ∃ g1 g2 : Int, ∃ t k : Int × Int, F (n + 6) 6 [.int (d : Int), .int (l : Int)] = M.pure (P one) ∧ F (n + 6) 6 [.int (d : Int), .int ((l : Int) + 1)] = M.pure (P more) ∧ F (n + 6) 6 [.int ((d : Int) + 1), .int (l : Int)] = M.pure (P later) ∧
      F (n + 6) 27 [P one, P more] = M.pure (.int g1) ∧ F (n + 6) 27 [P later, P one] = M.pure (.int g2) ∧ 0 < g1 ∧ 0 ≤ g2 ∧ (l = 0 ∨ g2 ≠ 0) ∧
      F (n + 6) 17 [.int (d : Int), .int 1] = M.pure (P t) ∧ F (n + 6) 13 [.int (d : Int), .int 1] = M.pure (P k) ∧ F (n + 6) 28 [.int (d : Int)] = M.pure (P t) ∧ F (n + 6) 29 [.int (d : Int)] = M.pure (P k) := by
  unfold okPair at h1
  simp only [Option.bind_eq_bind, Option.bind_eq_some_iff] at h1
  obtain ⟨one, ho, more, hm, later, hlt, g1, hg1, g2, hg2, h1⟩ := h1
  split at h1
  case isFalse => cases h1
  rename_i c
  unfold okToday at h2
  simp only [Option.bind_eq_bind, Option.bind_eq_some_iff] at h2
  obtain ⟨a, ha, b, hb, t, ht, h2⟩ := h2
  split at h2
  case isFalse => cases h2
  rename_i c2
  obtain ⟨rfl, rfl⟩ := c2
  have e1 := deed_value (n + 2) (d : Int) l (by omega) (by omega) ho
  have e2 := deed_value (n + 2) (d : Int) (l + 1) (by omega) (by omega) hm
  have e3 := deed_value (n + 2) ((d : Int) + 1) l (by omega) (by omega) hlt
  rw [show ((l + 1 : Nat) : Int) = (l : Int) + 1 from by omega] at e2
  exact ⟨one, more, later, g1, g2, b, b, e1, e2, e3, gap (n + 5) hg1, gap (n + 5) hg2, c.1, c.2.1, c.2.2, deed_today (n + 1) (d : Int) 1 (by omega) (by omega) ha, look_today (n + 1) (d : Int) 1 (by omega) (by omega) hb, law_today (n + 2) d (by omega) ht, law_look (n + 2) d (by omega) ht⟩
end Row
namespace Row
open PySem DL
theorem shl60 : binop .shl (.int 1) (.int 60) = M.pure (.int 1152921504606846976) := by
  have : binop .shl (.int 1) (.int 60) = if 0 ≤ (60 : Int) ∧ (60 : Int) ≤ 1000000 ∧ (1 : Int).natAbs < 2 ^ 64 then M.pure (.int (1 * 2 ^ (60 : Int).toNat)) else M.bad := rfl
  rw [this, if_pos (by decide)]
  rfl
theorem v0 : nValue 60 0 = some (1, 1) := by decide +kernel
theorem v1 : nValue 60 1 = some (59, 61) := by decide +kernel
theorem v59 : nValue 60 59 = some (1, 1152921504606846975) := by decide +kernel
theorem v60 : nValue 60 60 = some (0, 1) := by decide +kernel
theorem vl : (nLook 60 1).isSome = true := by decide +kernel
theorem vd : (nDeed 60 1).isSome = true := by decide +kernel
theorem great (n : Nat) (Q : D → Mem → Prop) (hQ : Q (.bl true) [.cup]) : wp (α := D) (tabF (kcOf ks) ds 1 2 (n + 9) 3 [.ref 0]) [.cup] Q := by
  rw [call_at (d := d3) rfl rfl _ rfl]
  refine wp_pop (wp_mono (Q := fun a μ => a = .bl true ∧ μ = [.cup]) ?_ fun a μ h => by
    obtain ⟨rfl, rfl⟩ := h
    exact ⟨rfl, hQ⟩)
  rw [run_eq]
  obtain ⟨lk1, hk1⟩ := Option.isSome_iff_exists.mp vl
  obtain ⟨dd1, hd1⟩ := Option.isSome_iff_exists.mp vd
  have e0 := deed_value (n + 4) 60 0 (by omega) (by omega) v0
  have e1 := deed_value (n + 4) 60 1 (by omega) (by omega) v1
  have e2 := deed_value (n + 4) 60 59 (by omega) (by omega) v59
  have e3 := deed_value (n + 4) 60 60 (by omega) (by omega) v60
  have e4 := look_today (n + 3) 60 1 (by omega) (by omega) hk1
  have e5 := deed_today (n + 3) 60 1 (by omega) (by omega) hd1
  have L : tabF (kcOf ks) ds 1 2 (n + 8) 4 [.lst [P (1, 1), P (59, 61), P (1, 1152921504606846975), P (0, 1)], .lst [P (1, 1), P (59, 61), P (1, 1152921504606846975), P (0, 1)]] = M.pure (.bl true) := like_at (Kc := kcOf ks) lk 3 (n + 4) (⟨by show 4 ≤ 8000; omega, fun x hx => by
    simp only [List.mem_cons, List.not_mem_nil, or_false] at hx
    rcases hx with rfl | rfl | rfl | rfl <;> exact PLp 0 _⟩)
  have l6 : ∀ a b c d e f : D, lenOk [a, b, c, d, e, f] = M.pure [a, b, c, d, e, f] := fun _ _ _ _ _ _ => lenOk_le (by show 6 ≤ 8000; omega)
  have hs : ∀ a b c d e f : D, slcop none (some 4) (.lst [a, b, c, d, e, f]) = M.pure (.lst [a, b, c, d]) := fun a b c d e f => by
    show M.bind (seqL (.lst [a, b, c, d, e, f])) (fun xs => M.pure (D.lst (cut xs none (some ((4 : Nat) : Int))))) = _
    rw [seqL_lst, pb, cut_take]
    rfl
  have rl : tabF (kcOf ks) ds 1 2 (n + 8) 2 = primRoll := call_roll (by decide)
  unfold F at e0 e1 e2 e3 e4 e5
  simp only [P] at e0 e1 e2 e3 e4 e5 L
  simp only [show ((0 : Nat) : Int) = 0 from rfl, show ((1 : Nat) : Int) = 1 from rfl, show ((59 : Nat) : Int) = 59 from rfl, show ((60 : Nat) : Int) = 60 from rfl] at e0 e1 e2 e3 e4 e5
  simp -implicitDefEqProofs [d3, b3, evS, DL.get, setE, e0, e1, e2, e3, e4, e5, L, shl60, l6, hs, rl]
  refine wp_bind (wp_res rfl (wp_bind (wp_roll rfl (by omega) fun r hr => ?_)))
  have e6 := day60 n r (by omega)
  unfold F at e6
  simp -implicitDefEqProofs [e6]
  refine wp_bind (wp_res rfl (wp_bind (wp_roll rfl (by omega) fun s hs => ?_)))
  simp -implicitDefEqProofs
  refine wp_bind (wp_res rfl (wp_bind (wp_roll rfl (by omega) fun t ht => ?_)))
  have hp := isSome_unit (List.all_eq_true.mp (List.all_eq_true.mp pairs s (List.mem_range.mpr (by omega))) t (List.mem_range.mpr (by omega)))
  have ht2 := isSome_unit (List.all_eq_true.mp todays s (List.mem_range.mpr (by omega)))
  have hmin : (if 2 + (s : Int) - 1 < (t : Int) then 2 + (s : Int) - 1 else (t : Int)) = ((min t (s + 1) : Nat) : Int) := by
    split <;> omega
  have hle : min t (s + 1) ≤ s + 2 - 1 := by omega
  generalize hgl : min t (s + 1) = l at hp hmin hle
  obtain ⟨one, more, later, g1, g2, u, k, f1, f2, f3, f4, f5, k1, k2, k3, f6, f7, f8, f9⟩ := great2 (n + 2) (s + 2) l (by omega) hle hp ht2
  have ec : ((s + 2 : Nat) : Int) = 2 + (s : Int) := by omega
  rw [ec] at f1 f2 f3 f6 f7 f8 f9
  unfold F at f1 f2 f3 f4 f5 f6 f7 f8 f9
  have L2 := like_at (Kc := kcOf ks) lk 3 (n + 4) (PLl2 (PLp 0 u) (PLp 0 k))
  simp only [P] at f1 f2 f3 f4 f5 f6 f7 f8 f9 L2
  have m1 : ¬ g1 ≤ 0 := by omega
  have m2 : ¬ g2 < 0 := by omega
  have hmin' : bfop .min2 [.int (t : Int), .int (2 + (s : Int) - 1)] = M.pure (.int (l : Int)) := by
    rw [bf_min, hmin]
  refine (?_ : wp _ _ _)
  simp -implicitDefEqProofs [-bf_min, DL.get, setPar, setAll, hmin', setE, f1, f2, f3, f4, f5, f6, f7, f8, f9, L2, boolT_or, boolT_and, m1, m2]
  have fin : (if 0 < l then if g2 = 0 then M.pure (D.bl false) else M.pure (D.bl true) else M.pure (D.bl true)) = M.pure (D.bl true) := by
    rcases k3 with q | q
    · rw [if_neg (by omega)]
    · rw [if_neg q, ite_self]
  rw [fin]
  exact wp_pure ⟨rfl, rfl⟩
def lb0 : Sz := (.cons (.ite (.not (.call 18 (.cons (.var 2) (.cons (.var 3) .nil)))) (.cons (.ret (.bl false)) .nil) .nil) .nil)
theorem eb0 : d0.body = (.cons (.set 1 (.call 1 (.cons (.var 0) .nil))) (.cons (.set 2 (.bin .add (.int 1) (.call 2 (.cons (.var 1) (.cons (.int 12) .nil))))) (.cons (.for (.nm 3) (.range1 (.bin .add (.var 2) (.int 1))) lb0) (.cons (.ret (.bool .And (.cons (.call 3 (.cons (.var 1) .nil)) (.cons (.call 30 .nil) .nil)))) .nil)))) := rfl
theorem loop0 (a b : D) (r : Nat) (hr : r < 12) : ∃ y, forGo (.nm 3) (evS (tabF (kcOf ks) ds 1 2 59) (kcOf ks) lb0) ((List.range (r + 2)).map fun (i : Nat) => D.int (i : Int)) [some a, some b, some (.int (1 + (r : Int))), none] = M.pure (.nx [some a, some b, some (.int (1 + (r : Int))), y]) := by
  have hl := forGo_fold (tg := .nm 3) (b := evS (tabF (kcOf ks) ds 1 2 59) (kcOf ks) lb0) (emb := fun (x : Option D) => [some a, some b, some (.int (1 + (r : Int))), x]) (g := fun _ d => some d) ((List.range (r + 2)).map fun (i : Nat) => D.int (i : Int)) none (fun x d hd => by
    obtain ⟨i, hi, rfl⟩ := mem_rng hd
    have e := day12 51 r i hr hi
    unfold F at e
    simp -implicitDefEqProofs [bindT, evS, DL.get, lb0, e])
  exact ⟨_, hl⟩
theorem good_of_wp {N c r L : Nat} {ds : List Dr} {ks : List (Str × Kon)} (h : ∀ ns : List Int, ns.length ≤ 63 → wp (α := D) (tabF (kcOf ks) ds c r N L [.scr ns]) [] fun a _ => a = .bl true) : good N ds ks c r L := fun ns hn => by
  refine DL.T.good_mono (fun q hq => ?_) (h ns hn).g
  obtain ⟨a, μ, e, rfl⟩ := hq
  exact ⟨μ, e⟩
theorem writtenE : (tabF (kcOf ks) ds 1 2 59 30 [] : M D) [.cup] = .ret (.ok (.bl true) [.cup]) := isT_ok (t := (tabF (kcOf ks) ds 1 2 59 30 [] : M D) [.cup]) written
theorem wp_written (Q : D → Mem → Prop) (h : Q (.bl true) [.cup]) : wp (α := D) (tabF (kcOf ks) ds 1 2 59 30 []) [.cup] Q := by
  generalize hm : (tabF (kcOf ks) ds 1 2 59 30 [] : M D) = m
  have e := writtenE
  rw [hm] at e
  exact wp_of e h
theorem law_wp (ns : List Int) (hn : ns.length ≤ 63) (m : Nat) (cl : tabF (kcOf ks) ds 1 2 m 1 = primCup) (rl : tabF (kcOf ks) ds 1 2 m 2 = primRoll)
    (lp : ∀ (a b : D) (r : Nat), r < 12 → ∃ y, forGo (.nm 3) (evS (tabF (kcOf ks) ds 1 2 m) (kcOf ks) lb0) ((List.range (r + 2)).map fun (i : Nat) => D.int (i : Int)) [some a, some b, some (.int (1 + (r : Int))), none] = M.pure (.nx [some a, some b, some (.int (1 + (r : Int))), y]))
    (gr : ∀ Q : D → Mem → Prop, Q (.bl true) [.cup] → wp (α := D) (tabF (kcOf ks) ds 1 2 m 3 [.ref 0]) [.cup] Q) (wr : ∀ Q : D → Mem → Prop, Q (.bl true) [.cup] → wp (α := D) (tabF (kcOf ks) ds 1 2 m 30 []) [.cup] Q) :
    wp (α := D) (tabF (kcOf ks) ds 1 2 (m + 1) 0 [.scr ns]) [] fun a _ => a = .bl true := by
  rw [call_at (d := d0) rfl rfl _ rfl]
  refine wp_pop (wp_mono (Q := fun a _ => a = .bl true) ?_ fun a μ h => by
    subst h
    refine ⟨?_, rfl⟩
    simp [D.noRef])
  rw [run_eq, eb0]
  have hN : d0.N.length = 4 := rfl
  rw [hN]
  simp -implicitDefEqProofs [evS, DL.get, setE, cl, rl]
  refine wp_bind (wp_cup hn ?_)
  simp -implicitDefEqProofs
  refine wp_bind (wp_res rfl (wp_bind (wp_roll rfl (by omega) fun r hr => ?_)))
  have hr' : r < 12 := by omega
  obtain ⟨y, hl⟩ := lp (.scr ns) (.ref 0) r hr'
  have hg : rng1 (.int (1 + (r : Int) + 1)) = M.pure ((List.range (r + 2)).map fun (i : Nat) => D.int (i : Int)) := by
    rw [rng1_ok (by omega), show (1 + (r : Int) + 1).toNat = r + 2 from by omega]
  simp -implicitDefEqProofs [hg, hl]
  refine wp_bind (wp_res rfl (wp_bind (gr _ ?_)))
  simp -implicitDefEqProofs
  exact wp_bind (wr _ (wp_pure rfl))
theorem law_good : good 60 ds ks 1 2 0 := good_of_wp fun ns hn => law_wp ns hn 59 call_cup (call_roll (by decide)) loop0 (great 50) wp_written
end Row
open PySem PySem.W PySem.Calls PyProof.Rows in
theorem PySem.Challenge.cw_gamesweighed_k54_whole_inspections_holds : PySem.Challenge.rw_gamesweighed_k54_whole_inspections.Holds := by
  w_on; o_law
  refine HeadRun.head_imp (r := OpenLaw.row PySem.Challenge.rw_gamesweighed_k54_whole_inspections) (q := view (OpenLaw.row PySem.Challenge.rw_gamesweighed_k54_whole_inspections).prog [0, 40]) (H := Row.hk) (ob := Row.obs) (M := 6000) (loose := Row.loose) (d := HandSHeadRun.topDef (OpenLaw.row PySem.Challenge.rw_gamesweighed_k54_whole_inspections).prog 40) (kwd := []) Row.obs_eq
    Row.hrun (by kernel_rfl) (by kernel_rfl) (by kernel_rfl) (by rfl) (by first | assumption | decide +kernel) (by decide +kernel) ⟨rfl, rfl, rfl, rfl, rfl, by decide +kernel⟩ ?hw ?hc
  case hw => w_witness2
  case hc =>
    refine L2.walk_ofE (l := PySem.Challenge.rw_gamesweighed_k54_whole_inspections) (n := 63) (k := 60) (x := "script") (CX := L2.CX0) rfl (by decide) (by kernel_rfl) ⟨rfl, by decide, by decide⟩ ?F (fun _ _ _ _ z => z)
    intro w mg fa h Y G hmg0
    obtain ⟨K, KX, c⟩ := Y
    have hmg : mg ("law" : PySem.Str) = some (.ref fa) := by
      have e : (HandSHeadRun.topDef (OpenLaw.row PySem.Challenge.rw_gamesweighed_k54_whole_inspections).prog 40).name = ("law" : PySem.Str) := by kernel_rfl
      rw [← e]
      exact hmg0
    obtain ⟨fd, sp, h1, h2, h3⟩ := DL.law_facts (P := (PySem.Challenge.rw_gamesweighed_k54_whole_inspections).prog) (w := w) (dL := Row.d0) Row.tok Row.bnd rfl rfl Row.law_good KX G c hmg
    exact ⟨K, fd, sp, KX, h1, h2, h3⟩
