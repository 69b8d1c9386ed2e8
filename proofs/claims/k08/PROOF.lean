import PyProof.Rows.All
import Wide.All
import OpenK.AllK
import Wide.FinOn
import HandS.ForMost
import HandS.ForExc
import HandS.CallSlots
import HandS.TupAny
import HandS.TupMul
import HandS.Wide
import HandS.WideBits
import HandS.Deep
import HandS.IsInst
import HandS.Conv
import HandS.Flow
import HandS.Rev
import HandS.DictTup
import KE.SortData
import KE.DataCmp
import KE.DataEq
import KE.KeyNested
import HandS.Style
import KE.KTupSum
import HandS.TupLen
import KE.KDictSum
import KE.KDictPairs
import KE.SortCalls
import KE.GoesEnum
import HandS.Zip
import HandS.Comp
import HandS.SetFor
import HandS.Set
import HandS.TupSets
import PySem.Challenge.RW_mixahead_k08_remembering
set_option Elab.async false
set_option autoImplicit false
set_option linter.all false
set_option maxRecDepth 100000
set_option maxHeartbeats 4000000
section
/-! Rv, part 1: a small language for the Python of these texts, and what it computes over plain data. -/
namespace Rv
open PySem
abbrev D := PyData

/-- a slot: a value that never changes; a list or dict of this def's own; one that the caller handed in to be changed -/
inductive Sl where
  | val (d : D)
  | own (d : D)
  | io (d : D)
def Sl.d : Sl → D
  | .val d => d
  | .own d => d
  | .io d => d
abbrev Env := List (Option Sl)
/-- an exception: the number of its class, its fields -/
structure Exn where
  cls : Nat
  fs : List (Str × D)
inductive Rs (α : Type) where
  | no
  | ok (a : α) (e : Env)
  | ex (x : Exn) (e : Env)
def Rs.bind {α β : Type} (r : Rs α) (f : α → Env → Rs β) : Rs β :=
  match r with
  | .no => .no
  | .ok a e => f a e
  | .ex x e => .ex x e
theorem Rs.bind_ok {α β : Type} {r : Rs α} {f : α → Env → Rs β} {b : β} {e : Env} (h : r.bind f = .ok b e) : ∃ a e1, r = .ok a e1 ∧ f a e1 = .ok b e := by
  cases r with
  | no => cases h
  | ok a e1 => exact ⟨a, e1, rfl, h⟩
  | ex x e1 => cases h
theorem Rs.bind_ex {α β : Type} {r : Rs α} {f : α → Env → Rs β} {x : Exn} {e : Env} (h : r.bind f = .ex x e) : r = .ex x e ∨ ∃ a e1, r = .ok a e1 ∧ f a e1 = .ex x e := by
  cases r with
  | no => cases h
  | ok a e1 => exact .inr ⟨a, e1, rfl, h⟩
  | ex x' e1 => exact .inl (by cases h; rfl)
def Rs.of {α : Type} (o : Option α) (e : Env) : Rs α :=
  match o with
  | none => .no
  | some a => .ok a e

/-! ### operations on data -/
def dT (b : Bool) : D := .bool b
def small (n : Nat) : Bool := decide (n ≤ sizeLine)
/-- truth -/
def tru : D → Option Bool
  | .none => some false
  | .bool b => some b
  | .int i => some (i != 0)
  | .str x => if small x.length then some (x.length != 0) else none
  | .list xs => some !xs.isEmpty
  | .tuple xs => some !xs.isEmpty
  | .dict _ => none
def mulOk (i j : Int) : Bool := decide (i.natAbs.log2 + j.natAbs.log2 < 1000000) || decide (i.natAbs < 2 ^ 60) || decide (j.natAbs < 2 ^ 60)
def divOk (j : Int) : Bool := decide (0 < j) && decide (j.natAbs.log2 < 9000)
def powOk (i j : Int) : Bool := decide (0 ≤ j) && decide ((Builtin.Int.intBits i : Int) * j ≤ 2 ^ 27)
def oBin : Operator → D → D → Option D
  | .Add, .int i, .int j => some (.int (i + j))
  | .Add, .str x, .str y => if small (x.length + y.length) then some (.str (x ++ y)) else none
  | .Add, .tuple xs, .tuple ys => if small (xs.length + ys.length) then some (.tuple (xs ++ ys)) else none
  | .Add, .list xs, .list ys => if small (xs.length + ys.length) then some (.list (xs ++ ys)) else none
  | .Sub, .int i, .int j => some (.int (i - j))
  | .Mult, .int i, .int j => if mulOk i j then some (.int (i * j)) else none
  | .FloorDiv, .int i, .int j => if divOk j then some (.int (i / j)) else none
  | .Mod, .int i, .int j => if decide (0 < j) then some (.int (i % j)) else none
  | .Pow, .int i, .int j => if powOk i j then some (.int (i ^ j.toNat)) else none
  | _, _, _ => none
def isNone : D → Bool
  | .none => true
  | _ => false
def shp2 (x y : D) : Bool := SeqAt.shaped x && SeqAt.shaped y
/-- of two, which == may be asked -/
def pl2 (x y : D) : Bool := x.plain && y.plain && decide (min x.depth y.depth ≤ 64)
/-- which keys a dict may have: numbers and texts, or tuples of these -/
def keyOf : D → Option L2.Key
  | .int i => some (.inl i)
  | .str x => some (.inr x)
  | _ => none
def keysOf : List D → Option (List L2.Key)
  | [] => some []
  | d :: ds => match keyOf d, keysOf ds with
    | some k, some ks => some (k :: ks)
    | _, _ => none
def keyD : L2.Key → D
  | .inl i => .int i
  | .inr x => .str x
def kin : D → Nat
  | .int _ => 1
  | .str _ => 1
  | .tuple ds => if (keysOf ds).isSome then 2 else 0
  | _ => 0
/-- the key fits the dict: both of one kind -/
def kfit (kvs : List (D × D)) (k : D) : Bool := kin k != 0 && kvs.all fun p => kin p.1 == kin k
def dget (kvs : List (D × D)) (k : D) : Option D := (kvs.find? fun p => PyData.eqv p.1 k).map (·.2)
def dput (kvs : List (D × D)) (k v : D) : List (D × D) :=
  if kvs.any (fun p => PyData.eqv p.1 k) then kvs.map fun p => if PyData.eqv p.1 k then (p.1, v) else p else kvs ++ [(k, v)]
def dmerge (kvs more : List (D × D)) : List (D × D) := more.foldl (fun acc p => dput acc p.1 p.2) kvs
def lt1 (x y : D) : Option Bool :=
  match x, y with
  | .int i, .int j => some (decide (i < j))
  | _, _ => if W.alike x y && W.alike y x && !isNone x && !isNone y && shp2 x y then some (W.dataLt x y) else none
def oCmp : CmpOp → D → D → Option D
  | .Eq, x, y => if pl2 x y then some (dT (PyData.eqv x y)) else none
  | .NotEq, x, y => if pl2 x y then some (dT (!PyData.eqv x y)) else none
  | .Lt, x, y => (lt1 x y).map dT
  | .Gt, x, y => (lt1 y x).map dT
  | .LtE, x, y => (lt1 y x).map fun b => dT !b
  | .GtE, x, y => (lt1 x y).map fun b => dT !b
  | .Is, x, .none => some (dT (isNone x))
  | .IsNot, x, .none => some (dT (!isNone x))
  | .In, x, .list ys => if shp2 x (.list ys) then some (dT (ys.any fun z => PyData.eqv z x)) else none
  | .In, x, .tuple ys => if shp2 x (.tuple ys) then some (dT (ys.any fun z => PyData.eqv z x)) else none
  | .In, x, .dict kvs => if kfit kvs x then some (dT (dget kvs x).isSome) else none
  | .NotIn, x, .list ys => if shp2 x (.list ys) then some (dT (!ys.any fun z => PyData.eqv z x)) else none
  | .NotIn, x, .tuple ys => if shp2 x (.tuple ys) then some (dT (!ys.any fun z => PyData.eqv z x)) else none
  | .NotIn, x, .dict kvs => if kfit kvs x then some (dT (!(dget kvs x).isSome)) else none
  | _, _, _ => none
def oIdx : D → D → Option D
  | .list xs, .int k => L2.atI xs k
  | .tuple xs, .int k => L2.atI xs k
  | .dict kvs, k => if kfit kvs k then dget kvs k else none
  | _, _ => none
def part : List D → Option (Option Int)
  | [] => some none
  | [.int i] => some (some i)
  | _ => none
def cut (xs : List D) (lo hi : Option Int) : List D := (xs.drop (HT.sIx xs.length 0 lo)).take (HT.sIx xs.length xs.length hi - HT.sIx xs.length 0 lo)
def oSlc : D → Option Int → Option Int → Option D
  | .list xs, lo, hi => some (.list (cut xs lo hi))
  | .tuple xs, lo, hi => some (.tuple (cut xs lo hi))
  | _, _, _ => none
def oRev : D → Option D
  | .list xs => some (.list xs.reverse)
  | _ => none
inductive Ty where | int | bool | str | tuple | list | dict
  deriving DecidableEq
def oIs : D → Ty → Bool
  | .int _, .int => true
  | .bool _, .int => true
  | .bool _, .bool => true
  | .str _, .str => true
  | .tuple _, .tuple => true
  | .list _, .list => true
  | .dict _, .dict => true
  | _, _ => false
/-- ascending order, as sorted has it -/
def dle (a b : D) : Bool := !W.dataLt b a
def sortable (ds : List D) : Bool :=
  ds.all (fun x => ds.all fun y => W.alike x y) && (ds.all (fun x => match x with | .tuple _ => true | _ => false) || ds.all fun x => match x with | .tuple _ => false | .none => false | _ => true)
    && ds.all SeqAt.shaped
def oSort (ds : List D) : Option D := if sortable ds then some (.list (ds.mergeSort dle)) else none
/-- each once -/
def once : List D → List D → List D
  | _, [] => []
  | seen, d :: ds => if seen.any (fun z => PyData.eqv z d) then once seen ds else d :: once (seen ++ [d]) ds
def intsOf : List D → Option (List Int)
  | [] => some []
  | .int i :: ds => (intsOf ds).map (i :: ·)
  | _ => none
def bools : List D → Option (List Bool)
  | [] => some []
  | .bool b :: ds => (bools ds).map (b :: ·)
  | _ => none
def pairs : List D → Option (List (D × D))
  | [] => some []
  | .tuple [k, v] :: ds => (pairs ds).map ((k, v) :: ·)
  | _ => none
def onekind (kvs : List (D × D)) : Bool := kvs.all (fun p => kin p.1 == 1) || kvs.all fun p => kin p.1 == 2
/-! ### what may stand in a set: tuples of numbers, and of such tuples -/
mutual
def keyN : D → Option NestedKey
  | .int i => some (.num i)
  | .tuple ds => (keyNs ds).map .tup
  | _ => none
def keyNs : List D → Option (List NestedKey)
  | [] => some []
  | d :: ds => match keyN d, keyNs ds with
    | some k, some ks => some (k :: ks)
    | _, _ => none
end
def setKey (d : D) : Option NestedKey := match d with
  | .tuple ds => (keyN (.tuple ds)).bind fun k => if k.depth ≤ 8 then some k else none
  | _ => none
def setKeys : List D → Option (List NestedKey)
  | [] => some []
  | d :: ds => match setKey d, setKeys ds with
    | some k, some ks => some (k :: ks)
    | _, _ => none
inductive B1 where | len | tuple | list | sum | sorted | sortedSet | lenSet | dict | int | repr | str | abs | any | all | max | min
  deriving DecidableEq
def maxL : List Int → Option Int
  | [] => none
  | x :: xs => some (xs.foldl (fun m y => if y > m then y else m) x)
def minL : List Int → Option Int
  | [] => none
  | x :: xs => some (xs.foldl (fun m y => if y < m then y else m) x)
def items : D → Option (List D)
  | .list xs => some xs
  | .tuple xs => some xs
  | _ => none
def oB : B1 → List D → Option D
  | .len, [.list xs] => some (.int xs.length)
  | .len, [.tuple xs] => some (.int xs.length)
  | .len, [.dict kvs] => some (.int kvs.length)
  | .len, [.str x] => if small x.length then some (.int x.length) else none
  | .tuple, [.list xs] => some (.tuple xs)
  | .tuple, [.tuple xs] => some (.tuple xs)
  | .list, [.list xs] => some (.list xs)
  | .list, [.tuple xs] => some (.list xs)
  | .list, [.dict kvs] => some (.list (kvs.map (·.1)))
  | .sum, [.list xs] => (intsOf xs).map fun ns => .int ns.sum
  | .sum, [.tuple xs] => (intsOf xs).map fun ns => .int ns.sum
  | .sorted, [.list xs] => oSort xs
  | .sorted, [.tuple xs] => oSort xs
  | .sorted, [.dict kvs] => oSort (kvs.map (·.1))
  | .sortedSet, [.list xs] => (match intsOf xs with
    | some ns => if decide (ns.length < 4000) then oSort (once [] xs) else none
    | none => match setKeys xs with
      | some ks => if decide (ks.length < 64) then oSort (once [] xs) else none
      | none => none)
  | .lenSet, [.list xs] => (match setKeys xs with
    | some ks => if decide (ks.length < 64) then some (.int (once [] xs).length) else none
    | none => none)
  | .dict, [.list ps] => (pairs ps).bind fun kvs => if onekind kvs then some (.dict (dmerge [] kvs)) else none
  | .int, [.int i] => some (.int i)
  | .int, [.bool b] => some (.int (if b then 1 else 0))
  | .repr, [d] => if d.showable && small d.shown.length && decide (d.depth ≤ 100) && !d.hasDict then some (.str d.shown) else none
  | .str, [.int i] => if decide (i.natAbs.log2 < 1920) then some (.str (toString i)) else none
  | .abs, [.int i] => some (.int (if i < 0 then -i else i))
  | .any, [.list xs] => (bools xs).map fun bs => .bool (bs.any id)
  | .all, [.list xs] => (bools xs).map fun bs => .bool (bs.all id)
  | .max, [.list xs] => ((intsOf xs).bind maxL).map .int
  | .min, [.list xs] => ((intsOf xs).bind minL).map .int
  | .max, [.int i, .int j] => some (.int (if j > i then j else i))
  | .min, [.int i, .int j] => some (.int (if j < i then j else i))
  | _, _ => none
/-- what a for walks -/
inductive Src where | it | rng1 | rng2 | enum | zip
  deriving DecidableEq
def rngOk (i : Int) : Bool := decide (-(2 ^ 62) ≤ i) && decide (i < 2 ^ 62)
def upTo (lo : Int) (n : Nat) : List D := (List.range n).map fun i => .int (lo + (i : Nat))
def walk : Src → List D → Option (List D)
  | .it, [.list xs] => some xs
  | .it, [.tuple xs] => some xs
  | .rng1, [.int j] => if rngOk j then some (upTo 0 j.toNat) else none
  | .rng2, [.int i, .int j] => if rngOk i && rngOk j then some (upTo i (j - i).toNat) else none
  | .enum, [d] => (items d).map fun xs => (List.range xs.length).zipWith (fun i x => .tuple [.int (i : Nat), x]) xs
  | .zip, [d, e] => (items d).bind fun xs => (items e).map fun ys => xs.zipWith (fun x y => .tuple [x, y]) ys
  | _, _ => none

/-! ### the language -/
inductive Tg where
  | v (i : Nat)
  | t (ts : List Tg)
inductive Ex where
  | var (i : Nat)
  | cst (d : PyData)
  | glob (x : Str) (d : PyData)
  | tup (es : List Ex)
  | lst (es : List Ex)
  | dic
  | bin (o : Operator) (a b : Ex)
  | cmp (o : CmpOp) (a b : Ex)
  | chn (a b c : Ex) (o o' : CmpOp)
  | band (a b : Ex)
  | bor (a b : Ex)
  | not (a : Ex)
  | neg (a : Ex)
  | ite (c a b : Ex)
  | call (f : Nat) (es : List Ex)
  | blt (b : B1) (a : Ex)
  | blt2 (b : B1) (a a2 : Ex)
  | isi (a : Ex) (t : Ty)
  | idx (a i : Ex)
  | slc (a : Ex) (lo hi : List Ex)
  | rev (a : Ex)
  | pop (i : Nat)
  | get (a k : Ex)
  | get2 (a k x : Ex)
  | index (a k : Ex)
  | comp (own : List Nat) (tg : Tg) (s : Src) (it : List Ex) (elt : Ex)
  | compIf (own : List Nat) (tg : Tg) (s : Src) (it : List Ex) (cond elt : Ex)
/-- assignment to a target: plain values -/
def putV (i : Nat) (s : Sl) (env : Env) : Option Env :=
  match env[i]? with
  | some (some (.io _)) => none
  | some _ => some (env.set i (some s))
  | none => none
mutual
def asg : Tg → D → Env → Option Env
  | .v i, d, env => putV i (.val d) env
  | .t ts, .tuple ds, env => asgs ts ds env
  | .t _, _, _ => none
def asgs : List Tg → List D → Env → Option Env
  | [], [], env => some env
  | t :: ts, d :: ds, env => (asg t d env).bind (asgs ts ds)
  | _, _, _ => none
end
/-- a slot read as a value: what was own stands still from then on -/
def frz (i : Nat) (env : Env) : Rs D :=
  match env[i]? with
  | some (some (.val d)) => .ok d env
  | some (some (.own d)) => .ok d (env.set i (some (.val d)))
  | _ => .no
/-- a slot looked at -/
def rd (i : Nat) (env : Env) : Option D :=
  match env[i]? with
  | some (some s) => some s.d
  | _ => none
def Ex.var? : Ex → Option Nat
  | .var i => some i
  | _ => none
/-- a call's end: the value and the changed parameters -/
inductive Co where
  | no
  | ret (d : D) (outs : List D)
  | exn (x : Exn) (outs : List D)
/-- an argument that a def got: a value, a slot that it may change, a new list or dict that it may change -/
inductive Ar where
  | v (d : D)
  | s (i : Nat)
  | t (d : D)
def argD (env : Env) : Ar → Option D
  | .v d => some d
  | .s i => match env[i]? with
    | some (some (.own d)) => some d
    | some (some (.io d)) => some d
    | _ => none
  | .t d => some d
def argDs (env : Env) : List Ar → Option (List D)
  | [] => some []
  | a :: as => (argD env a).bind fun d => (argDs env as).map (d :: ·)
def upSl (d : D) : Sl → Option Sl
  | .own _ => some (.own d)
  | .io _ => some (.io d)
  | .val _ => none
/-- the changed parameters, laid back -/
def lay : List Ar → List D → Env → Option Env
  | [], [], env => some env
  | .v _ :: as, ds, env => lay as ds env
  | .t _ :: as, _ :: ds, env => lay as ds env
  | .s i :: as, d :: ds, env => match env[i]? with
    | some (some s) => (upSl d s).bind fun s' => lay as ds (env.set i (some s'))
    | _ => none
  | _, _, _ => none
/-- no slot twice -/
def slotsOf : List Ar → List Nat
  | [] => []
  | .s i :: as => i :: slotsOf as
  | _ :: as => slotsOf as
/-- a def: how many parameters, which of them it may change, how many names -/
structure Sig where
  np : Nat
  io : List Bool
structure Cal where
  sig : Nat → Option Sig
  run : Nat → List D → Co
  /-- whether its answer is a new list that nobody else has -/
  nw : Nat → Bool
def outOf (ars : List Ar) (env : Env) : Co → Rs D
  | .no => .no
  | .ret d outs => match lay ars outs env with
    | some env' => .ok d env'
    | none => .no
  | .exn x outs => match lay ars outs env with
    | some env' => .ex x env'
    | none => .no
def runC (c : Cal) (f : Nat) (ars : List Ar) (env : Env) : Rs D :=
  if (slotsOf ars).Nodup then
    match argDs env ars with
    | some ds => outOf ars env (c.run f ds)
    | none => .no
  else .no
/-- the slots of a comprehension's own names, forgotten within, as they were behind -/
def hide (own : List Nat) (env : Env) : Option Env :=
  match own with
  | [] => some env
  | i :: r => (hide r env).bind fun e => match e[i]? with
    | some none => some e
    | some (some (.val _)) => some (e.set i none)
    | _ => none
def unhide (own : List Nat) (old : Env) (env : Env) : Env :=
  match own with
  | [] => env
  | i :: r => match old[i]? with
    | some s => (unhide r old env).set i s
    | none => unhide r old env
/-- one turn after another -/
def turns (f : D → Env → Rs (Option D)) : List D → Env → Rs (List D)
  | [], env => .ok [] env
  | d :: ds, env => match f d env with
    | .ok o e1 => match turns f ds e1 with
      | .ok r e2 => .ok (o.toList ++ r) e2
      | _ => .no
    | _ => .no
def isLD : D → Bool
  | .list _ => true
  | .dict _ => true
  | _ => false
/-- a value that stands still -/
def valOf (r : Rs (Bool × D)) : Rs D := r.bind fun p e => .ok p.2 e
/-- looked at alone, where it is a name -/
def brw (a : Ex) (f : Env → Rs (Bool × D)) (env : Env) : Rs D :=
  match a.var? with
  | some i => Rs.of (rd i env) env
  | none => valOf (f env)
/-- two, the first looked at alone (behind the second) where it is a name -/
def two (a : Ex) (fa : Env → Rs (Bool × D)) (b : Ex) (fb : Env → Rs (Bool × D)) (env : Env) : Rs (D × D) :=
  match a.var? with
  | some i => (Rs.of (rd i env) env).bind fun _ e0 => (brw b fb e0).bind fun y e => Rs.of ((rd i e).map fun x => (x, y)) e
  | none => (valOf (fa env)).bind fun x e1 => (brw b fb e1).bind fun y e => .ok (x, y) e
/-- the answer of an operation: a list or dict is new -/
def nw (o : Option D) (e : Env) : Rs (Bool × D) := Rs.of (o.map fun d => (isLD d, d)) e
/-- .. is no new one -/
def ol (o : Option D) (e : Env) : Rs (Bool × D) := Rs.of (o.map fun d => (false, d)) e
/-- a turn's end within a comprehension -/
def turnEnd (own : List Nat) (y : Option D) (e : Env) : Rs (Option D) :=
  match hide own e with
  | some e' => .ok y e'
  | none => .no
/-- a turn of a comprehension -/
def cTurn (own : List Nat) (tg : Tg) (body : Env → Rs (Option D)) (x : D) (e : Env) : Rs (Option D) :=
  match asg tg x e with
  | some e1 => (body e1).bind (turnEnd own)
  | none => .no
/-- .. without a test -/
def bodyOf (elt : Env → Rs (Bool × D)) (e : Env) : Rs (Option D) := (valOf (elt e)).bind fun y e2 => .ok (some y) e2
/-- .. with a test -/
def bodyIf (t : Env → Rs D) (elt : Env → Rs (Bool × D)) (e : Env) : Rs (Option D) :=
  (t e).bind fun b e2 => match tru b with
    | some true => (valOf (elt e2)).bind fun y e3 => .ok (some y) e3
    | some false => .ok none e2
    | none => .no
def runComp (own : List Nat) (f : D → Env → Rs (Option D)) (o : Option (List D)) (e : Env) : Rs (Bool × D) :=
  match o, hide own e with
  | some xs, some e1 => (turns f xs e1).bind fun ys e9 => if small ys.length then .ok (true, .list ys) (unhide own e e9) else .no
  | _, _ => .no
def dgetOr (x k : D) (df : D) : Option D :=
  match x with
  | .dict kvs => if kfit kvs k then some ((dget kvs k).getD df) else none
  | _ => none
def oIndex (x k : D) : Option D :=
  match x with
  | .list xs => if shp2 (.list xs) k && !(PyData.list xs).hasDict && !k.hasDict then (xs.findIdx? fun z => PyData.eqv z k).map fun j => .int (j : Nat) else none
  | _ => none
def neg1 : D → Option D
  | .int i => some (.int (-i))
  | _ => none
def popAt (i : Nat) (env : Env) : Rs (Bool × D) :=
  match env[i]? with
  | some (some (.own (.list xs))) => match xs.getLast? with
    | some d => .ok (false, d) (env.set i (some (.own (.list xs.dropLast))))
    | none => .no
  | _ => .no
/-- a slice's bound -/
def prt (r : Rs (List D)) : Rs (Option Int) := r.bind fun ds e => Rs.of (part ds) e
def isDc : D → Bool
  | .dict _ => true
  | _ => false
def isLs : D → Bool
  | .list _ => true
  | _ => false
/-- a method's receiver: a name is looked at again behind the arguments -/
def recv (p : D → Bool) (a : Ex) (fa : Env → Rs (Bool × D)) (env : Env) : Rs (Option D) :=
  match a.var? with
  | some i => (Rs.of (rd i env) env).bind fun d e => if p d then .ok none e else .no
  | none => (valOf (fa env)).bind fun x e => if p x then .ok (some x) e else .no
def later (a : Ex) (o : Option D) (e : Env) : Option D :=
  match o with
  | some x => some x
  | none => a.var?.bind fun i => rd i e
mutual
/-- an expression: whether its value is a new list or dict, and the value -/
def ev (c : Cal) : Ex → Env → Rs (Bool × D)
  | .var i, env => (frz i env).bind fun d e => .ok (false, d) e
  | .cst d, env => .ok (false, d) env
  | .glob _ d, env => .ok (false, d) env
  | .tup es, env => (evs c es env).bind fun ds e => if small ds.length then .ok (false, .tuple ds) e else .no
  | .lst es, env => (evs c es env).bind fun ds e => if small ds.length then .ok (true, .list ds) e else .no
  | .dic, env => .ok (true, .dict []) env
  | .bin o a b, env => (two a (ev c a) b (ev c b) env).bind fun p e => nw (oBin o p.1 p.2) e
  | .cmp o a b, env => (two a (ev c a) b (ev c b) env).bind fun p e => ol (oCmp o p.1 p.2) e
  | .chn a b z o o', env => (valOf (ev c a env)).bind fun x e1 => (valOf (ev c b e1)).bind fun y e2 =>
      match oCmp o x y with
      | some (.bool true) => (valOf (ev c z e2)).bind fun w e3 => ol (oCmp o' y w) e3
      | some (.bool false) => .ok (false, .bool false) e2
      | _ => .no
  | .band a b, env => (valOf (ev c a env)).bind fun x e => match tru x with
      | some true => (valOf (ev c b e)).bind fun d e2 => .ok (false, d) e2
      | some false => .ok (false, x) e
      | none => .no
  | .bor a b, env => (valOf (ev c a env)).bind fun x e => match tru x with
      | some true => .ok (false, x) e
      | some false => (valOf (ev c b e)).bind fun d e2 => .ok (false, d) e2
      | none => .no
  | .not a, env => (brw a (ev c a) env).bind fun x e => ol ((tru x).map fun b => dT !b) e
  | .neg a, env => (valOf (ev c a env)).bind fun x e => ol (neg1 x) e
  | .ite t a b, env => (brw t (ev c t) env).bind fun x e => match tru x with
      | some true => ev c a e
      | some false => ev c b e
      | none => .no
  | .call f es, env => match c.sig f with
      | some g => (evArs c g.io es env).bind fun ars e => if ars.length = g.np then (runC c f ars e).bind fun d e2 => .ok (c.nw f, d) e2 else .no
      | none => .no
  | .blt b a, env => (brw a (ev c a) env).bind fun x e => nw (oB b [x]) e
  | .blt2 b a a2, env => (two a (ev c a) a2 (ev c a2) env).bind fun p e => nw (oB b [p.1, p.2]) e
  | .isi a t, env => (brw a (ev c a) env).bind fun x e => .ok (false, dT (oIs x t)) e
  | .idx a i, env => (two a (ev c a) i (ev c i) env).bind fun p e => ol (oIdx p.1 p.2) e
  | .slc a lo hi, env => (valOf (ev c a env)).bind fun x e => (prt (evs c lo e)).bind fun l e2 => (prt (evs c hi e2)).bind fun h e3 => nw (oSlc x l h) e3
  | .rev a, env => (brw a (ev c a) env).bind fun x e => nw (oRev x) e
  | .pop i, env => popAt i env
  | .get a k, env => (recv isDc a (ev c a) env).bind fun o e1 => (brw k (ev c k) e1).bind fun kd e2 => ol ((later a o e2).bind fun x => dgetOr x kd .none) e2
  | .get2 a k z, env => (recv isDc a (ev c a) env).bind fun o e1 => (valOf (ev c k e1)).bind fun kd e2 => (valOf (ev c z e2)).bind fun zd e3 => ol ((later a o e3).bind fun x => dgetOr x kd zd) e3
  | .index a k, env => (recv isLs a (ev c a) env).bind fun o e1 => (brw k (ev c k) e1).bind fun kd e2 => ol ((later a o e2).bind fun x => oIndex x kd) e2
  | .comp own tg s it elt, env => (evs c it env).bind fun ws e => runComp own (cTurn own tg (bodyOf (ev c elt))) (walk s ws) e
  | .compIf own tg s it cond elt, env => (evs c it env).bind fun ws e => runComp own (cTurn own tg (bodyIf (brw cond (ev c cond)) (ev c elt))) (walk s ws) e
def evs (c : Cal) : List Ex → Env → Rs (List D)
  | [], env => .ok [] env
  | e :: es, env => (valOf (ev c e env)).bind fun d e1 => (evs c es e1).bind fun ds e2 => .ok (d :: ds) e2
def evArs (c : Cal) : List Bool → List Ex → Env → Rs (List Ar)
  | _, [], env => .ok [] env
  | io, e :: es, env => (match io.headD false, e.var? with
      | true, some i => (Rs.of (rd i env) env).bind fun _ e0 => (evArs c io.tail es e0).bind fun as e2 => .ok (.s i :: as) e2
      | true, none => (ev c e env).bind fun p e1 => if p.1 then (evArs c io.tail es e1).bind fun as e2 => .ok (.t p.2 :: as) e2 else .no
      | false, _ => (valOf (ev c e env)).bind fun d e1 => (evArs c io.tail es e1).bind fun as e2 => .ok (.v d :: as) e2)
end

/-! ### statements -/
inductive Sm where
  | set (i : Nat) (e : Ex)
  | par (is : List Nat) (es : List Ex)
  | unp (tg : Tg) (e : Ex)
  | put (i : Nat) (k e : Ex)
  | app (i : Nat) (e : Ex)
  | ext (i : Nat) (e : Ex)
  | expr (e : Ex)
  | ret (e : Ex)
  | ite (c : Ex) (a b : List Sm)
  | whl (c : Ex) (b : List Sm)
  | for_ (tg : Tg) (s : Src) (it : List Ex) (b : List Sm)
  | forK (tg : Tg) (i : Nat) (b : List Sm)
  | pass
  | raise (x : Nat) (e : Ex)
  | try_ (b : List Sm) (x : Nat) (i : Nat) (h : List Sm)
inductive Ou where
  | no
  | nx (e : Env)
  | rt (d : D) (e : Env)
  | ex (x : Exn) (e : Env)
def Rs.ou {α : Type} (r : Rs α) (f : α → Env → Ou) : Ou :=
  match r with
  | .no => .no
  | .ok a e => f a e
  | .ex x e => .ex x e
def Ou.nxt (o : Ou) (f : Env → Ou) : Ou :=
  match o with
  | .nx e => f e
  | o => o
/-- where no exception is reckoned with -/
def Ou.noX : Ou → Ou
  | .ex _ _ => .no
  | o => o
def nxO (o : Option Env) : Ou :=
  match o with
  | some e => .nx e
  | none => .no
/-- a new list or dict stays the slot's own -/
def slOf (p : Bool × D) : Sl := if p.1 then .own p.2 else .val p.2
def loop (f : D → Env → Ou) : List D → Env → Ou
  | [], env => .nx env
  | d :: ds, env => (f d env).nxt (loop f ds)
/-- n turns of a while at most -/
def iter (t : Env → Rs D) (f : Env → Ou) : Nat → Env → Ou
  | 0, _ => .no
  | n + 1, env => (t env).ou fun x e => match tru x with
    | some true => (f e).nxt (iter t f n)
    | some false => .nx e
    | none => .no
def Ou.isNo : Ou → Bool
  | .no => true
  | _ => false
open Classical in
/-- a while: as many turns as it takes -/
noncomputable def whil (t : Env → Rs D) (f : Env → Ou) (env : Env) : Ou :=
  if h : ∃ n, (iter t f n env).isNo = false then iter t f (Classical.choose h) env else .no
def putIx (x k v : D) : Option D :=
  match x, k with
  | .list xs, .int k => (L2.ixN xs.length k).map fun j => .list (xs.set j v)
  | .dict kvs, k => if kfit kvs k && small (kvs.length + 1) then some (.dict (dput kvs k v)) else none
  | _, _ => none
def chg (i : Nat) (f : D → Option D) (env : Env) : Ou :=
  match env[i]? with
  | some (some s) => match (f s.d).bind fun d => upSl d s with
    | some s' => .nx (env.set i (some s'))
    | none => .no
  | _ => .no
def app1 (d : D) : D → Option D
  | .list xs => if small (xs.length + 1) then some (.list (xs ++ [d])) else none
  | _ => none
def ext1 (d : D) : D → Option D
  | .list xs => match d with
    | .list ys => if small (xs.length + ys.length) then some (.list (xs ++ ys)) else none
    | _ => none
  | _ => none
def evL (c : Cal) : List Ex → Env → Rs (List (Bool × D))
  | [], env => .ok [] env
  | e :: es, env => (ev c e env).bind fun p e1 => (evL c es e1).bind fun ps e2 => .ok (p :: ps) e2
def putL : List Nat → List (Bool × D) → Env → Option Env
  | [], [], env => some env
  | i :: is, p :: ps, env => (putV i (slOf p) env).bind (putL is ps)
  | _, _, _ => none
/-- what a raised exception is told by: its class's number, and its fields -/
structure Xs where
  made : Nat → D → Option Exn
  fits : Nat → Nat → Bool
mutual
noncomputable def ex1 (c : Cal) : Sm → Env → Ou
  | .set i e, env => (ev c e env).ou fun p e1 => nxO (putV i (slOf p) e1)
  | .par is es, env => (evL c es env).ou fun ps e1 => nxO (putL is ps e1)
  | .unp tg e, env => (valOf (ev c e env)).ou fun d e1 => nxO (asg tg d e1)
  | .put i k e, env => (valOf (ev c e env)).ou fun v e1 => (recv (fun _ => true) (.var i) (ev c (.var i)) e1).ou fun _ e2 => (valOf (ev c k e2)).ou fun kd e3 => chg i (fun x => putIx x kd v) e3
  | .app i e, env => (recv isLs (.var i) (ev c (.var i)) env).ou fun _ e0 => (valOf (ev c e e0)).ou fun v e1 => chg i (app1 v) e1
  | .ext i e, env => (recv isLs (.var i) (ev c (.var i)) env).ou fun _ e0 => (valOf (ev c e e0)).ou fun v e1 => chg i (ext1 v) e1
  | .expr e, env => (valOf (ev c e env)).ou fun _ e1 => .nx e1
  | .ret e, env => (valOf (ev c e env)).ou fun d e1 => .rt d e1
  | .ite t a b, env => (brw t (ev c t) env).ou fun x e1 => match tru x with
      | some true => exs c a e1
      | some false => exs c b e1
      | none => .no
  | .whl t b, env => whil (brw t (ev c t)) (exs c b) env
  | .for_ tg s it b, env => (evs c it env).ou fun ws e1 => match walk s ws with
      | some xs => loop (fun x e2 => match asg tg x e2 with
          | some e3 => exs c b e3
          | none => .no) xs e1
      | none => .no
  | .forK tg i b, env => (frz i env).ou fun d e1 => match d with
      | .dict kvs => (loop (fun x e2 => match asg tg x e2 with
          | some e3 => exs c b e3
          | none => .no) (kvs.map (·.1)) e1).noX
      | _ => .no
  | .pass, env => .nx env
  | .raise _ _, _ => .no
  | .try_ _ _ _ _, _ => .no
noncomputable def exs (c : Cal) : List Sm → Env → Ou
  | [], env => .nx env
  | s :: ss, env => (ex1 c s env).nxt (exs c ss)
end
/-- a def of the text -/
structure Fn where
  np : Nat
  nn : Nat
  io : List Bool
  body : List Sm
/-- a def that makes a list and tells it, and no more -/
def Fn.nw (g : Fn) : Bool := g.io.isEmpty && match g.body with
  | [.ret (.lst _)] => true
  | _ => false
def nwAt (fs : List Fn) (i : Nat) : Bool := match fs[i]? with
  | some g => g.nw
  | none => false
def entry (n : Nat) : List Bool → List D → Env
  | _, [] => List.replicate n none
  | io, d :: ds => some (if io.headD false then Sl.io d else Sl.val d) :: entry n io.tail ds
/-- the parameters that may have been changed, at the end -/
def outs : Nat → List Bool → Env → Option (List D)
  | 0, _, _ => some []
  | _ + 1, _, [] => none
  | n + 1, io, s :: env => if io.headD false then (match s with
      | some (.io d) => (outs n io.tail env).map (d :: ·)
      | _ => none) else outs n io.tail env
def finR (d : D) : Option (List D) → Co
  | some l => .ret d l
  | none => .no
def finX (x : Exn) : Option (List D) → Co
  | some l => .exn x l
  | none => .no
def fin (f : Fn) : Ou → Co
  | .no => .no
  | .nx e => finR .none (outs f.np f.io e)
  | .rt d e => finR d (outs f.np f.io e)
  | .ex x e => finX x (outs f.np f.io e)
/-- the defs of a text, called to a depth -/
noncomputable def run (fs : List Fn) : Nat → Nat → List D → Co
  | 0, _, _ => .no
  | k + 1, f, ds => match fs[f]? with
    | some g => if ds.length = g.np then fin g (exs ⟨fun i => fs[i]?.map fun h => ⟨h.np, h.io⟩, run fs k, nwAt fs⟩ g.body (entry (g.nn - g.np) g.io ds)) else .no
    | none => .no
end Rv
end
section
/-! Rv, part 2: how slots and data lie in the abstract heap. -/
namespace Rv
open PySem PySem.Spec PyProof.Rows L2

/-- a list: tracked, known, or (the script alone) one of the written part, to the object -/
def LsX (K : PySem.W.Frag) (G : Hp) (a : Addr) (xs : List V) : Prop :=
  Rd G a (.lst xs) ∨ ∃ (its : Array Value) (n : Nat), K.lookup a = some ({ cls := .type "list", data := .seq its n } : Obj) ∧ its.size ≤ sizeLine ∧ Vals xs its.toList
theorem LsX.of {K : PySem.W.Frag} {G : Hp} {a : Addr} {xs : List V} (h : G a = some (.lst xs)) : LsX K G a xs := .inl (.inl h)
theorem LsX.seq {K : PySem.W.Frag} {G : Hp} {a : Addr} {xs : List V} (h : LsX K G a xs) : SqL K G a xs := by
  rcases h with h | ⟨its, n, h1, h2, h3⟩
  · exact .inl h
  · exact .inr ⟨_, its, n, h1, rfl, rfl, rfl, h2, h3⟩
theorem lsx_at {X : Cx} {pins : List (Addr × Obj)} {σ : L2.St} {H : Hp} {s : Shared} {a : Addr} {xs : List V} (I : Inv X pins σ H s) (h : LsX X.K H a xs) :
    xs.length ≤ sizeLine ∧ ∃ (its : List Value) (n : Nat), Vals xs its ∧ xs.length = its.length ∧ s.heap.get? a = some { cls := .type "list", data := .seq its.toArray n } := by
  rcases h with h | ⟨its, n, h1, h2, h3⟩
  · obtain ⟨z, its, n, r, e⟩ := h.ok I.hok
    exact ⟨z, its, n, r, r.length, e⟩
  · refine ⟨?_, its.toList, n, h3, h3.length, ?_⟩
    · have := h3.length
      simp only [Array.length_toList] at this
      omega
    · have := I.kIn a _ h1
      simpa using this

/-- a dict: tracked, or known and not empty (a dict that is walked) -/
def notE : HO → Prop
  | .dK kvs => kvs ≠ []
  | .dT kvs => kvs ≠ []
  | _ => False
def RdN (G : Hp) (a : Addr) (u : HO) : Prop := G a = some u ∨ (notE u ∧ ∃ o, G a = some (.frz o u))
theorem RdN.rd {G : Hp} {a : Addr} {u : HO} (h : RdN G a u) : Rd G a u := h.elim .inl fun h => .inr h.2

/-! ### data in a heap that stands still -/
mutual
inductive Dr (K : PySem.W.Frag) (G : Hp) : V → PyData → Prop
  | non : Dr K G .non .none
  | bl (b : Bool) : Dr K G (.bl b) (.bool b)
  | int (i : Int) : Dr K G (.int i) (.int i)
  | str (x : Str) : Dr K G (.str x) (.str x)
  | lst {a : Addr} {xs : List V} {ds : List PyData} (h : LsX K G a xs) (k : DrA K G xs ds) : Dr K G (.ref a) (.list ds)
  | tup {a : Addr} {xs : List V} {ds : List PyData} (h : G a = some (.tup xs)) (k : DrA K G xs ds) : Dr K G (.ref a) (.tuple ds)
  | dk {a : Addr} {kvs : List (Key × V)} {ds : List (PyData × PyData)} (h : RdN G a (.dK kvs)) (k : DrK K G kvs ds) : Dr K G (.ref a) (.dict ds)
  | dt {a : Addr} {kvs : List (List Key × V)} {ds : List (PyData × PyData)} (h : RdN G a (.dT kvs)) (k : DrT K G kvs ds) : Dr K G (.ref a) (.dict ds)
inductive DrA (K : PySem.W.Frag) (G : Hp) : List V → List PyData → Prop
  | nil : DrA K G [] []
  | cons {v : V} {vs : List V} {d : PyData} {ds : List PyData} (h : Dr K G v d) (k : DrA K G vs ds) : DrA K G (v :: vs) (d :: ds)
inductive DrK (K : PySem.W.Frag) (G : Hp) : List (Key × V) → List (PyData × PyData) → Prop
  | nil : DrK K G [] []
  | cons {x : Key} {v : V} {vs : List (Key × V)} {d : PyData} {ds : List (PyData × PyData)} (h : Dr K G v d) (k : DrK K G vs ds) : DrK K G ((x, v) :: vs) ((keyD x, d) :: ds)
inductive DrT (K : PySem.W.Frag) (G : Hp) : List (List Key × V) → List (PyData × PyData) → Prop
  | nil : DrT K G [] []
  | cons {x : List Key} {v : V} {vs : List (List Key × V)} {d : PyData} {ds : List (PyData × PyData)} (h : Dr K G v d) (k : DrT K G vs ds) : DrT K G ((x, v) :: vs) ((.tuple (x.map keyD), d) :: ds)
end

/-- all that data lean on is there again -/
def nofr : HO → Prop
  | .frz _ _ => False
  | _ => True
structure Mo (G G' : Hp) : Prop where
  t : ∀ a xs, G a = some (.tup xs) → G' a = some (.tup xs)
  r : ∀ a u, nofr u → Rd G a u → Rd G' a u
  n : ∀ a u, nofr u → RdN G a u → RdN G' a u
theorem Mo.of {G G' : Hp} (s : Same G G') : Mo G G' :=
  ⟨fun a xs h => s a _ h, fun a u _ h => h.elim (fun h => .inl (s _ _ h)) fun ⟨o, h⟩ => .inr ⟨o, s _ _ h⟩, fun a u _ h => h.elim (fun h => .inl (s _ _ h)) fun ⟨n, o, h⟩ => .inr ⟨n, o, s _ _ h⟩⟩
theorem Mo.seq {K : PySem.W.Frag} {G G' : Hp} (m : Mo G G') {a : Addr} {xs : List V} (h : LsX K G a xs) : LsX K G' a xs :=
  h.elim (fun h => .inl (m.r _ _ True.intro h)) .inr
section
variable {K : PySem.W.Frag} {G G' : Hp}
mutual
theorem Dr.mono (m : Mo G G') : ∀ {v : V} (d : PyData), Dr K G v d → Dr K G' v d
  | _, .none, .non => .non
  | _, .bool _, .bl b => .bl b
  | _, .int _, .int i => .int i
  | _, .str _, .str x => .str x
  | _, .list ds, .lst h k => .lst (m.seq h) (DrA.mono m ds k)
  | _, .tuple ds, .tup h k => .tup (m.t _ _ h) (DrA.mono m ds k)
  | _, .dict ds, .dk h k => .dk (m.n _ _ True.intro h) (DrK.mono m ds k)
  | _, .dict ds, .dt h k => .dt (m.n _ _ True.intro h) (DrT.mono m ds k)
theorem DrA.mono (m : Mo G G') : ∀ {vs : List V} (ds : List PyData), DrA K G vs ds → DrA K G' vs ds
  | _, [], .nil => .nil
  | _, d :: ds, .cons h k => .cons (Dr.mono m d h) (DrA.mono m ds k)
theorem DrK.mono (m : Mo G G') : ∀ {vs : List (Key × V)} (ds : List (PyData × PyData)), DrK K G vs ds → DrK K G' vs ds
  | _, [], .nil => .nil
  | _, (_, d) :: ds, .cons h k => .cons (Dr.mono m d h) (DrK.mono m ds k)
theorem DrT.mono (m : Mo G G') : ∀ {vs : List (List Key × V)} (ds : List (PyData × PyData)), DrT K G vs ds → DrT K G' vs ds
  | _, [], .nil => .nil
  | _, (_, d) :: ds, .cons h k => .cons (Dr.mono m d h) (DrT.mono m ds k)
end
theorem DrA.length : ∀ {vs : List V} {ds : List PyData}, DrA K G vs ds → vs.length = ds.length
  | _, _, .nil => rfl
  | _, _, .cons _ k => congrArg (· + 1) (DrA.length k)
theorem DrK.length : ∀ {vs : List (Key × V)} {ds : List (PyData × PyData)}, DrK K G vs ds → vs.length = ds.length
  | _, _, .nil => rfl
  | _, _, .cons _ k => congrArg (· + 1) (DrK.length k)
theorem DrT.length : ∀ {vs : List (List Key × V)} {ds : List (PyData × PyData)}, DrT K G vs ds → vs.length = ds.length
  | _, _, .nil => rfl
  | _, _, .cons _ k => congrArg (· + 1) (DrT.length k)
theorem DrA.append : ∀ {vs ws : List V} {ds es : List PyData}, DrA K G vs ds → DrA K G ws es → DrA K G (vs ++ ws) (ds ++ es)
  | _, _, _, _, .nil, h => h
  | _, _, _, _, .cons a k, h => .cons a (k.append h)
theorem DrA.get : ∀ {vs : List V} {ds : List PyData} {i : Nat} {d : PyData}, DrA K G vs ds → ds[i]? = some d → ∃ v, vs[i]? = some v ∧ Dr K G v d
  | _, _, _, _, .nil, h => by simp at h
  | _, _, 0, _, .cons a k, h => by simp at h; subst h; exact ⟨_, rfl, a⟩
  | _, _, i + 1, _, .cons a k, h => by
    obtain ⟨v, h1, h2⟩ := DrA.get (i := i) k (by simpa using h)
    exact ⟨v, by simpa using h1, h2⟩
theorem DrA.getV : ∀ {vs : List V} {ds : List PyData} {i : Nat} {v : V}, DrA K G vs ds → vs[i]? = some v → ∃ d, ds[i]? = some d ∧ Dr K G v d
  | _, _, _, _, .nil, h => by simp at h
  | _, _, 0, _, .cons a k, h => by simp at h; subst h; exact ⟨_, rfl, a⟩
  | _, _, i + 1, _, .cons a k, h => by
    obtain ⟨v, h1, h2⟩ := DrA.getV (i := i) k (by simpa using h)
    exact ⟨v, by simpa using h1, h2⟩
theorem DrA.take : ∀ {vs : List V} {ds : List PyData} (n : Nat), DrA K G vs ds → DrA K G (vs.take n) (ds.take n)
  | _, _, 0, _ => .nil
  | _, _, _ + 1, .nil => .nil
  | _, _, n + 1, .cons a k => .cons a (k.take n)
theorem DrA.drop : ∀ {vs : List V} {ds : List PyData} (n : Nat), DrA K G vs ds → DrA K G (vs.drop n) (ds.drop n)
  | _, _, 0, h => h
  | _, _, _ + 1, .nil => .nil
  | _, _, n + 1, .cons _ k => k.drop n
theorem DrA.reverse : ∀ {vs : List V} {ds : List PyData}, DrA K G vs ds → DrA K G vs.reverse ds.reverse
  | _, _, .nil => .nil
  | _, _, .cons a k => by
    rw [List.reverse_cons, List.reverse_cons]
    exact k.reverse.append (.cons a .nil)
theorem DrA.dropLast {vs : List V} {ds : List PyData} (h : DrA K G vs ds) : DrA K G vs.dropLast ds.dropLast := by
  rw [List.dropLast_eq_take, List.dropLast_eq_take, h.length]
  exact h.take _
theorem DrA.set : ∀ {vs : List V} {ds : List PyData} {v : V} {d : PyData} (i : Nat), DrA K G vs ds → Dr K G v d → DrA K G (vs.set i v) (ds.set i d)
  | _, _, _, _, _, .nil, _ => .nil
  | _, _, _, _, 0, .cons _ k, h => .cons h k
  | _, _, _, _, i + 1, .cons a k, h => .cons a (k.set i h)
end

/-! ### what stands at one address -/
inductive Top (K : PySem.W.Frag) (G : Hp) : HO → PyData → Prop
  | lst {xs : List V} {ds : List PyData} (k : DrA K G xs ds) : Top K G (.lst xs) (.list ds)
  | dk {kvs : List (Key × V)} {ds : List (PyData × PyData)} (k : DrK K G kvs ds) : Top K G (.dK kvs) (.dict ds)
  | dt {kvs : List (List Key × V)} {ds : List (PyData × PyData)} (k : DrT K G kvs ds) : Top K G (.dT kvs) (.dict ds)
theorem Top.mono {K : PySem.W.Frag} {G G' : Hp} (m : Mo G G') {o : HO} {d : PyData} : Top K G o d → Top K G' o d
  | .lst k => .lst (DrA.mono m _ k)
  | .dk k => .dk (DrK.mono m _ k)
  | .dt k => .dt (DrT.mono m _ k)
theorem Top.dr {K : PySem.W.Frag} {G : Hp} {o : HO} {d : PyData} {a : Addr} (h : G a = some o) : Top K G o d → Dr K G (.ref a) d
  | .lst k => .lst (LsX.of h) k
  | .dk k => .dk (.inl h) k
  | .dt k => .dt (.inl h) k
def Own (K : PySem.W.Frag) (G H : Hp) (a : Addr) (d : PyData) : Prop := ∃ o, H a = some o ∧ Top K G o d
/-- what is looked at alone: it stands still, or it is an own list or dict -/
def DrB (K : PySem.W.Frag) (G H : Hp) (v : V) (d : PyData) : Prop := Dr K G v d ∨ ∃ a, v = .ref a ∧ Own K G H a d

/-! ### slots -/
def Sl.mine : Sl → Bool
  | .val _ => false
  | _ => true
def mine (env : Env) (i : Nat) : Prop := ∃ s, env[i]? = some (some s) ∧ s.mine = true
def SlOk (K : PySem.W.Frag) (F G H : Hp) (v : V) (s : Sl) : Prop :=
  match s with
  | .val d => Dr K G v d
  | .own d => ∃ a, v = .ref a ∧ F a = none ∧ G a = none ∧ Own K G H a d
  | .io d => ∃ a, v = .ref a ∧ F a = none ∧ G a = none ∧ Own K G H a d
/-- F: what must stay as it is; G: what stands still and data may lean on -/
structure Sim (K : PySem.W.Frag) (ioa : Nat → Addr) (F G : Hp) (env : Env) (σ : L2.St) (H : Hp) : Prop where
  len : env.length = σ.length
  fh : Same F H
  gh : Same G H
  sl : ∀ (i : Nat) (s : Sl), env[i]? = some (some s) → ∃ v, σ[i]? = some (some v) ∧ SlOk K F G H v s
  io : ∀ (i : Nat) (d : PyData), env[i]? = some (some (.io d)) → σ[i]? = some (some (.ref (ioa i)))
  ap : ∀ (i j : Nat) (a : Addr), mine env i → mine env j → σ[i]? = some (some (.ref a)) → σ[j]? = some (some (.ref a)) → i = j
def Ext (F G G' : Hp) : Prop := Same G G' ∧ ∀ b, F b ≠ none → G' b = G b ∨ ∃ xs, G' b = some (.tup xs)
theorem Ext.refl (F G : Hp) : Ext F G G := ⟨Same.refl _, fun _ _ => .inl rfl⟩
theorem Ext.trans {F G1 G2 G3 : Hp} (a : Ext F G1 G2) (b : Ext F G2 G3) : Ext F G1 G3 :=
  ⟨a.1.trans b.1, fun c h => by
    rcases b.2 c h with e | e
    · rw [e]; exact a.2 c h
    · exact .inr e⟩
/-- a new list or dict, nobody's yet -/
def Fresh (K : PySem.W.Frag) (F G : Hp) (env : Env) (σ : L2.St) (H : Hp) (v : V) (d : PyData) : Prop :=
  ∃ a, v = .ref a ∧ F a = none ∧ G a = none ∧ Own K G H a d ∧ ∀ i, mine env i → σ[i]? ≠ some (some (.ref a))

section
variable {K : PySem.W.Frag} {ioa : Nat → Addr} {F G G' : Hp} {env : Env} {σ : L2.St} {H : Hp} {i : Nat} {d : PyData} {v : V}
theorem Own.mono {H' : Hp} {a : Addr} (m : Mo G G') (e : H' a = H a) : Own K G H a d → Own K G' H' a d
  | ⟨o, h, t⟩ => ⟨o, e.trans h, t.mono m⟩
theorem DrB.mono (m : Mo G G') : DrB K G H v d → DrB K G' H v d
  | .inl h => .inl (h.mono m)
  | .inr ⟨a, e, o⟩ => .inr ⟨a, e, o.mono m rfl⟩
theorem SlOk.mono {s : Sl} (m : Same G G') (e : ∀ a, v = .ref a → G a = none → G' a = none) : SlOk K F G H v s → SlOk K F G' H v s := by
  cases s with
  | val d => exact fun h => Dr.mono (.of m) _ h
  | own d => exact fun ⟨a, h1, h2, h3, h4⟩ => ⟨a, h1, h2, e a h1 h3, h4.mono (.of m) rfl⟩
  | io d => exact fun ⟨a, h1, h2, h3, h4⟩ => ⟨a, h1, h2, e a h1 h3, h4.mono (.of m) rfl⟩
theorem SlOk.own {s : Sl} (m : s.mine = true) : SlOk K F G H v s ↔ ∃ a, v = .ref a ∧ F a = none ∧ G a = none ∧ Own K G H a s.d := by
  cases s with
  | val d => cases m
  | own d => exact Iff.rfl
  | io d => exact Iff.rfl
theorem Sim.get (S : Sim K ioa F G env σ H) {s : Sl} (e : env[i]? = some (some s)) : ∃ v, σ[i]? = some (some v) ∧ SlOk K F G H v s := S.sl i s e
theorem SlOk.drb {s : Sl} (h : SlOk K F G H v s) : DrB K G H v s.d := by
  cases s with
  | val d => exact .inl h
  | own d => obtain ⟨a, e, _, _, o⟩ := h; exact .inr ⟨a, e, o⟩
  | io d => obtain ⟨a, e, _, _, o⟩ := h; exact .inr ⟨a, e, o⟩
theorem Sim.rd (S : Sim K ioa F G env σ H) (e : rd i env = some d) : ∃ v, σ[i]? = some (some v) ∧ DrB K G H v d := by
  unfold Rv.rd at e
  split at e
  · rename_i s hs
    cases e
    obtain ⟨v, h1, h2⟩ := S.sl i s hs
    exact ⟨v, h1, h2.drb⟩
  · cases e
theorem mine_set_val {d : PyData} {j : Nat} (h : mine (env.set i (some (.val d))) j) : mine env j ∧ j ≠ i := by
  obtain ⟨s, e, m⟩ := h
  by_cases hj : i = j
  · subst hj
    by_cases hl : i < env.length
    · rw [List.getElem?_set_self hl] at e
      cases e
      cases m
    · rw [List.getElem?_eq_none (by simpa using hl)] at e
      cases e
  · rw [List.getElem?_set_ne hj] at e
    exact ⟨⟨s, e, m⟩, fun z => hj z.symm⟩
theorem lt_of_get {α : Type} {l : List α} {i : Nat} {x : α} (h : l[i]? = some x) : i < l.length := (List.getElem?_eq_some_iff.mp h).1
/-- a slot of one's own put to rest -/
theorem Sim.rest (S : Sim K ioa F G env σ H) (e : env[i]? = some (some (.own d))) : ∃ v G', σ[i]? = some (some v) ∧ Ext F G G' ∧ Sim K ioa F G' (env.set i (some (.val d))) σ H ∧ Dr K G' v d := by
  obtain ⟨v, hv, a, rfl, ha, hg, o, ho, t⟩ := S.sl i _ e
  have hs : Same G (upd G a o) := fun b u h => by
    rw [upd_ne (fun z => by subst z; rw [hg] at h; cases h)]
    exact h
  have hx : Ext F G (upd G a o) := ⟨hs, fun b hb => .inl (upd_ne fun z => hb (z ▸ ha))⟩
  have hd : Dr K (upd G a o) (.ref a) d := Top.dr upd_same (t.mono (.of hs))
  refine ⟨.ref a, upd G a o, hv, hx, ⟨by rw [List.length_set]; exact S.len, S.fh, fun b u h => ?_, fun j s h => ?_, fun j d' h => ?_, fun j k b mj mk => ?_⟩, hd⟩
  · by_cases hb : b = a
    · subst hb; rw [upd_same] at h; cases h; exact ho
    · rw [upd_ne hb] at h; exact S.gh b u h
  · by_cases hj : i = j
    · subst hj
      rw [List.getElem?_set_self (lt_of_get e)] at h
      cases h
      exact ⟨_, hv, hd⟩
    · rw [List.getElem?_set_ne hj] at h
      obtain ⟨v', h1, h2⟩ := S.sl j s h
      refine ⟨v', h1, ?_⟩
      cases hm : s.mine with
      | false =>
        cases s with
        | val d' => exact Dr.mono (.of hs) _ h2
        | own _ => cases hm
        | io _ => cases hm
      | true =>
        obtain ⟨a', rfl, f1, g1, o1⟩ := (SlOk.own hm).mp h2
        have hne : a' ≠ a := fun z => by
          subst z
          exact hj (S.ap i j a' ⟨_, e, rfl⟩ ⟨s, h, hm⟩ hv h1)
        exact (SlOk.own hm).mpr ⟨a', rfl, f1, by rw [upd_ne hne]; exact g1, o1.mono (.of hs) rfl⟩
  · by_cases hj : i = j
    · subst hj
      rw [List.getElem?_set_self (lt_of_get e)] at h
      cases h
    · rw [List.getElem?_set_ne hj] at h
      exact S.io j d' h
  · exact S.ap j k b (mine_set_val mj).1 (mine_set_val mk).1
theorem Sim.frz {env' : Env} (S : Sim K ioa F G env σ H) (e : frz i env = .ok d env') : ∃ v G', σ[i]? = some (some v) ∧ Ext F G G' ∧ Sim K ioa F G' env' σ H ∧ Dr K G' v d := by
  unfold Rv.frz at e
  split at e
  · rename_i d' h
    cases e
    obtain ⟨v, h1, h2⟩ := S.sl i _ h
    exact ⟨v, G, h1, Ext.refl _ _, S, h2⟩
  · rename_i d' h
    cases e
    exact S.rest h
  · cases e
/-- a new object that nobody leans on yet -/
theorem Sim.new (S : Sim K ioa F G env σ H) {p : Addr} {o : HO} (hp : H p = none) : Sim K ioa F G env σ (upd H p o) := by
  have hne : ∀ b u, H b = some u → b ≠ p := fun b u h z => by subst z; rw [hp] at h; cases h
  have up : ∀ b u, H b = some u → upd H p o b = some u := fun b u h => by rw [upd_ne (hne b u h)]; exact h
  refine ⟨S.len, fun b u h => up b u (S.fh b u h), fun b u h => up b u (S.gh b u h), fun j s h => ?_, S.io, S.ap⟩
  obtain ⟨v, h1, h2⟩ := S.sl j s h
  refine ⟨v, h1, ?_⟩
  cases hm : s.mine with
  | false =>
    cases s with
    | val d' => exact h2
    | own _ => cases hm
    | io _ => cases hm
  | true =>
    obtain ⟨a', rfl, f1, g1, o1, ho1, t1⟩ := (SlOk.own hm).mp h2
    exact (SlOk.own hm).mpr ⟨a', rfl, f1, g1, o1, up _ _ ho1, t1⟩
theorem Sim.free (S : Sim K ioa F G env σ H) {p : Addr} (hp : H p = none) : F p = none ∧ G p = none ∧ ∀ i, mine env i → σ[i]? ≠ some (some (.ref p)) := by
  refine ⟨S.fh.free hp, S.gh.free hp, fun i ⟨s, e, m⟩ h => ?_⟩
  obtain ⟨v, h1, h2⟩ := S.sl i s e
  obtain ⟨a, rfl, _, _, o, ho, _⟩ := (SlOk.own m).mp h2
  rw [h] at h1
  cases h1
  rw [hp] at ho
  cases ho
/-- .. a list or dict -/
theorem Sim.fresh (S : Sim K ioa F G env σ H) {p : Addr} {o : HO} (hp : H p = none) (t : Top K G o d) : Fresh K F G env σ (upd H p o) (.ref p) d := by
  obtain ⟨h1, h2, h3⟩ := S.free hp
  exact ⟨p, rfl, h1, h2, ⟨o, upd_same, t⟩, h3⟩
/-- what stands still grows by an object that is nobody's -/
theorem Sim.grow (S : Sim K ioa F G env σ H) {p : Addr} {o : HO} (hF : F p = none) (hG : G p = none) (hH : H p = some o) (hm : ∀ i, mine env i → σ[i]? ≠ some (some (.ref p))) : Ext F G (upd G p o) ∧ Sim K ioa F (upd G p o) env σ H := by
  have hs : Same G (upd G p o) := fun b u h => by
    rw [upd_ne (fun z => by subst z; rw [hG] at h; cases h)]
    exact h
  refine ⟨⟨hs, fun b hb => .inl (upd_ne fun z => hb (z ▸ hF))⟩, S.len, S.fh, fun b u h => ?_, fun j s h => ?_, S.io, S.ap⟩
  · by_cases hb : b = p
    · subst hb; rw [upd_same] at h; cases h; exact hH
    · rw [upd_ne hb] at h; exact S.gh b u h
  · obtain ⟨v', h1, h2⟩ := S.sl j s h
    refine ⟨v', h1, ?_⟩
    cases hm' : s.mine with
    | false =>
      cases s with
      | val d' => exact Dr.mono (.of hs) _ h2
      | own _ => cases hm'
      | io _ => cases hm'
    | true =>
      obtain ⟨a', rfl, f1, g1, o1⟩ := (SlOk.own hm').mp h2
      have hne : a' ≠ p := fun z => by
        subst z
        exact hm j ⟨s, h, hm'⟩ h1
      exact (SlOk.own hm').mpr ⟨a', rfl, f1, by rw [upd_ne hne]; exact g1, o1.mono (.of hs) rfl⟩
/-- a tuple that is there joins what stands still -/
theorem Sim.addT (S : Sim K ioa F G env σ H) {p : Addr} {xs : List V} (hH : H p = some (.tup xs)) : Ext F G (upd G p (.tup xs)) ∧ Sim K ioa F (upd G p (.tup xs)) env σ H := by
  have hs : Same G (upd G p (.tup xs)) := fun b u h => by
    by_cases hb : b = p
    · subst hb
      rw [upd_same]
      have := S.gh b u h
      rw [hH] at this
      exact this
    · rw [upd_ne hb]
      exact h
  refine ⟨⟨hs, fun b hb => ?_⟩, S.len, S.fh, fun b u h => ?_, fun j s h => ?_, S.io, S.ap⟩
  · by_cases hb : b = p
    · subst hb
      exact .inr ⟨xs, upd_same⟩
    · exact .inl (upd_ne hb)
  · by_cases hb : b = p
    · subst hb; rw [upd_same] at h; cases h; exact hH
    · rw [upd_ne hb] at h; exact S.gh b u h
  · obtain ⟨v', h1, h2⟩ := S.sl j s h
    refine ⟨v', h1, ?_⟩
    cases hm' : s.mine with
    | false =>
      cases s with
      | val d' => exact Dr.mono (.of hs) _ h2
      | own _ => cases hm'
      | io _ => cases hm'
    | true =>
      obtain ⟨a', rfl, f1, g1, o1⟩ := (SlOk.own hm').mp h2
      have hne : a' ≠ p := fun z => by
        subst z
        obtain ⟨o, ho, t⟩ := o1
        rw [hH] at ho
        cases ho
        cases t
      exact (SlOk.own hm').mpr ⟨a', rfl, f1, by rw [upd_ne hne]; exact g1, o1.mono (.of hs) rfl⟩
/-- a new list or dict put to rest -/
theorem Sim.settle (S : Sim K ioa F G env σ H) (f : Fresh K F G env σ H v d) : ∃ G', Ext F G G' ∧ Sim K ioa F G' env σ H ∧ Dr K G' v d := by
  obtain ⟨a, rfl, h1, h2, ⟨o, ho, t⟩, h3⟩ := f
  obtain ⟨x, S'⟩ := S.grow h1 h2 ho h3
  exact ⟨_, x, S', Top.dr upd_same (t.mono (.of x.1))⟩
/-- a new tuple -/
theorem Sim.tuple (S : Sim K ioa F G env σ H) {p : Addr} {xs : List V} {ds : List PyData} (hp : H p = none) (t : DrA K G xs ds) :
    Ext F G (upd G p (.tup xs)) ∧ Sim K ioa F (upd G p (.tup xs)) env σ (upd H p (.tup xs)) ∧ Dr K (upd G p (.tup xs)) (.ref p) (.tuple ds) := by
  obtain ⟨h1, h2, h3⟩ := S.free hp
  obtain ⟨x, S'⟩ := (S.new (o := .tup xs) hp).grow h1 h2 upd_same h3
  exact ⟨x, S', .tup upd_same (DrA.mono (.of x.1) _ t)⟩
end
end Rv
end
section
/-! Rv, part 3: readings, and how they follow one another. -/
namespace Rv
open PySem PySem.Spec PyProof.Rows L2

/-- what is asked of an exception in the air: data, heap, what it is, its class, its own dict -/
abbrev XA := Hp → Hp → Exn → Value → Option Addr → Prop
/-- what a value is to the data -/
abbrev Rk (α β : Type) := Hp → Hp → Env → L2.St → Hp → α → β → Prop
section
variable (K : PySem.W.Frag) (xa : XA) (W : WX)
def RE : Rk (Bool × D) V := fun F G env σ H p v => if p.1 = true then Fresh K F G env σ H v p.2 else Dr K G v p.2
def RV : Rk D V := fun _ G _ _ _ d v => Dr K G v d
def RB : Rk D V := fun _ G _ _ H d v => DrB K G H v d
def RAs : Rk (List D) (List V) := fun _ G _ _ _ ds vs => DrA K G vs ds
def oR {α β : Type} (R : Rk α β) (ioa : Nat → Addr) (F : Hp) (σ : L2.St) (r : Rs α) (G : Hp) (Q : β → Hp → Prop) : Prop :=
  match r with
  | .no => False
  | .ok p e => ∀ (v : β) (G' H' : Hp), Ext F G G' → Sim K ioa F G' e σ H' → R F G' e σ H' p v → Q v H'
  | .ex x e => ∀ (cl : Value) (dd : Option Addr) (G' H' : Hp), Ext F G G' → Sim K ioa F G' e σ H' → xa G' H' x cl dd → W cl dd σ H'
def tR {α β : Type} (R : Rk α β) (f : Env → Rs α) : L2.St → Hp → (β → Hp → Prop) → Prop := fun σ H Q =>
  ∃ ioa F G env, Sim K ioa F G env σ H ∧ oR K xa W R ioa F σ (f env) G Q
end
section
variable {K : PySem.W.Frag} {xa : XA} {W : WX} {ioa : Nat → Addr} {F G G' : Hp} {env : Env} {σ : L2.St} {H : Hp}
theorem oR_ext {α β : Type} {R : Rk α β} {r : Rs α} {Q : β → Hp → Prop} (x : Ext F G G') (h : oR K xa W R ioa F σ r G Q) : oR K xa W R ioa F σ r G' Q := by
  cases r with
  | no => exact h
  | ok p e => exact fun v G2 H2 x2 => h v G2 H2 (x.trans x2)
  | ex p e => exact fun v d G2 H2 x2 => h v d G2 H2 (x.trans x2)
theorem oR_ok {α β : Type} {R : Rk α β} {p : α} {Q : β → Hp → Prop} {v : β} (h : oR K xa W R ioa F σ (.ok p env) G Q) (S : Sim K ioa F G env σ H) (r : R F G env σ H p v) : Q v H :=
  h v G H (Ext.refl _ _) S r
/-- one behind the other -/
theorem tR_bind {α β γ δ : Type} {R1 : Rk α γ} {Rq : Rk β δ} {f : Env → Rs α} {g : α → Env → Rs β} {Q : δ → Hp → Prop} {R : γ → Hp → Prop}
    (h : tR K xa W Rq (fun env => (f env).bind g) σ H Q)
    (hr : ∀ ioa F G env p v H1, Sim K ioa F G env σ H1 → R1 F G env σ H1 p v → oR K xa W Rq ioa F σ (g p env) G Q → R v H1) : tR K xa W R1 f σ H R := by
  obtain ⟨ioa, F, G, env, S, h⟩ := h
  refine ⟨ioa, F, G, env, S, ?_⟩
  have h : oR K xa W Rq ioa F σ ((f env).bind g) G Q := h
  revert h
  cases f env with
  | no => exact fun h => h
  | ex x e => exact fun h => h
  | ok p e => exact fun h v G' H' x S' r => hr ioa F G' e p v H' S' r (oR_ext x h)
theorem tR_mono {α β : Type} {R : Rk α β} {f : Env → Rs α} {Q Q' : β → Hp → Prop} (h : tR K xa W R f σ H Q) (hQ : ∀ v H, Q v H → Q' v H) : tR K xa W R f σ H Q' := by
  obtain ⟨ioa, F, G, env, S, h⟩ := h
  refine ⟨ioa, F, G, env, S, ?_⟩
  revert h
  cases f env with
  | no => exact fun h => h
  | ex x e => exact fun h => h
  | ok p e => exact fun h v G' H' x S' r => hQ _ _ (h v G' H' x S' r)
theorem tR_weak {α β : Type} {R R' : Rk α β} {f : Env → Rs α} {Q : β → Hp → Prop} (k : ∀ F G env H p v, R F G env σ H p v → R' F G env σ H p v) (h : tR K xa W R' f σ H Q) : tR K xa W R f σ H Q := by
  obtain ⟨ioa, F, G, env, S, h⟩ := h
  refine ⟨ioa, F, G, env, S, ?_⟩
  revert h
  cases f env with
  | no => exact fun h => h
  | ex x e => exact fun h => h
  | ok p e => exact fun h v G' H' x S' r => h v G' H' x S' (k _ _ _ _ _ _ r)
end
section
variable {X : Cx}
theorem PE.imp {e : Expr} {t t' : TE} (h : PE X e t) (k : ∀ σ H Q, t' σ H Q → t σ H Q) : PE X e t' := ⟨fun pins s σ H Q I hw => h.run pins s σ H Q I (k σ H Q hw)⟩
theorem PT.imp {e : Expr} {t t' : TT} (h : PT X e t) (k : ∀ σ H Q, t' σ H Q → t σ H Q) : PT X e t' := ⟨fun pins s σ H Q I hw => h.run pins s σ H Q I (k σ H Q hw)⟩
theorem PA.imp {e : List Expr} {t t' : TA} (h : PA X e t) (k : ∀ σ H Q, t' σ H Q → t σ H Q) : PA X e t' := ⟨fun pos pins s σ H Q I hw => h.run pos pins s σ H Q I (k σ H Q hw)⟩
theorem PS.imp {e : Stmt} {t t' : TS} (h : PS X e t) (k : ∀ D σ H, t' D σ H → t D σ H) : PS X e t' := ⟨fun pins s σ H D I hw => h.run pins s σ H D I (k D σ H hw)⟩
theorem PSs.imp {e : List Stmt} {t t' : TS} (h : PSs X e t) (k : ∀ D σ H, t' D σ H → t D σ H) : PSs X e t' := ⟨fun pins s σ H D I hw => h.run pins s σ H D I (k D σ H hw)⟩
theorem PI.imp {tg e : Expr} {t t' : TI} (h : PI X tg e t) (k : ∀ σ H R, t' σ H R → t σ H R) : PI X tg e t' := ⟨fun pins s σ H R I hw => h.run pins s σ H R I (k σ H R hw)⟩
end
section
variable {X : Cx} {xa : XA} {W : WX} {e ea eb node : Expr} {a b : Ex} {f fa fb : Env → Rs (Bool × D)}
/-- a value put to rest -/
theorem tR_val {K : PySem.W.Frag} {σ : L2.St} {H : Hp} {Q : VK} (h : tR K xa W (RV K) (fun env => valOf (f env)) σ H Q) : tR K xa W (RE K) f σ H Q := by
  unfold valOf at h
  refine tR_bind (R1 := RE K) h fun ioa F G env p v H1 S r q => ?_
  obtain ⟨fl, d⟩ := p
  cases fl with
  | false => exact oR_ok q S r
  | true =>
    have r : Fresh K F G env σ H1 v d := r
    obtain ⟨G', x, S', dr⟩ := S.settle r
    exact q v G' H1 x S' dr
theorem pe_val (h : PE X e (tR X.K xa W (RE X.K) f)) : PE X e (tR X.K xa W (RV X.K) fun env => valOf (f env)) := PE.imp h fun σ H Q q => tR_val q
/-- looked at alone -/
theorem pe_brw (va : ∀ i, a.var? = some i → PE X e (tVar i)) (h : PE X e (tR X.K xa W (RE X.K) f)) : PE X e (tR X.K xa W (RB X.K) fun env => brw a f env) := by
  cases hv : a.var? with
  | none =>
    have : (fun env => brw a f env) = fun env => valOf (f env) := by
      funext env
      unfold brw
      rw [hv]
    rw [this]
    exact PE.imp (pe_val h) fun σ H Q q => tR_weak (fun _ _ _ _ _ _ r => .inl r) q
  | some i =>
    have : (fun env => brw a f env) = fun env => Rs.of (rd i env) env := by
      funext env
      unfold brw
      rw [hv]
    rw [this]
    refine PE.imp (va i hv) fun σ H Q q => ?_
    obtain ⟨ioa, F, G, env, S, q⟩ := q
    cases hr : rd i env with
    | none =>
      have q : oR X.K xa W (RB X.K) ioa F σ (Rs.of (rd i env) env) G Q := q
      rw [hr] at q
      exact q.elim
    | some d =>
      have q : oR X.K xa W (RB X.K) ioa F σ (Rs.of (rd i env) env) G Q := q
      rw [hr] at q
      obtain ⟨v, h1, h2⟩ := S.rd hr
      exact ⟨v, h1, oR_ok q S h2⟩
/-- two operands; the first, where it is a name, is looked at behind the second -/
theorem pe_two {β : Type} {Rq : Rk β V} {r : L2.R2} {k : D × D → Env → Rs β} (mk : ∀ ta tb, PE X ea ta → PE X eb tb → PE X node (tOp r ta tb))
    (va : ∀ i, a.var? = some i → PE X ea (tVar i)) (vb : ∀ i, b.var? = some i → PE X eb (tVar i)) (ha : PE X ea (tR X.K xa W (RE X.K) fa)) (hb : PE X eb (tR X.K xa W (RE X.K) fb))
    (hr : ∀ ioa F G env σ H x y dx dy Q, Sim X.K ioa F G env σ H → DrB X.K G H x dx → DrB X.K G H y dy → oR X.K xa W Rq ioa F σ (k (dx, dy) env) G Q → r x y H Q) :
    PE X node (tR X.K xa W Rq fun env => (two a fa b fb env).bind k) := by
  cases hv : a.var? with
  | none =>
    refine PE.imp (mk _ _ (pe_val ha) (pe_brw vb hb)) fun σ H Q q => ?_
    have q : tR X.K xa W Rq (fun env => (valOf (fa env)).bind fun x e1 => ((brw b fb e1).bind fun y e => Rs.ok (x, y) e).bind k) σ H Q := by
      obtain ⟨ioa, F, G, env, S, q⟩ := q
      refine ⟨ioa, F, G, env, S, ?_⟩
      have q : oR X.K xa W Rq ioa F σ ((two a fa b fb env).bind k) G Q := q
      show oR X.K xa W Rq ioa F σ ((valOf (fa env)).bind fun x e1 => ((brw b fb e1).bind fun y e => Rs.ok (x, y) e).bind k) G Q
      unfold two at q
      rw [hv] at q
      revert q
      cases valOf (fa env) with
      | no => exact fun h => h
      | ex x e => exact fun h => h
      | ok p e => exact fun h => h
    refine tR_bind (R1 := RV X.K) q fun ioa F G env p v H1 S rv q1 => ?_
    refine ⟨ioa, F, G, env, S, ?_⟩
    show oR X.K xa W (RB X.K) ioa F σ (brw b fb env) G _
    revert q1
    cases brw b fb env with
    | no => exact fun h => h
    | ex x e => exact fun h => h
    | ok p2 e2 => exact fun h w G' H' x S' r' => hr ioa F G' e2 σ H' v w p p2 Q S' (.inl (Dr.mono (.of x.1) _ rv)) r' (oR_ext x h)
  | some i =>
    refine PE.imp (mk _ _ (va i hv) (pe_brw vb hb)) fun σ H Q q => ?_
    obtain ⟨ioa, F, G, env, S, q⟩ := q
    have q : oR X.K xa W Rq ioa F σ ((two a fa b fb env).bind k) G Q := q
    unfold two at q
    rw [hv] at q
    cases h0 : rd i env with
    | none =>
      simp only [h0] at q
      exact q.elim
    | some d0 =>
      simp only [h0] at q
      have q : oR X.K xa W Rq ioa F σ (((brw b fb env).bind fun y e => Rs.of ((rd i e).map fun x => (x, y)) e).bind k) G Q := q
      obtain ⟨v, hσ, _⟩ := S.rd h0
      refine ⟨v, hσ, ioa, F, G, env, S, ?_⟩
      show oR X.K xa W (RB X.K) ioa F σ (brw b fb env) G _
      revert q
      cases brw b fb env with
      | no => exact fun h => h
      | ex x e => exact fun h => h
      | ok p2 e2 =>
        intro q w G' H' x S' r'
        have q : oR X.K xa W Rq ioa F σ ((Rs.of ((rd i e2).map fun x => (x, p2)) e2).bind k) G Q := q
        cases h2 : rd i e2 with
        | none =>
          rw [h2] at q
          exact q.elim
        | some d2 =>
          rw [h2] at q
          obtain ⟨v', hσ', r1⟩ := S'.rd h2
          rw [hσ] at hσ'
          cases hσ'
          exact hr ioa F G' e2 σ H' v w d2 p2 Q S' r1 r' (oR_ext x q)
end
end Rv
end
section
/-! Rv, part 4: the operators. -/
namespace Rv
open PySem PySem.Spec PyProof.Rows L2
section
variable {K : PySem.W.Frag} {xa : XA} {W : WX} {ioa : Nat → Addr} {F G G' : Hp} {env : Env} {σ : L2.St} {H : Hp} {v : V} {d : D} {Q : VK}
/-! ### answers -/
theorem ans_ol (q : oR K xa W (RE K) ioa F σ (ol (some d) env) G Q) (S : Sim K ioa F G env σ H) (r : Dr K G v d) : Q v H := oR_ok (p := (false, d)) q S r
theorem ans_nw (q : oR K xa W (RE K) ioa F σ (nw (some d) env) G Q) (hd : isLD d = false) (S : Sim K ioa F G env σ H) (r : Dr K G v d) : Q v H := by
  have q : oR K xa W (RE K) ioa F σ (.ok (isLD d, d) env) G Q := q
  rw [hd] at q
  exact oR_ok (p := (false, d)) q S r
theorem ans_tup {ds : List D} {xs : List V} {p : Addr} (q : oR K xa W (RE K) ioa F σ (.ok (false, .tuple ds) env) G Q) (S : Sim K ioa F G env σ H) (hp : H p = none) (t : DrA K G xs ds) : Q (.ref p) (upd H p (.tup xs)) := by
  obtain ⟨x, S', r⟩ := S.tuple hp t
  exact q _ _ _ x S' r
theorem ans_new {o : HO} {p : Addr} (q : oR K xa W (RE K) ioa F σ (.ok (true, d) env) G Q) (S : Sim K ioa F G env σ H) (hp : H p = none) (t : Top K G o d) : Q (.ref p) (upd H p o) :=
  q _ _ _ (Ext.refl _ _) (S.new hp) (S.fresh hp t)
/-! ### the value by its data -/
theorem DrB.int {i : Int} (h : DrB K G H v (.int i)) : v = .int i := by
  rcases h with h | ⟨a, _, o, _, t⟩
  · cases h; rfl
  · cases t
theorem DrB.bl {i : Bool} (h : DrB K G H v (.bool i)) : v = .bl i := by
  rcases h with h | ⟨a, _, o, _, t⟩
  · cases h; rfl
  · cases t
theorem DrB.str {i : Str} (h : DrB K G H v (.str i)) : v = .str i := by
  rcases h with h | ⟨a, _, o, _, t⟩
  · cases h; rfl
  · cases t
theorem DrB.non (h : DrB K G H v .none) : v = .non := by
  rcases h with h | ⟨a, _, o, _, t⟩
  · cases h; rfl
  · cases t
theorem DrB.tup {ds : List D} (h : DrB K G H v (.tuple ds)) : ∃ a xs, v = .ref a ∧ G a = some (.tup xs) ∧ DrA K G xs ds := by
  rcases h with h | ⟨a, _, o, _, t⟩
  · cases h with | tup h k => exact ⟨_, _, rfl, h, k⟩
  · cases t
theorem DrB.lst {ds : List D} (m : Same G H) (h : DrB K G H v (.list ds)) : ∃ a xs, v = .ref a ∧ LsX K H a xs ∧ DrA K G xs ds := by
  rcases h with h | ⟨a, e, o, ho, t⟩
  · cases h with | lst h k => exact ⟨_, _, rfl, (Mo.of m).seq h, k⟩
  · cases t with | lst k => exact ⟨a, _, e, .inl (.inl ho), k⟩
theorem DrB.dic {ds : List (D × D)} (m : Same G H) (h : DrB K G H v (.dict ds)) : ∃ a, v = .ref a ∧ ((∃ kvs, RdN H a (.dK kvs) ∧ DrK K G kvs ds) ∨ ∃ kvs, RdN H a (.dT kvs) ∧ DrT K G kvs ds) := by
  rcases h with h | ⟨a, e, o, ho, t⟩
  · cases h with
    | dk h k => exact ⟨_, rfl, .inl ⟨_, (Mo.of m).n _ _ True.intro h, k⟩⟩
    | dt h k => exact ⟨_, rfl, .inr ⟨_, (Mo.of m).n _ _ True.intro h, k⟩⟩
  · cases t with
    | dk k => exact ⟨a, e, .inl ⟨_, .inl ho, k⟩⟩
    | dt k => exact ⟨a, e, .inr ⟨_, .inl ho, k⟩⟩
theorem DrB.old (h : DrB K G H v d) (hd : isLD d = false) : Dr K G v d := by
  rcases h with h | ⟨a, _, o, _, t⟩
  · exact h
  · cases t <;> cases hd
end
/-- an operation on two values by its data -/
def rOp (K : PySem.W.Frag) (xa : XA) (W : WX) (op : D → D → Option D) (mk : Option D → Env → Rs (Bool × D)) : L2.R2 := fun x y H Q =>
  ∃ ioa F G env σ dx dy, Sim K ioa F G env σ H ∧ DrB K G H x dx ∧ DrB K G H y dy ∧ oR K xa W (RE K) ioa F σ (mk (op dx dy) env) G Q
section
variable {X : Cx} {xa : XA} {W : WX}
/-- list + list -/
def rCatX (K : PySem.W.Frag) : L2.R2 := fun x y H Q => ∃ l b xs zs, x = .ref l ∧ y = .ref b ∧ LsX K H l xs ∧ LsX K H b zs ∧ xs.length + zs.length ≤ sizeLine ∧ ∀ p, H p = none → Q (.ref p) (upd H p (.lst (xs ++ zs)))
theorem op_catX : OpR X (binaryOp .Add) (rCatX X.K) := by
  rintro pins s σ H x y v u Q I rx ry ⟨l, b, xs, zs, rfl, rfl, hH, hB, hz, q⟩
  cases rx
  cases ry
  obtain ⟨z, its, n, r, hl, e⟩ := lsx_at I hH
  obtain ⟨z2, its2, n2, r2, hl2, e2⟩ := lsx_at I hB
  refine PySem.P.add_list e e2 ?_ (by simp only [List.size_toArray]; omega)
  rw [show its.toArray ++ its2.toArray = (its ++ its2).toArray by simp]
  exact ⟨.ref _, _, I.lnew (t' := s.toks) (r.append r2) (by simp only [List.length_append]; omega), rfl, q _ I.fresh⟩
theorem small_le {n : Nat} (h : small n = true) : n ≤ sizeLine := of_decide_eq_true h
theorem mul_ok {i j : Int} (h : mulOk i j = true) : IntMulOk i j := by
  unfold mulOk at h
  simp only [Bool.or_eq_true, decide_eq_true_eq] at h
  rcases h with (h | h) | h
  · exact CMulW.ok h
  · exact CMul.ok (.inl ⟨by omega, by omega⟩)
  · exact CMul.ok (.inr ⟨by omega, by omega⟩)
theorem cat_tupA {K : PySem.W.Frag} {ioa : Nat → Addr} {F G : Hp} {env : Env} {σ : L2.St} {H : Hp} {Q : VK} {a b : Addr} {xs ys : List V} {ds es : List D} (S : Sim K ioa F G env σ H) (ha : G a = some (.tup xs)) (hb : G b = some (.tup ys))
    (ka : DrA K G xs ds) (kb : DrA K G ys es) (hz : ds.length + es.length ≤ sizeLine) (q : oR K xa W (RE K) ioa F σ (.ok (false, .tuple (ds ++ es)) env) G Q) : rCatA K (.ref a) (.ref b) H Q := by
  refine ⟨a, b, xs, ys, rfl, rfl, SqT.of (S.gh _ _ ha), SqT.of (S.gh _ _ hb), by rw [ka.length, kb.length]; exact hz, fun e => ?_, fun _ e => ?_, fun _ _ p hp => ans_tup q S hp (ka.append kb)⟩
  · subst e
    cases ka
    exact oR_ok q S (Dr.tup hb kb)
  · subst e
    cases kb
    rw [List.append_nil] at q
    exact oR_ok q S (Dr.tup ha ka)
theorem op_bin (o : Operator) : OpR X (binaryOp o) (rOp X.K xa W (oBin o) nw) := by
  rintro pins s σ H x y v u Q I rx ry ⟨ioa, F, G, env, σ', dx, dy, S, hx, hy, q⟩
  unfold oBin at q
  split at q
  · obtain rfl := hx.int
    obtain rfl := hy.int
    exact op_add pins s σ H _ _ v u Q I rx ry ⟨_, _, rfl, rfl, ans_nw q rfl S (.int _)⟩
  · obtain rfl := hx.str
    obtain rfl := hy.str
    split at q
    · rename_i hz
      exact op_add_str pins s σ H _ _ v u Q I rx ry ⟨_, _, rfl, rfl, small_le hz, ans_nw q rfl S (.str _)⟩
    · exact q.elim
  · split at q
    · rename_i hz
      obtain ⟨a, xs, rfl, ha, ka⟩ := hx.tup
      obtain ⟨b, ys, rfl, hb, kb⟩ := hy.tup
      exact op_catA pins s σ H _ _ v u Q I rx ry (cat_tupA S ha hb ka kb (small_le hz) q)
    · exact q.elim
  · split at q
    · rename_i hz
      obtain ⟨a, xs, rfl, ha, ka⟩ := hx.lst S.gh
      obtain ⟨b, ys, rfl, hb, kb⟩ := hy.lst S.gh
      exact op_catX pins s σ H _ _ v u Q I rx ry ⟨a, b, xs, ys, rfl, rfl, ha, hb, by rw [ka.length, kb.length]; exact small_le hz, fun p hp => ans_new q S hp (.lst (ka.append kb))⟩
    · exact q.elim
  · obtain rfl := hx.int
    obtain rfl := hy.int
    exact op_sub pins s σ H _ _ v u Q I rx ry ⟨_, _, rfl, rfl, ans_nw q rfl S (.int _)⟩
  · obtain rfl := hx.int
    obtain rfl := hy.int
    split at q
    · rename_i hz
      obtain ⟨t, rfl⟩ := rx
      obtain ⟨t', rfl⟩ := ry
      exact mul_int ⟨.int _, H, I.tok _, ⟨_, rfl⟩, ans_nw q rfl S (.int _)⟩ (mul_ok hz)
    · exact q.elim
  · obtain rfl := hx.int
    obtain rfl := hy.int
    split at q
    · rename_i hz
      unfold divOk at hz
      simp only [Bool.and_eq_true, decide_eq_true_eq] at hz
      exact op_fdivW pins s σ H _ _ v u Q I rx ry ⟨_, _, rfl, rfl, hz, ans_nw q rfl S (.int _)⟩
    · exact q.elim
  · obtain rfl := hx.int
    obtain rfl := hy.int
    split at q
    · rename_i hz
      exact op_mod pins s σ H _ _ v u Q I rx ry ⟨_, _, rfl, rfl, of_decide_eq_true hz, ans_nw q rfl S (.int _)⟩
    · exact q.elim
  · obtain rfl := hx.int
    obtain rfl := hy.int
    split at q
    · rename_i hz
      unfold powOk at hz
      simp only [Bool.and_eq_true, decide_eq_true_eq] at hz
      obtain ⟨t, rfl⟩ := rx
      obtain ⟨t', rfl⟩ := ry
      exact pow_int hz.1 hz.2 ⟨.int _, H, I.tok _, ⟨_, rfl⟩, ans_nw q rfl S (.int _)⟩
    · exact q.elim
  · exact q.elim
end
end Rv
end
section
/-! Rv, part 5: what data read as; comparisons. -/
namespace Rv
open PySem PySem.Spec PyProof.Rows L2
/-- the address of a list, or no one's that matters -/
def Fine (h : Heap) (as : List Addr) : Prop := ∀ b ∈ as, (b == sysModules) = false ∨ ∃ o, h.get? b = some o ∧ o.cls = .type "list"
theorem Fine.nil {h : Heap} : Fine h [] := fun b hb => absurd hb (by simp)
theorem Fine.append {h : Heap} {as bs : List Addr} (a : Fine h as) (b : Fine h bs) : Fine h (as ++ bs) := fun c hc => (List.mem_append.mp hc).elim (a c) (b c)
section
variable {X : Cx} {pins : List (Addr × Obj)} {σ : L2.St} {G H : Hp} {s : Shared}
theorem key_reads {P : Program} {w : World} {h : Heap} {k : Key} {v : Value} (e : (mixKind P w).is k v = true) : Reads h v (keyD k) [] := by
  rcases keyIs_shape e with ⟨i, t, rfl, rfl⟩ | ⟨x, t, rfl, rfl⟩
  · exact Reads.int i t
  · exact Reads.str x t
theorem keys_reads {h : Heap} : ∀ {ks : List Key} {us : List Value}, Vals (ks.map kV) us → ReadsAll h us (ks.map keyD) []
  | [], _, .nil => .nil
  | .inl i :: ks, _, .cons r t => by
    obtain ⟨tk, rfl⟩ := r
    exact .cons (Reads.int i tk) (keys_reads t)
  | .inr x :: ks, _, .cons r t => by
    obtain ⟨tk, rfl⟩ := r
    exact .cons (Reads.str x tk) (keys_reads t)
mutual
theorem Dr.reads (I : Inv X pins σ H s) (m : Same G H) : ∀ {v : V} {u : Value} (d : PyData), Dr X.K G v d → RelV v u → ∃ as, Reads s.heap u d as ∧ Fine s.heap as
  | _, _, .none, .non, r => by cases r; exact ⟨_, Reads.none, Fine.nil⟩
  | _, _, .bool _, .bl b, r => by cases r; exact ⟨_, Reads.bool b, Fine.nil⟩
  | _, _, .int _, .int i, r => by obtain ⟨t, rfl⟩ := r; exact ⟨_, Reads.int i t, Fine.nil⟩
  | _, _, .str _, .str x, r => by obtain ⟨t, rfl⟩ := r; exact ⟨_, Reads.str x t, Fine.nil⟩
  | _, _, .list ds, .lst h k, r => by
    cases r
    obtain ⟨_, its, n, rv, _, e⟩ := lsx_at I ((Mo.of m).seq h)
    obtain ⟨as, h1, h2⟩ := DrA.reads I m ds k rv
    refine ⟨_, Reads.list e rfl rfl h1, fun b hb => ?_⟩
    rcases List.mem_cons.mp hb with rfl | hb
    · exact .inr ⟨_, e, rfl⟩
    · exact h2 b hb
  | _, _, .tuple ds, .tup h k, r => by
    cases r
    obtain ⟨its, rv, ⟨o, ho, hc, n, hd⟩, _⟩ := I.tuple (SqT.of (m _ _ h))
    obtain ⟨as, h1, h2⟩ := DrA.reads I m ds k rv
    exact ⟨_, Reads.tuple ho hc hd h1, h2⟩
  | _, _, .dict ds, .dk h k, r => by
    cases r
    obtain ⟨_, hs, vs, rv, o, es, ep, ho, hx, hd, _, hp, _⟩ := ((Mo.of m).n _ (.dK _) True.intro h).rd.ok I.hok
    obtain ⟨as, h1, h2⟩ := DrK.reads I m ds k rv hp
    refine ⟨_, Reads.dict ho hx.1 hd h1.1 h1.2, fun b hb => ?_⟩
    rcases List.mem_cons.mp (show b ∈ _ :: as from by simpa using hb) with rfl | hb
    · exact .inl hs
    · exact h2 b hb
  | _, _, .dict ds, .dt h k, r => by
    cases r
    obtain ⟨_, hs, xs, rv, o, es, ep, ho, hx, hd, he, _⟩ := ((Mo.of m).n _ (.dT _) True.intro h).rd.ok I.hok
    obtain ⟨as, h1, h2⟩ := DrT.reads I m ds k rv
    refine ⟨_, Reads.dict ho hx.1 hd (by rw [he]; exact h1.1) (by rw [he]; exact h1.2), fun b hb => ?_⟩
    rcases List.mem_cons.mp (show b ∈ _ :: as from by simpa using hb) with rfl | hb
    · exact .inl hs
    · exact h2 b hb
theorem DrA.reads (I : Inv X pins σ H s) (m : Same G H) : ∀ {vs : List V} {us : List Value} (ds : List PyData), DrA X.K G vs ds → Vals vs us → ∃ as, ReadsAll s.heap us ds as ∧ Fine s.heap as
  | _, _, [], .nil, .nil => ⟨_, ReadsAll.nil, Fine.nil⟩
  | _, _, d :: ds, .cons h k, .cons r t => by
    obtain ⟨as, h1, h2⟩ := Dr.reads I m d h r
    obtain ⟨bs, h3, h4⟩ := DrA.reads I m ds k t
    exact ⟨_, ReadsAll.cons h1 h3, h2.append h4⟩
theorem DrK.reads (I : Inv X pins σ H s) (m : Same G H) : ∀ {kvs : List (Key × V)} {vs : List (Key × Value)} {es : List DictEntry} (ds : List (PyData × PyData)), DrK X.K G kvs ds → KV kvs vs → Pairs (mixKind X.prog X.w) es vs →
    ∃ as, (ReadsAll s.heap (es.map (·.key)) (ds.map (·.1)) [] ∧ ReadsAll s.heap (es.map (·.val)) (ds.map (·.2)) as) ∧ Fine s.heap as
  | _, _, _, [], .nil, .nil, .nil => ⟨_, ⟨ReadsAll.nil, ReadsAll.nil⟩, Fine.nil⟩
  | _, _, _, (_, d) :: ds, .cons h k, .cons r t, .cons p1 p2 p3 => by
    obtain ⟨e1, r⟩ := r
    obtain ⟨as, h1, h2⟩ := Dr.reads I m d h r
    obtain ⟨bs, h3, h4⟩ := DrK.reads I m ds k t p3
    refine ⟨_, ⟨ReadsAll.cons (as := []) ?_ h3.1, ReadsAll.cons ?_ h3.2⟩, h2.append h4⟩
    · dsimp only at e1 ⊢
      rw [e1]
      exact key_reads p1
    · dsimp only
      rw [p2]
      exact h1
theorem DrT.reads (I : Inv X pins σ H s) (m : Same G H) : ∀ {kvs : List (List Key × V)} {xs : List (List Key × Addr × Value)} (ds : List (PyData × PyData)), DrT X.K G kvs ds →
    Paired (fun (p : List Key × V) (q : List Key × Addr × Value) => p.1 = q.1 ∧ H q.2.1 = some (.tup (p.1.map kV)) ∧ RelV p.2 q.2.2) kvs xs →
    ∃ as, (ReadsAll s.heap ((xs.map (entryOfKey (tupleKind (mixKind X.prog X.w)))).map (·.key)) (ds.map (·.1)) [] ∧ ReadsAll s.heap ((xs.map (entryOfKey (tupleKind (mixKind X.prog X.w)))).map (·.val)) (ds.map (·.2)) as) ∧ Fine s.heap as
  | _, _, [], .nil, .nil => ⟨_, ⟨ReadsAll.nil, ReadsAll.nil⟩, Fine.nil⟩
  | _, _, (_, d) :: ds, .cons h k, .cons r t => by
    obtain ⟨e1, e2, r⟩ := r
    obtain ⟨as, h1, h2⟩ := Dr.reads I m d h r
    obtain ⟨bs, h3, h4⟩ := DrT.reads I m ds k t
    obtain ⟨its, rv, ⟨o, ho, hc, n, hd⟩, _⟩ := I.tuple (SqT.of e2)
    exact ⟨_, ⟨ReadsAll.cons (as := []) (Reads.tuple ho hc hd (by simpa using keys_reads rv)) h3.1, ReadsAll.cons h1 h3.2⟩, h2.append h4⟩
end
/-- what is looked at alone reads as its data, too -/
theorem DrB.reads {v : V} {u : Value} {d : PyData} (I : Inv X pins σ H s) (m : Same G H) (h : DrB X.K G H v d) (r : RelV v u) : ∃ as, Reads s.heap u d as ∧ Fine s.heap as := by
  rcases h with h | ⟨a, rfl, o, ho, t⟩
  · exact Dr.reads I m d h r
  · exact Dr.reads I (Same.refl H) d (Top.dr ho (t.mono (.of m))) r
end
section
variable {X : Cx}
theorem shp_l {x y : D} (h : shp2 x y = true) : SeqAt.shaped x = true ∧ SeqAt.shaped y = true := by
  unfold shp2 at h
  rwa [Bool.and_eq_true] at h
theorem min_depth {A : Around} {x y : D} (h : shp2 x y = true) (hu : A.units + 64 < cLine) : A.units + min x.depth y.depth < cLine := SeqAt.room_of_shaped (shp_l h).1 hu
theorem min_depth' {A : Around} {x y : D} (h : shp2 x y = true) (hu : A.units + 64 < cLine) : A.units + min y.depth x.depth < cLine := SeqAt.room_of_shaped (shp_l h).2 hu
theorem pl_l {x y : D} (h : pl2 x y = true) : x.plain = true ∧ y.plain = true ∧ min x.depth y.depth ≤ 64 := by
  unfold pl2 at h
  rw [Bool.and_eq_true, Bool.and_eq_true, decide_eq_true_eq] at h
  exact ⟨h.1.1, h.1.2, h.2⟩
theorem none_of {x : D} (h : isNone x = false) : x ≠ .none := fun e => by
  subst e
  cases h
theorem lt1_cases {x y : D} {b : Bool} (h : lt1 x y = some b) : (∃ i j, x = .int i ∧ y = .int j ∧ b = decide (i < j)) ∨ (PySem.W.alike x y = true ∧ PySem.W.alike y x = true ∧ x ≠ .none ∧ y ≠ .none ∧ shp2 x y = true ∧ b = PySem.W.dataLt x y) := by
  unfold lt1 at h
  split at h
  · cases h
    exact .inl ⟨_, _, rfl, rfl, rfl⟩
  · split at h
    · rename_i hc
      cases h
      simp only [Bool.and_eq_true, Bool.not_eq_true'] at hc
      exact .inr ⟨hc.1.1.1.1, hc.1.1.1.2, none_of hc.1.1.2, none_of hc.1.2, hc.2, rfl⟩
    · cases h
theorem flip_shp {x y : D} (h : shp2 x y = true) : shp2 y x = true := by
  unfold shp2 at h ⊢
  rw [Bool.and_comm]
  exact h
/-- what a dict holds at a key -/
theorem keyOf_inv {d : D} {k : Key} (h : keyOf d = some k) : d = keyD k := by
  cases d <;> simp [keyOf] at h <;> subst h <;> rfl
theorem keysOf_inv : ∀ {ds : List D} {ks : List Key}, keysOf ds = some ks → ds = ks.map keyD
  | [], ks, h => by
    cases h
    rfl
  | d :: ds, ks, h => by
    unfold keysOf at h
    split at h
    · rename_i k ks' h1 h2
      cases h
      rw [List.map_cons, ← keyOf_inv h1, ← keysOf_inv h2]
    · cases h
theorem keyD_eqv (a b : Key) : PyData.eqv (keyD a) (keyD b) = decide (a = b) := by
  cases a with
  | inl i =>
    cases b with
    | inl j => simp [keyD, PyData.eqv, Sum.inl.injEq, Bool.beq_eq_decide_eq]
    | inr y => simp [keyD, PyData.eqv]
  | inr x =>
    cases b with
    | inl j => simp [keyD, PyData.eqv]
    | inr y => simp [keyD, PyData.eqv, Sum.inr.injEq, Bool.beq_eq_decide_eq]
theorem keysD_eqv : ∀ as bs : List Key, PyData.eqvAll (as.map keyD) (bs.map keyD) = decide (as = bs)
  | [], [] => by simp [PyData.eqvAll]
  | [], _ :: _ => by simp [PyData.eqvAll]
  | _ :: _, [] => by simp [PyData.eqvAll]
  | a :: as, b :: bs => by
    rw [List.map_cons, List.map_cons, PyData.eqvAll, keyD_eqv, keysD_eqv as bs]
    by_cases h1 : a = b <;> by_cases h2 : as = bs <;> simp [h1, h2]
theorem tupD_eqv (as bs : List Key) : PyData.eqv (.tuple (as.map keyD)) (.tuple (bs.map keyD)) = decide (as = bs) := by
  rw [PyData.eqv, keysD_eqv]
end
end Rv
end
section
/-! Rv, part 6: dicts looked at; comparisons; subscripts. -/
namespace Rv
open PySem PySem.Spec PyProof.Rows L2
section
variable {X : Cx} {pins : List (Addr × Obj)} {σ : L2.St} {G H : Hp} {s : Shared} {a : Addr}
/-- the empty dict is one of either kind -/
theorem toT (I : Inv X pins σ H s) (h : H a = some (.dK [])) : Inv X pins σ (upd H a (.dT [])) s := by
  have q : ObjOk X.prog X.w (upd H a (.dT [])) s.heap a (.dT []) := by
    obtain ⟨_, hs, vs, rv, o, es, ep, ho, hx, hd, _, hp, _⟩ := I.hok a _ h
    cases rv
    have he : es.toList = [] := by
      cases he : es.toList with
      | nil => rfl
      | cons e es' => rw [he] at hp; cases hp
    exact ⟨Nat.zero_le _, hs, [], .nil, o, es, ep, ho, hx, hd, by rw [he]; rfl, List.nodup_nil⟩
  have J := I.write (x := a) (e := a) (o := .dT []) (h' := s.heap) (t' := s.toks) (by rw [h]; trivial) (.inl rfl) (fun b u _ q => q) (by
    obtain ⟨_, hs, vs, rv, o, es, ep, ho, _⟩ := I.hok a _ h
    exact ⟨o, ho⟩) q
  exact J
theorem toK (I : Inv X pins σ H s) (h : H a = some (.dT [])) : Inv X pins σ (upd H a (.dK [])) s := by
  have q : ObjOk X.prog X.w (upd H a (.dK [])) s.heap a (.dK []) := by
    obtain ⟨_, hs, xs, rv, o, es, ep, ho, hx, hd, he, _⟩ := I.hok a _ h
    cases rv
    have he' : es = #[] := by
      have : es.toList = [] := he
      simpa using this
    subst he'
    exact ⟨Nat.zero_le _, hs, [], .nil, o, #[], ep, ho, hx, hd, fun e z => absurd z (by simp), .nil, List.nodup_nil⟩
  exact I.write (x := a) (e := a) (o := .dK []) (h' := s.heap) (t' := s.toks) (by rw [h]; trivial) (.inl rfl) (fun b u _ q => q) (by
    obtain ⟨_, hs, xs, rv, o, es, ep, ho, _⟩ := I.hok a _ h
    exact ⟨o, ho⟩) q
theorem back_upd {o u : HO} (h : H a = some o) : upd (upd H a u) a o = H := by
  rw [upd_upd]
  funext b
  by_cases hb : b = a
  · subst hb; rw [upd_same, h]
  · rw [upd_ne hb]
/-- the data of a dict by its keys -/
theorem valK : ∀ {K : PySem.W.Frag} {kvs : List (Key × V)} {ds : List (D × D)} (k : Key), DrK K G kvs ds → (∀ d, dget ds (keyD k) = some d → ∃ v, valV kvs k = some v ∧ Dr K G v d) ∧ (dget ds (keyD k) = none → valV kvs k = none)
  | K, _, _, k, .nil => ⟨fun d h => (nomatch h), fun _ => rfl⟩
  | K, _, _, k, .cons (x := x) (v := v) (d := d) h t => by
    unfold dget
    rw [List.find?_cons, keyD_eqv]
    by_cases e : x = k
    · rw [decide_eq_true e, valV_pos e]
      exact ⟨fun d' hd => ⟨_, rfl, by cases hd; exact h⟩, fun z => nomatch z⟩
    · rw [decide_eq_false e, valV_neg e]
      exact valK k t
theorem valT : ∀ {K : PySem.W.Frag} {kvs : List (List Key × V)} {ds : List (D × D)} (k : List Key), DrT K G kvs ds → (∀ d, dget ds (.tuple (k.map keyD)) = some d → ∃ v, valV kvs k = some v ∧ Dr K G v d) ∧ (dget ds (.tuple (k.map keyD)) = none → valV kvs k = none)
  | K, _, _, k, .nil => ⟨fun d h => (nomatch h), fun _ => rfl⟩
  | K, _, _, k, .cons (x := x) (v := v) (d := d) h t => by
    unfold dget
    rw [List.find?_cons, tupD_eqv]
    by_cases e : x = k
    · rw [decide_eq_true e, valV_pos e]
      exact ⟨fun d' hd => ⟨_, rfl, by cases hd; exact h⟩, fun z => nomatch z⟩
    · rw [decide_eq_false e, valV_neg e]
      exact valT k t
theorem kin_t (ds : List D) : kin (.tuple ds) = if (keysOf ds).isSome = true then 2 else 0 := rfl
theorem kin1 {k : D} (h : kin k = 1) : ∃ x : Key, k = keyD x := by
  cases k with
  | int i => exact ⟨.inl i, rfl⟩
  | str x => exact ⟨.inr x, rfl⟩
  | tuple ds =>
    rw [kin_t] at h
    by_cases hs : (keysOf ds).isSome = true
    · rw [if_pos hs] at h; omega
    · rw [if_neg hs] at h; omega
  | _ => cases h
theorem kin2 {k : D} (h : kin k = 2) : ∃ x : List Key, k = .tuple (x.map keyD) := by
  cases k with
  | tuple ds =>
    rw [kin_t] at h
    by_cases hs : (keysOf ds).isSome = true
    · obtain ⟨ks, e⟩ := Option.isSome_iff_exists.mp hs
      exact ⟨ks, by rw [← keysOf_inv e]⟩
    · rw [if_neg hs] at h; omega
  | _ => cases h
theorem kin_le (k : D) : kin k = 0 ∨ kin k = 1 ∨ kin k = 2 := by
  cases k <;> simp [kin]
  rename_i ds
  cases keysOf ds <;> simp
theorem kin_keyD (x : Key) : kin (keyD x) = 1 := by cases x <;> rfl
theorem keysOf_map : ∀ x : List Key, keysOf (x.map keyD) = some x
  | [] => rfl
  | k :: ks => by
    rw [List.map_cons]
    unfold keysOf
    rw [keysOf_map ks]
    cases k <;> rfl
theorem kin_tup (x : List Key) : kin (.tuple (x.map keyD)) = 2 := by
  rw [kin_t, keysOf_map]
  rfl
/-- the value of a tuple of keys -/
theorem dr_keys : ∀ {K : PySem.W.Frag} {xs : List V} {ks : List Key}, DrA K G xs (ks.map keyD) → xs = ks.map kV
  | _, _, [], .nil => rfl
  | _, _, .inl i :: ks, .cons h t => by
    cases h
    rw [dr_keys t]
    rfl
  | _, _, .inr x :: ks, .cons h t => by
    cases h
    rw [dr_keys t]
    rfl
theorem dr_key {K : PySem.W.Frag} {v : V} {k : Key} (h : Dr K G v (keyD k)) : v = kV k := by
  cases k <;> (cases h; rfl)
/-- a dict looked up at a key that fits -/
theorem dict_at {x y : V} {kvs : List (D × D)} {k : D} (I : Inv X pins σ H s) (m : Same G H) (hx : DrB X.K G H x (.dict kvs)) (hy : DrB X.K G H y k) (hk : kfit kvs k = true) :
    ∃ a H2 o, x = .ref a ∧ Inv X pins σ H2 s ∧ (∀ s', Inv X pins σ H2 s' → Inv X pins σ H s') ∧ DGet H2 a y o ∧ IsD H a ∧
      (∀ d, dget kvs k = some d → ∃ v, o = some v ∧ Dr X.K G v d) ∧ (dget kvs k = none → o = none) := by
  unfold kfit at hk
  simp only [Bool.and_eq_true, List.all_eq_true, beq_iff_eq, bne_iff_ne] at hk
  obtain ⟨h0, hk⟩ := hk
  obtain ⟨a, rfl, ⟨ws, hr, t⟩ | ⟨ws, hr, t⟩⟩ := hx.dic m
  · rcases kin_le k with h | h | h
    · exact absurd h h0
    · obtain ⟨z, rfl⟩ := kin1 h
      obtain rfl := dr_key (hy.old (by cases z <;> rfl))
      exact ⟨a, H, _, rfl, I, fun _ I => I, .inl ⟨ws, z, hr.rd, rfl, rfl⟩, .inl ⟨_, hr.rd⟩, (valK z t).1, (valK z t).2⟩
    · obtain ⟨z, rfl⟩ := kin2 h
      cases t with
      | cons h1 t1 =>
        have := hk _ List.mem_cons_self
        rw [kin_keyD, h] at this
        cases this
      | nil =>
        obtain ⟨b, xs, rfl, hb, kb⟩ := hy.tup
        obtain rfl := dr_keys kb
        have hd : H a = some (.dK []) := by
          rcases hr with hr | ⟨n, _⟩
          · exact hr
          · exact absurd rfl n
        have hb2 : upd H a (.dT []) b = some (.tup (z.map kV)) := by rw [upd_ne (ne_of (m _ _ hb) hd (by intro z; cases z))]; exact m _ _ hb
        refine ⟨a, _, none, rfl, toT I hd, fun s' J => ?_, .inr ⟨[], z, b, .inl upd_same, rfl, hb2, rfl⟩, .inl ⟨_, .inl hd⟩, fun d h => (by cases h), fun _ => rfl⟩
        have := toK J upd_same
        rwa [back_upd hd] at this
  · rcases kin_le k with h | h | h
    · exact absurd h h0
    · obtain ⟨z, rfl⟩ := kin1 h
      cases t with
      | cons h1 t1 =>
        have := hk _ List.mem_cons_self
        rw [kin_tup, h] at this
        cases this
      | nil =>
        obtain rfl := dr_key (hy.old (by cases z <;> rfl))
        have hd : H a = some (.dT []) := by
          rcases hr with hr | ⟨n, _⟩
          · exact hr
          · exact absurd rfl n
        refine ⟨a, _, none, rfl, toK I hd, fun s' J => ?_, .inl ⟨[], z, .inl upd_same, rfl, rfl⟩, .inr ⟨_, .inl hd⟩, fun d h => (by cases h), fun _ => rfl⟩
        have := toT J upd_same
        rwa [back_upd hd] at this
    · obtain ⟨z, rfl⟩ := kin2 h
      obtain ⟨b, xs, rfl, hb, kb⟩ := hy.tup
      obtain rfl := dr_keys kb
      exact ⟨a, H, _, rfl, I, fun _ I => I, .inr ⟨ws, z, b, hr.rd, rfl, m _ _ hb, rfl⟩, .inr ⟨_, hr.rd⟩, (valT z t).1, (valT z t).2⟩
end
section
variable {X : Cx} {xa : XA} {W : WX}
theorem isSome_of {o : Option V} {kvs : List (D × D)} {k : D} {K : PySem.W.Frag} {G : Hp} (h1 : ∀ d, dget kvs k = some d → ∃ v, o = some v ∧ Dr K G v d) (h2 : dget kvs k = none → o = none) : o.isSome = (dget kvs k).isSome := by
  cases e : dget kvs k with
  | none => rw [h2 e]; rfl
  | some d => obtain ⟨v, h, _⟩ := h1 d e; rw [h]; rfl
theorem op_cmpX (hu : X.A.units + 66 < cLine) (o : CmpOp) : OpR X (compareOp o) (rOp X.K xa W (oCmp o) ol) := by
  rintro pins s σ H x y v u Q I rx ry ⟨ioa, F, G, env, σ', dx, dy, S, hx, hy, q⟩
  obtain ⟨as, r1, _⟩ := DrB.reads I S.gh hx rx
  obtain ⟨bs, r2, _⟩ := DrB.reads I S.gh hy ry
  have hu64 : X.A.units + 64 < cLine := by omega
  unfold oCmp at q
  split at q
  · split at q
    · rename_i hz
      exact SeqAt.eq_plain r1 r2 (pl_l hz).1 (pl_l hz).2.1 (by have := (pl_l hz).2.2; omega) ⟨.bl _, H, I, rfl, ans_ol q S (.bl _)⟩
    · exact q.elim
  · split at q
    · rename_i hz
      exact SeqAt.ne_plain r1 r2 (pl_l hz).1 (pl_l hz).2.1 (by have := (pl_l hz).2.2; omega) ⟨.bl _, H, I, rfl, ans_ol q S (.bl _)⟩
    · exact q.elim
  · cases hl : lt1 dx dy with
    | none => rw [hl] at q; exact q.elim
    | some b =>
      rw [hl] at q
      rcases lt1_cases hl with ⟨i, j, rfl, rfl, rfl⟩ | ⟨h1, h2, h3, h4, h5, rfl⟩
      · obtain rfl := hx.int
        obtain rfl := hy.int
        exact op_lt pins s σ H _ _ v u Q I rx ry ⟨_, _, rfl, rfl, ans_ol q S (.bl _)⟩
      · exact PySem.W.lt_data r1 r2 h1 h3 (min_depth h5 hu64) ⟨.bl _, H, I, rfl, ans_ol q S (.bl _)⟩
  · cases hl : lt1 dy dx with
    | none => rw [hl] at q; exact q.elim
    | some b =>
      rw [hl] at q
      rcases lt1_cases hl with ⟨i, j, rfl, rfl, rfl⟩ | ⟨h1, h2, h3, h4, h5, rfl⟩
      · obtain rfl := hx.int
        obtain rfl := hy.int
        exact op_gt pins s σ H _ _ v u Q I rx ry ⟨_, _, rfl, rfl, ans_ol q S (.bl _)⟩
      · exact PySem.W.gt_data r1 r2 h2 h4 (min_depth' h5 hu64) ⟨.bl _, H, I, rfl, ans_ol q S (.bl _)⟩
  · cases hl : lt1 dy dx with
    | none => rw [hl] at q; exact q.elim
    | some b =>
      rw [hl] at q
      rcases lt1_cases hl with ⟨i, j, rfl, rfl, rfl⟩ | ⟨h1, h2, h3, h4, h5, rfl⟩
      · obtain rfl := hx.int
        obtain rfl := hy.int
        refine op_le pins s σ H _ _ v u Q I rx ry ⟨_, _, rfl, rfl, ?_⟩
        have := ans_ol q S (.bl _)
        rwa [show (!decide (i < j)) = decide (j ≤ i) by by_cases h : i < j <;> simp [h] <;> omega] at this
      · exact PySem.W.le_data r1 r2 h2 h4 (min_depth' h5 hu64) ⟨.bl _, H, I, rfl, ans_ol q S (.bl _)⟩
  · cases hl : lt1 dx dy with
    | none => rw [hl] at q; exact q.elim
    | some b =>
      rw [hl] at q
      rcases lt1_cases hl with ⟨i, j, rfl, rfl, rfl⟩ | ⟨h1, h2, h3, h4, h5, rfl⟩
      · obtain rfl := hx.int
        obtain rfl := hy.int
        refine op_ge pins s σ H _ _ v u Q I rx ry ⟨_, _, rfl, rfl, ?_⟩
        have := ans_ol q S (.bl _)
        rwa [show (!decide (i < j)) = decide (j ≤ i) by by_cases h : i < j <;> simp [h] <;> omega] at this
      · exact PySem.W.ge_data r1 r2 h1 h3 (min_depth h5 hu64) ⟨.bl _, H, I, rfl, ans_ol q S (.bl _)⟩
  · obtain rfl := hy.non
    refine op_isN pins s σ H _ _ v u Q I rx ry ⟨rfl, ?_⟩
    have := ans_ol q S (.bl _)
    rwa [show isNone dx = decide (x = V.non) from by
      rcases hx with hx | ⟨a, rfl, o, _, t⟩
      · cases hx <;> simp [isNone]
      · cases t <;> simp [isNone]] at this
  · obtain rfl := hy.non
    refine op_notN pins s σ H _ _ v u Q I rx ry ⟨rfl, ?_⟩
    have := ans_ol q S (.bl _)
    rwa [show isNone dx = decide (x = V.non) from by
      rcases hx with hx | ⟨a, rfl, o, _, t⟩
      · cases hx <;> simp [isNone]
      · cases t <;> simp [isNone]] at this
  · split at q
    · rename_i hz
      exact SeqAt.in_list_reads r2 r1 (SeqAt.canLay_of_shaped (shp_l hz).2) (SeqAt.canLay_of_shaped (shp_l hz).1) (room_in_shaped (shp_l hz).1 (by omega)) ⟨.bl _, H, I, rfl, ans_ol q S (.bl _)⟩
    · exact q.elim
  · split at q
    · rename_i hz
      exact SeqAt.in_tuple_reads r2 r1 (SeqAt.canLay_of_shaped (shp_l hz).2) (SeqAt.canLay_of_shaped (shp_l hz).1) (room_in_shaped (shp_l hz).1 (by omega)) ⟨.bl _, H, I, rfl, ans_ol q S (.bl _)⟩
    · exact q.elim
  · split at q
    · rename_i hz
      obtain ⟨a, H2, ov, rfl, I2, bk, g, _, k1, k2⟩ := dict_at I S.gh hy hx hz
      obtain rfl : u = Value.ref a := ry
      exact d_in (by omega) I2 g rx fun s' I' => ⟨.bl _, H, bk s' I', by rw [isSome_of k1 k2]; rfl, ans_ol q S (.bl _)⟩
    · exact q.elim
  · split at q
    · rename_i hz
      exact SeqAt.notIn_list_reads r2 r1 (SeqAt.canLay_of_shaped (shp_l hz).2) (SeqAt.canLay_of_shaped (shp_l hz).1) (room_in_shaped (shp_l hz).1 (by omega)) ⟨.bl _, H, I, rfl, ans_ol q S (.bl _)⟩
    · exact q.elim
  · split at q
    · rename_i hz
      exact SeqAt.notIn_tuple_reads r2 r1 (SeqAt.canLay_of_shaped (shp_l hz).2) (SeqAt.canLay_of_shaped (shp_l hz).1) (room_in_shaped (shp_l hz).1 (by omega)) ⟨.bl _, H, I, rfl, ans_ol q S (.bl _)⟩
    · exact q.elim
  · split at q
    · rename_i hz
      obtain ⟨a, H2, ov, rfl, I2, bk, g, _, k1, k2⟩ := dict_at I S.gh hy hx hz
      obtain rfl : u = Value.ref a := ry
      exact d_notIn (by omega) I2 g rx fun s' I' => ⟨.bl _, H, bk s' I', by rw [isSome_of k1 k2]; rfl, ans_ol q S (.bl _)⟩
    · exact q.elim
  · exact q.elim
end
end Rv
end
section
/-! Rv, part 7: subscripts, slices, types, truth, and what a dict's or list's method tells. -/
namespace Rv
open PySem PySem.Spec PyProof.Rows L2
section
variable {X : Cx} {xa : XA} {W : WX}
theorem atI_dr {K : PySem.W.Frag} {G : Hp} {xs : List V} {ds : List D} {i : Int} {d : D} (k : DrA K G xs ds) (h : L2.atI ds i = some d) : ∃ v, L2.atI xs i = some v ∧ Dr K G v d := by
  unfold L2.atI at h ⊢
  rw [k.length]
  cases e : L2.ixN ds.length i with
  | none => rw [e] at h; cases h
  | some j =>
    rw [e] at h
    exact k.get h
theorem oIdx_cases {x y d : D} (h : oIdx x y = some d) : (∃ xs k, x = .list xs ∧ y = .int k ∧ L2.atI xs k = some d) ∨ (∃ xs k, x = .tuple xs ∧ y = .int k ∧ L2.atI xs k = some d) ∨ ∃ kvs, x = .dict kvs ∧ kfit kvs y = true ∧ dget kvs y = some d := by
  unfold oIdx at h
  split at h
  · exact .inl ⟨_, _, rfl, rfl, h⟩
  · exact .inr (.inl ⟨_, _, rfl, rfl, h⟩)
  · split at h
    · rename_i hz
      exact .inr (.inr ⟨_, rfl, hz, h⟩)
    · cases h
  · cases h
theorem ix_X (hu : X.A.units + 66 < cLine) : IxR X (rOp X.K xa W oIdx ol) := by
  rintro value slice pins s σ H x y v u Q I rx ry ⟨ioa, F, G, env, σ', dx, dy, S, hx, hy, q⟩ hs
  cases e : oIdx dx dy with
  | none => rw [e] at q; exact q.elim
  | some d =>
    rw [e] at q
    rcases oIdx_cases e with ⟨xs, k, rfl, rfl, e⟩ | ⟨xs, k, rfl, rfl, e⟩ | ⟨kvs, rfl, hz, e⟩
    · obtain rfl := hy.int
      obtain ⟨a, vs, rfl, ha, ka⟩ := hx.lst S.gh
      obtain ⟨w, h1, h2⟩ := atI_dr ka e
      exact ix_list value slice pins s σ H _ _ v u Q I rx ry ⟨a, vs, k, w, rfl, rfl, ha.seq, h1, ans_ol q S h2⟩ hs
    · obtain rfl := hy.int
      obtain ⟨a, vs, rfl, ha, ka⟩ := hx.tup
      obtain ⟨w, h1, h2⟩ := atI_dr ka e
      exact ix_tup value slice pins s σ H _ _ v u Q I rx ry ⟨a, vs, k, w, rfl, rfl, SqT.of (S.gh _ _ ha), h1, ans_ol q S h2⟩ hs
    · obtain ⟨a, H2, ov, rfl, I2, bk, g, _, k1, k2⟩ := dict_at I S.gh hx hy hz
      obtain ⟨w, rfl, h2⟩ := k1 _ e
      obtain rfl : v = Value.ref a := rx
      exact tail_any (dict_typeIs I2 g) PySem.F.slot_dict_getitem.lookup (d_getItem (by omega) I2 g ry fun w' s' I' rw' => ⟨w, H, bk s' I', rw', ans_ol q S h2⟩) hs
/-- what a slice gives, by data -/
def rSl (K : PySem.W.Frag) (xa : XA) (W : WX) : V → Option Int → Option Int → Hp → VK → Prop := fun x lo hi H Q =>
  ∃ ioa F G env σ dx, Sim K ioa F G env σ H ∧ DrB K G H x dx ∧ oR K xa W (RE K) ioa F σ (nw (oSlc dx lo hi) env) G Q
theorem cut_dr {K : PySem.W.Frag} {G : Hp} {xs : List V} {ds : List D} (lo hi : Option Int) (k : DrA K G xs ds) : DrA K G (cutV xs lo hi) (cut ds lo hi) := by
  unfold cutV cut
  rw [k.length]
  exact (k.drop _).take _
theorem cut_whole {ds : List D} {lo hi : Option Int} (h : HT.sIx ds.length 0 lo = 0 ∧ HT.sIx ds.length ds.length hi = ds.length) : cut ds lo hi = ds := by
  unfold cut
  rw [h.1, h.2]
  simp
theorem sl_X : SlR X (rSl X.K xa W) := by
  rintro pins s σ H x v vl vu lo hi sl Q I rx hs pl pu ⟨ioa, F, G, env, σ', dx, S, hx, q⟩
  cases dx with
  | list ds =>
    obtain ⟨a, vs, rfl, ha, ka⟩ := hx.lst S.gh
    exact sl_list pins s σ H _ v vl vu lo hi sl Q I rx hs pl pu ⟨a, vs, rfl, ha.seq, fun p hp => ans_new q S hp (.lst (cut_dr lo hi ka))⟩
  | tuple ds =>
    obtain ⟨a, vs, rfl, ha, ka⟩ := hx.tup
    refine sl_tupA pins s σ H _ v vl vu lo hi sl Q I rx hs pl pu ⟨a, vs, rfl, SqT.of (S.gh _ _ ha), fun hw => ?_, fun _ p hp => ans_tup q S hp (cut_dr lo hi ka)⟩
    have q : oR X.K xa W (RE X.K) ioa F σ' (.ok (false, .tuple (cut ds lo hi)) env) G Q := q
    rw [cut_whole (by rw [← ka.length]; exact hw)] at q
    exact oR_ok q S (Dr.tup ha ka)
  | _ => exact q.elim
/-! ### types -/
def tyN : D → String
  | .none => "NoneType"
  | .bool _ => "bool"
  | .int _ => "int"
  | .str _ => "str"
  | .list _ => "list"
  | .tuple _ => "tuple"
  | .dict _ => "dict"
def Ty.nm : Ty → String
  | .int => "int"
  | .bool => "bool"
  | .str => "str"
  | .tuple => "tuple"
  | .list => "list"
  | .dict => "dict"
theorem kit_tab : ∀ t : Ty, kitB "NoneType" t.nm = some false ∧ kitB "bool" t.nm = some (oIs (.bool true) t) ∧ kitB "int" t.nm = some (oIs (.int 0) t) ∧ kitB "str" t.nm = some (oIs (.str ⟨#[]⟩) t) ∧
    kitB "list" t.nm = some (oIs (.list []) t) ∧ kitB "tuple" t.nm = some (oIs (.tuple []) t) ∧ kitB "dict" t.nm = some (oIs (.dict []) t) := by
  intro t
  cases t <;> exact ⟨by decide +kernel, by decide +kernel, by decide +kernel, by decide +kernel, by decide +kernel, by decide +kernel, by decide +kernel⟩
theorem kit_d (d : D) (t : Ty) : kitB (tyN d) t.nm = some (oIs d t) := by
  obtain ⟨h1, h2, h3, h4, h5, h6, h7⟩ := kit_tab t
  cases d with
  | none => exact h1.trans (by cases t <;> rfl)
  | bool b => exact h2.trans (by cases t <;> rfl)
  | int b => exact h3.trans (by cases t <;> rfl)
  | str b => exact h4.trans (by cases t <;> rfl)
  | list b => exact h5.trans (by cases t <;> rfl)
  | tuple b => exact h6.trans (by cases t <;> rfl)
  | dict b => exact h7.trans (by cases t <;> rfl)
theorem kit_reads {K : PySem.W.Frag} {h : Heap} {u : Value} {d : D} {as : List Addr} (r : Reads h u d as) : ∃ P : Heap → Prop, PySem.W.KitX K u (.type (tyN d)) P ∧ P h ∧ u ≠ .builtin "__main__.__loader__#opaque" := by
  cases r with
  | none => exact ⟨_, PySem.W.kitx_none, True.intro, fun z => nomatch z⟩
  | bool b => exact ⟨_, PySem.W.kitx_bool, True.intro, fun z => nomatch z⟩
  | int i t => exact ⟨_, PySem.W.kitx_int, True.intro, fun z => nomatch z⟩
  | str x t => exact ⟨_, PySem.W.kitx_str, True.intro, fun z => nomatch z⟩
  | list h1 h2 h3 h4 => exact ⟨_, PySem.W.kitx_list, ⟨_, h1, h2⟩, fun z => nomatch z⟩
  | tuple h1 h2 h3 h4 => exact ⟨_, PySem.W.kitx_tuple, ⟨_, h1, h2⟩, fun z => nomatch z⟩
  | dict h1 h2 h3 h4 h5 => exact ⟨_, PySem.W.kitx_dict, ⟨_, h1, h2⟩, fun z => nomatch z⟩
/-- isinstance(x, T) by data -/
def rIsiD (K : PySem.W.Frag) (t : Ty) : List V → Hp → VK → Prop := fun xs H Q => ∃ x d G, xs = [x, .ty t.nm] ∧ Same G H ∧ DrB K G H x d ∧ Q (.bl (oIs d t)) H
theorem call_isiD (t : Ty) : CallR X (.builtin "isinstance") (rIsiD X.K t) := by
  rintro pins s σ H xs us Q I r ⟨x, d, G, rfl, m, hx, q⟩
  obtain ⟨u1, u2, rfl, r1, r2⟩ := vals2 r
  obtain rfl : u2 = Value.type t.nm := r2
  obtain ⟨as, rd, _⟩ := DrB.reads I m hx r1
  obtain ⟨P, Z, p, hn⟩ := kit_reads (K := X.K) rd
  exact PySem.W.kia_one Z I.kIn p (kit_ty (kit_d d t)) hn fun tk => ⟨.bl _, H, I.tok tk, rfl, q⟩
/-! ### truth -/
theorem tru_X {K : PySem.W.Frag} {G H : Hp} {v : V} {d : D} {b : Bool} (m : Same G H) (h : DrB K G H v d) (e : tru d = some b) : TruV K v H b := by
  cases d with
  | none => obtain rfl := h.non; cases e; rfl
  | bool x => obtain rfl := h.bl; cases e; rfl
  | int x => obtain rfl := h.int; cases e; rfl
  | str x =>
    obtain rfl := h.str
    have e : (if small x.length = true then some (x.length != 0) else none) = some b := e
    by_cases hz : small x.length = true
    · rw [if_pos hz] at e
      cases e
      refine ⟨small_le hz, ?_⟩
      generalize x.length = n
      by_cases h0 : n = 0
      · subst h0; rfl
      · have h1 : ¬ ((n : Int) = 0) := by omega
        rw [bne, bne, beq_eq_false_iff_ne.mpr h0, beq_eq_false_iff_ne.mpr h1]
    · rw [if_neg hz] at e
      cases e
  | list xs =>
    obtain ⟨a, vs, rfl, ha, ka⟩ := h.lst m
    cases e
    refine .inl ⟨vs, ha.seq, ?_⟩
    cases ka <;> rfl
  | tuple xs =>
    obtain ⟨a, vs, rfl, ha, ka⟩ := h.tup
    cases e
    refine .inr (.inl ⟨vs, SqT.of (m _ _ ha), ?_⟩)
    cases ka <;> rfl
  | dict _ => cases e
/-! ### d.get(k), d.get(k, x), xs.index(x) -/
def rGet (K : PySem.W.Frag) (xa : XA) (W : WX) : V → List V → Hp → VK → Prop := fun x vs H Q => ∃ ioa F G env σ dx dk df y, Sim K ioa F G env σ H ∧ DrB K G H x dx ∧ DrB K G H y dk ∧ oR K xa W (RE K) ioa F σ (ol (dgetOr dx dk df) env) G Q ∧
  ((vs = [y] ∧ df = .none) ∨ ∃ z, vs = [y, z] ∧ Dr K G z df)
theorem getD_dr {K : PySem.W.Frag} {G : Hp} {o : Option V} {kvs : List (D × D)} {k df : D} {z : V} (h1 : ∀ d, dget kvs k = some d → ∃ v, o = some v ∧ Dr K G v d) (h2 : dget kvs k = none → o = none) (hz : Dr K G z df) : Dr K G (o.getD z) ((dget kvs k).getD df) := by
  cases e : dget kvs k with
  | none => rw [h2 e]; exact hz
  | some d => obtain ⟨v, rfl, h⟩ := h1 d e; exact h
theorem dgetOr_cases {x k df d : D} (h : dgetOr x k df = some d) : ∃ kvs, x = .dict kvs ∧ kfit kvs k = true ∧ d = (dget kvs k).getD df := by
  unfold dgetOr at h
  split at h
  · split at h
    · rename_i hz
      cases h
      exact ⟨_, rfl, hz, rfl⟩
    · cases h
  · cases h
theorem mt_getX (hu : X.A.units + 66 < cLine) : MtR X "dict.get" (rGet X.K xa W) := by
  rintro pins s σ H x xs v us Q I rx rxs ⟨ioa, F, G, env, σ', dx, dk, df, y, S, hx, hy, q, hv⟩
  cases e : dgetOr dx dk df with
  | none => rw [e] at q; exact q.elim
  | some d =>
    rw [e] at q
    obtain ⟨kvs, rfl, hz, rfl⟩ := dgetOr_cases e
    obtain ⟨a, H2, ov, rfl, I2, bk, g, _, k1, k2⟩ := dict_at I S.gh hx hy hz
    obtain rfl : v = Value.ref a := rx
    rcases hv with ⟨rfl, rfl⟩ | ⟨z, rfl, hzd⟩
    · obtain ⟨u, rfl, ru⟩ := rxs.one
      exact d_get1 (by omega) I2 g ru fun w' s' I' rw' => ⟨_, H, bk s' I', rw', ans_ol q S (getD_dr k1 k2 .non)⟩
    · obtain ⟨u, u2, rfl, ru, ru2⟩ := rxs.two
      exact d_get2 (by omega) I2 g ru ru2 fun w' s' I' rw' => ⟨_, H, bk s' I', rw', ans_ol q S (getD_dr k1 k2 hzd)⟩
theorem isD_of {K : PySem.W.Frag} {G H : Hp} {v : V} {kvs : List (D × D)} (m : Same G H) (h : DrB K G H v (.dict kvs)) : ∃ a, v = .ref a ∧ IsD H a := by
  obtain ⟨a, rfl, ⟨ws, hr, _⟩ | ⟨ws, hr, _⟩⟩ := h.dic m
  · exact ⟨a, rfl, .inl ⟨_, hr.rd⟩⟩
  · exact ⟨a, rfl, .inr ⟨_, hr.rd⟩⟩
end
/-- a call of a method of a dict or list by the receiver's type: what must be seen of the text -/
structure Mth (X : Cx) (o : Expr) (m : Str) (apos : Pos) (es : List Expr) (cpos : Pos) : Prop where
  base : attributeBase o m X.env (eval o X.env) = eval o X.env
  few : ((backTo cpos (starEach es X.env)).all (fun x => !x.1) && (backToKw cpos (keywordEach [] X.env)).all (fun x => x.1.isSome)
    && decide (es.length + ([] : List Keyword).length + (if ([] : List Keyword).isEmpty then 0 else 1) < 30)) = true
  line : (apos.endLine == cpos.line) = true
section
variable {X : Cx} {o e : Expr} {es : List Expr} {apos cpos : Pos} {td : TE} {t : TA} {name : Str} {T id : String} {r : V → List V → Hp → VK → Prop}
/-- what a receiver is -/
def IsT (K : PySem.W.Frag) (T : String) (x : V) (H : Hp) : Prop := ∃ a, x = .ref a ∧ ((T = "dict" ∧ IsD H a) ∨ (T = "list" ∧ ∃ xs, SqL K H a xs))
theorem isT_is {pins : List (Addr × Obj)} {σ : L2.St} {H : Hp} {s : Shared} {x : V} {v : Value} (I : Inv X pins σ H s) (r : RelV x v) (ty : IsT X.K T x H) :
    s.TypeIs v T ∧ ∀ a, v = .ref a → ∃ ob, s.heap.get? a = some ob ∧ ob.dict = none := by
  obtain ⟨a, rfl, ⟨rfl, d⟩ | ⟨rfl, xs, h⟩⟩ := ty
  · obtain rfl : v = Value.ref a := r
    obtain ⟨t1, t2, _⟩ := isD_at I d
    exact ⟨t1, t2⟩
  · obtain rfl : v = Value.ref a := r
    obtain ⟨its, rv, ⟨ob, n, h1, h2, h3, h4⟩, _⟩ := I.list h
    exact ⟨⟨ob, h1, h2⟩, fun b q => by cases q; exact ⟨ob, h1, h3⟩⟩
def tMt (K : PySem.W.Frag) (T : String) (r : V → List V → Hp → VK → Prop) (td : TE) (t : TA) : TE := fun σ H Q => td σ H fun x H1 => IsT K T x H1 ∧ t σ H1 fun xs H2 => r x xs H2 Q
theorem pe_mt (pa : PlainAttrs T) (slot : Slot T name id) (hty : typeOf (.builtin id) = pure (.type "method_descriptor")) (hm : MtR X id r) (ho : PE X o td) (ha : PA X (e :: es) t) (m : Mth X o name apos (e :: es) cpos)
    (hs : starEach (e :: es) X.env = (false, eval e X.env) :: starEach es X.env) (hplain : (backTo cpos (starEach es X.env)).any (·.1) = false) : PE X (.Call (.Attribute o name apos) (e :: es) [] cpos) (tMt X.K T r td t) := by
  refine ⟨fun pins s σ H Q I h => ?_⟩
  refine wpAny_Call_method_late m.base m.few m.line rfl (thn (ho.run pins s σ H _ I h) fun v s1 ⟨x, H1, I1, r1, ty, q1⟩ => ?_)
  obtain ⟨h1, h2⟩ := isT_is I1 r1 ty
  refine ⟨T, id, pa, slot, hty, h1, h2, ?_⟩
  have hA := ha.run cpos pins s1 σ H1 _ I1 q1
  rw [hs] at hA ⊢
  refine Calls.callWith_builtin (by
    show (false || (backTo cpos (starEach es X.env)).any (·.1)) = false
    rw [hplain]
    rfl) (Calls.evalArgs_plain ?_)
  exact thn hA fun us s2 ⟨vs, H2, I2, r2, q2⟩ => hm pins s2 σ H2 x vs v us Q I2 r1 r2 q2
theorem pe_mt0 (pa : PlainAttrs T) (slot : Slot T name id) (hty : typeOf (.builtin id) = pure (.type "method_descriptor")) (hm : MtR X id r) (ho : PE X o td)
    (hbase : attributeBase o name X.env (eval o X.env) = eval o X.env) (hline : (apos.endLine == cpos.line) = true) : PE X (.Call (.Attribute o name apos) [] [] cpos) (tMt X.K T r td tNil) := by
  refine ⟨fun pins s σ H Q I h => ?_⟩
  refine wpAny_Call_method0_late hbase hline (thn (ho.run pins s σ H _ I h) fun v s1 ⟨x, H1, I1, r1, ty, q1⟩ => ?_)
  obtain ⟨h1, h2⟩ := isT_is I1 r1 ty
  exact ⟨T, id, pa, slot, hty, h1, h2, Calls.callWith_builtin rfl (PySem.evalArgs_none (hm pins s1 σ H1 x [] v [] Q I1 r1 .nil q1))⟩
end
end Rv
end
section
/-! Rv, part 8: the builtins. -/
namespace Rv
open PySem PySem.Spec PyProof.Rows L2
/-- a builtin of one value, by data -/
def rB (K : PySem.W.Frag) (xa : XA) (W : WX) (op : D → Option D) : List V → Hp → VK → Prop := fun vs H Q =>
  ∃ ioa F G env σ x dx, vs = [x] ∧ Sim K ioa F G env σ H ∧ DrB K G H x dx ∧ oR K xa W (RE K) ioa F σ (nw (op dx) env) G Q
/-- .. of two -/
def rB2 (K : PySem.W.Frag) (xa : XA) (W : WX) (op : D → D → Option D) : List V → Hp → VK → Prop := fun vs H Q =>
  ∃ ioa F G env σ x y dx dy, vs = [x, y] ∧ Sim K ioa F G env σ H ∧ DrB K G H x dx ∧ DrB K G H y dy ∧ oR K xa W (RE K) ioa F σ (nw (op dx dy) env) G Q
section
variable {K : PySem.W.Frag} {G H : Hp}
theorem dr_ints : ∀ {vs : List V} {ds : List D} {ns : List Int}, DrA K G vs ds → intsOf ds = some ns → vs = ns.map V.int
  | _, _, ns, .nil, e => by cases e; rfl
  | _, _, ns, .cons (d := d) h k, e => by
    cases d with
    | int i =>
      rename_i vs ds
      have e : (intsOf ds).map (i :: ·) = some ns := e
      cases e2 : intsOf ds with
      | none => rw [e2] at e; cases e
      | some ms =>
        rw [e2] at e
        cases e
        cases h
        rw [dr_ints k e2]
        rfl
    | _ => cases e
theorem dr_bools : ∀ {vs : List V} {ds : List D} {ns : List Bool}, DrA K G vs ds → bools ds = some ns → vs = ns.map V.bl
  | _, _, ns, .nil, e => by cases e; rfl
  | _, _, ns, .cons (d := d) h k, e => by
    cases d with
    | bool i =>
      rename_i vs ds
      have e : (bools ds).map (i :: ·) = some ns := e
      cases e2 : bools ds with
      | none => rw [e2] at e; cases e
      | some ms =>
        rw [e2] at e
        cases e
        cases h
        rw [dr_bools k e2]
        rfl
    | _ => cases e
theorem maxL_spec : ∀ {xs : List Int} {m : Int}, maxL xs = some m → m ∈ xs ∧ ∀ y ∈ xs, y ≤ m := by
  have key : ∀ (xs : List Int) (x : Int), (xs.foldl (fun m y => if y > m then y else m) x = x ∨ xs.foldl (fun m y => if y > m then y else m) x ∈ xs) ∧ x ≤ xs.foldl (fun m y => if y > m then y else m) x ∧ ∀ y ∈ xs, y ≤ xs.foldl (fun m y => if y > m then y else m) x := by
    intro xs
    induction xs with
    | nil => intro x; exact ⟨.inl rfl, Int.le_refl _, fun y h => absurd h (by simp)⟩
    | cons z zs ih =>
      intro x
      rw [List.foldl_cons]
      obtain ⟨h1, h2, h3⟩ := ih (if z > x then z else x)
      refine ⟨?_, ?_, fun y hy => ?_⟩
      · rcases h1 with h1 | h1
        · rw [h1]
          by_cases c : z > x
          · rw [if_pos c]; exact .inr List.mem_cons_self
          · rw [if_neg c]; exact .inl rfl
        · exact .inr (List.mem_cons_of_mem _ h1)
      · refine Int.le_trans ?_ h2
        split <;> omega
      · rcases List.mem_cons.mp hy with rfl | hy
        · refine Int.le_trans ?_ h2
          split <;> omega
        · exact h3 y hy
  intro xs m h
  cases xs with
  | nil => cases h
  | cons x xs =>
    cases h
    obtain ⟨h1, h2, h3⟩ := key xs x
    refine ⟨?_, fun y hy => ?_⟩
    · rcases h1 with h1 | h1
      · rw [h1]; exact List.mem_cons_self
      · exact List.mem_cons_of_mem _ h1
    · rcases List.mem_cons.mp hy with rfl | hy
      · exact h2
      · exact h3 y hy
theorem minL_spec : ∀ {xs : List Int} {m : Int}, minL xs = some m → m ∈ xs ∧ ∀ y ∈ xs, m ≤ y := by
  have key : ∀ (xs : List Int) (x : Int), (xs.foldl (fun m y => if y < m then y else m) x = x ∨ xs.foldl (fun m y => if y < m then y else m) x ∈ xs) ∧ xs.foldl (fun m y => if y < m then y else m) x ≤ x ∧ ∀ y ∈ xs, xs.foldl (fun m y => if y < m then y else m) x ≤ y := by
    intro xs
    induction xs with
    | nil => intro x; exact ⟨.inl rfl, Int.le_refl _, fun y h => absurd h (by simp)⟩
    | cons z zs ih =>
      intro x
      rw [List.foldl_cons]
      obtain ⟨h1, h2, h3⟩ := ih (if z < x then z else x)
      refine ⟨?_, ?_, fun y hy => ?_⟩
      · rcases h1 with h1 | h1
        · rw [h1]
          by_cases c : z < x
          · rw [if_pos c]; exact .inr List.mem_cons_self
          · rw [if_neg c]; exact .inl rfl
        · exact .inr (List.mem_cons_of_mem _ h1)
      · refine Int.le_trans h2 ?_
        split <;> omega
      · rcases List.mem_cons.mp hy with rfl | hy
        · refine Int.le_trans h2 ?_
          split <;> omega
        · exact h3 y hy
  intro xs m h
  cases xs with
  | nil => cases h
  | cons x xs =>
    cases h
    obtain ⟨h1, h2, h3⟩ := key xs x
    refine ⟨?_, fun y hy => ?_⟩
    · rcases h1 with h1 | h1
      · rw [h1]; exact List.mem_cons_self
      · exact List.mem_cons_of_mem _ h1
    · rcases List.mem_cons.mp hy with rfl | hy
      · exact h2
      · exact h3 y hy
end
section
variable {X : Cx} {xa : XA} {W : WX}
theorem cr_len : CallR X (.builtin "len") (rB X.K xa W fun d => oB .len [d]) := by
  rintro pins s σ H xs us Q I r ⟨ioa, F, G, env, σ', x, dx, rfl, S, hx, q⟩
  cases dx with
  | list ds =>
    obtain ⟨a, vs, rfl, ha, ka⟩ := hx.lst S.gh
    refine call_len_seq pins s σ H _ us Q I r ⟨a, vs, rfl, .inl ha.seq, ?_⟩
    rw [ka.length]
    exact ans_nw (d := .int _) q rfl S (.int _)
  | tuple ds =>
    obtain ⟨a, vs, rfl, ha, ka⟩ := hx.tup
    refine call_len_seq pins s σ H _ us Q I r ⟨a, vs, rfl, .inr (SqT.of (S.gh _ _ ha)), ?_⟩
    rw [ka.length]
    exact ans_nw (d := .int _) q rfl S (.int _)
  | str z =>
    obtain rfl := hx.str
    have q : oR X.K xa W (RE X.K) ioa F σ' (nw (if small z.length then some (.int z.length) else none) env) G Q := q
    by_cases hz : small z.length = true
    · rw [if_pos hz] at q
      exact call_len_str pins s σ H _ us Q I r ⟨z, rfl, small_le hz, ans_nw (d := .int _) q rfl S (.int _)⟩
    · rw [if_neg hz] at q
      exact q.elim
  | dict kvs =>
    obtain ⟨a, rfl, ⟨ws, hr, kd⟩ | ⟨ws, hr, kd⟩⟩ := hx.dic S.gh
    · obtain ⟨u, rfl, rx⟩ := vals1 r
      obtain rfl : u = .ref a := rx
      refine d_len I hr.rd fun t s' I' => ⟨.int kvs.length, H, I', ⟨t, ?_⟩, ans_nw (d := .int _) q rfl S (.int _)⟩
      rw [kd.length]
    · obtain ⟨u, rfl, rx⟩ := vals1 r
      obtain rfl : u = .ref a := rx
      obtain ⟨z, hd, ys, rel, dd⟩ := dt_rd I.hok hr.rd
      have hl : ws.length = ys.length := Paired.length rel
      refine call_len_dictH hd dd (by rw [← hl]; rw [sizeLine_eq] at z; omega) ?_
      rw [← hl, kd.length]
      exact ⟨.int ((kvs.length : Nat) : Int), H, I.tok _, ⟨_, rfl⟩, ans_nw (d := .int _) q rfl S (.int _)⟩
  | _ => exact q.elim
theorem cr_tuple : CallR X (.type "tuple") (rB X.K xa W fun d => oB .tuple [d]) := by
  rintro pins s σ H xs us Q I r ⟨ioa, F, G, env, σ', x, dx, rfl, S, hx, q⟩
  cases dx with
  | list ds =>
    obtain ⟨a, vs, rfl, ha, ka⟩ := hx.lst S.gh
    exact call_tuple_of pins s σ H _ us Q I r ⟨a, vs, rfl, .inl ⟨ha.seq, fun l hl => ans_tup q S hl ka⟩⟩
  | tuple ds =>
    obtain ⟨a, vs, rfl, ha, ka⟩ := hx.tup
    exact call_tuple_of pins s σ H _ us Q I r ⟨a, vs, rfl, .inr ⟨SqT.of (S.gh _ _ ha), oR_ok (p := (false, PyData.tuple ds)) q S (Dr.tup ha ka)⟩⟩
  | _ => exact q.elim
theorem dr_keysK {K : PySem.W.Frag} {G : Hp} : ∀ {ws : List (Key × V)} {kvs : List (D × D)}, DrK K G ws kvs → DrA K G (ws.map fun kv => kV kv.1) (kvs.map (·.1))
  | _, _, .nil => .nil
  | _, _, .cons (x := x) h k => by
    refine .cons ?_ (dr_keysK k)
    cases x with
    | inl i => exact .int i
    | inr y => exact .str y
theorem dr_kV {K : PySem.W.Frag} {G : Hp} (k : Key) : Dr K G (kV k) (keyD k) := by
  cases k with
  | inl i => exact .int i
  | inr y => exact .str y
theorem dra_kV {K : PySem.W.Frag} {G : Hp} : ∀ ks : List Key, DrA K G (ks.map kV) (ks.map keyD)
  | [] => .nil
  | k :: ks => .cons (dr_kV k) (dra_kV ks)
theorem cr_sum' (hc : X.calm = true) : CallR X (.builtin "sum") (rB X.K xa W fun d => oB .sum [d]) := by
  rintro pins s σ H xs us Q I r ⟨ioa, F, G, env, σ', x, dx, rfl, S, hx, q⟩
  cases dx with
  | list ds =>
    obtain ⟨a, vs, rfl, ha, ka⟩ := hx.lst S.gh
    have q : oR X.K xa W (RE X.K) ioa F σ' (nw ((intsOf ds).map fun ns => .int ns.sum) env) G Q := q
    cases e : intsOf ds with
    | none => rw [e] at q; exact q.elim
    | some ns =>
      rw [e] at q
      obtain rfl := dr_ints ka e
      exact cr_sum hc pins s σ H _ us Q I r ⟨a, ns, rfl, ha.seq, ans_nw (d := .int _) q rfl S (.int _)⟩
  | tuple ds =>
    obtain ⟨a, vs, rfl, ha, ka⟩ := hx.tup
    have q : oR X.K xa W (RE X.K) ioa F σ' (nw ((intsOf ds).map fun ns => .int ns.sum) env) G Q := q
    cases e : intsOf ds with
    | none => rw [e] at q; exact q.elim
    | some ns =>
      rw [e] at q
      obtain rfl := dr_ints ka e
      obtain ⟨its, rv, hl, _⟩ := I.tuple (SqT.of (S.gh _ _ ha))
      rw [Vals.ref1 r]
      have hi := rv.ints
      obtain ⟨xs, hx⟩ := hi.allInts.items
      have hn : numsOf its.toArray.toList = ns := by rw [show its.toArray.toList = its from rfl, hi.numsOf]
      rw [hx] at hl hn
      rw [nums_intItems] at hn
      refine PySem.W.ktm_sumG (I.ok.hd hc) hl fun h' tk t' hk => ?_
      rw [preSum_eq, List.take_of_length_le (by simp), hn]
      exact ⟨.int _, H, I.kept hk, ⟨_, rfl⟩, ans_nw (d := .int _) q rfl S (.int _)⟩
  | _ => exact q.elim
theorem cr_int' : CallR X (.type "int") (rB X.K xa W fun d => oB .int [d]) := by
  rintro pins s σ H xs us Q I r ⟨ioa, F, G, env, σ', x, dx, rfl, S, hx, q⟩
  cases dx with
  | int i =>
    obtain rfl := hx.int
    exact call_int1 pins s σ H _ us Q I r (.inl ⟨i, rfl, ans_nw (d := .int _) q rfl S (.int _)⟩)
  | bool b =>
    obtain rfl := hx.bl
    exact call_int1 pins s σ H _ us Q I r (.inr ⟨b, rfl, ans_nw (d := .int _) q rfl S (.int _)⟩)
  | _ => exact q.elim
theorem cr_str' : CallR X (.type "str") (rB X.K xa W fun d => oB .str [d]) := by
  rintro pins s σ H xs us Q I r ⟨ioa, F, G, env, σ', x, dx, rfl, S, hx, q⟩
  cases dx with
  | int i =>
    obtain rfl := hx.int
    have q : oR X.K xa W (RE X.K) ioa F σ' (nw (if decide (i.natAbs.log2 < 1920) then some (.str (toString i)) else none) env) G Q := q
    by_cases hz : i.natAbs.log2 < 1920
    · rw [if_pos (decide_eq_true hz)] at q
      exact call_str_int pins s σ H _ us Q I r ⟨i, rfl, hz, ans_nw (d := .str _) q rfl S (.str _)⟩
    · rw [if_neg (by simpa using hz)] at q
      exact q.elim
  | _ => exact q.elim
theorem cr_abs' : CallR X (.builtin "abs") (rB X.K xa W fun d => oB .abs [d]) := by
  rintro pins s σ H xs us Q I r ⟨ioa, F, G, env, σ', x, dx, rfl, S, hx, q⟩
  cases dx with
  | int i =>
    obtain rfl := hx.int
    exact call_abs pins s σ H _ us Q I r ⟨i, rfl, ans_nw (d := .int _) q rfl S (.int _)⟩
  | _ => exact q.elim
theorem cr_any' (hc : X.calm = true) : CallR X (.builtin "any") (rB X.K xa W fun d => oB .any [d]) := by
  rintro pins s σ H xs us Q I r ⟨ioa, F, G, env, σ', x, dx, rfl, S, hx, q⟩
  cases dx with
  | list ds =>
    obtain ⟨a, vs, rfl, ha, ka⟩ := hx.lst S.gh
    have q : oR X.K xa W (RE X.K) ioa F σ' (nw ((bools ds).map fun ns => .bool (ns.any id)) env) G Q := q
    cases e : bools ds with
    | none => rw [e] at q; exact q.elim
    | some ns =>
      rw [e] at q
      obtain rfl := dr_bools ka e
      exact cr_any hc pins s σ H _ us Q I r ⟨a, ns, rfl, ha.seq, ans_nw (d := .bool _) q rfl S (.bl _)⟩
  | _ => exact q.elim
theorem cr_all' (hc : X.calm = true) : CallR X (.builtin "all") (rB X.K xa W fun d => oB .all [d]) := by
  rintro pins s σ H xs us Q I r ⟨ioa, F, G, env, σ', x, dx, rfl, S, hx, q⟩
  cases dx with
  | list ds =>
    obtain ⟨a, vs, rfl, ha, ka⟩ := hx.lst S.gh
    have q : oR X.K xa W (RE X.K) ioa F σ' (nw ((bools ds).map fun ns => .bool (ns.all id)) env) G Q := q
    cases e : bools ds with
    | none => rw [e] at q; exact q.elim
    | some ns =>
      rw [e] at q
      obtain rfl := dr_bools ka e
      exact cr_all hc pins s σ H _ us Q I r ⟨a, ns, rfl, ha.seq, ans_nw (d := .bool _) q rfl S (.bl _)⟩
  | _ => exact q.elim
theorem cr_max' (hc : X.calm = true) : CallR X (.builtin "max") (rB X.K xa W fun d => oB .max [d]) := by
  rintro pins s σ H xs us Q I r ⟨ioa, F, G, env, σ', x, dx, rfl, S, hx, q⟩
  cases dx with
  | list ds =>
    obtain ⟨a, vs, rfl, ha, ka⟩ := hx.lst S.gh
    have q : oR X.K xa W (RE X.K) ioa F σ' (nw (((intsOf ds).bind maxL).map .int) env) G Q := q
    cases e : intsOf ds with
    | none => rw [e] at q; exact q.elim
    | some ns =>
      rw [e] at q
      obtain rfl := dr_ints ka e
      cases e2 : maxL ns with
      | none =>
        have q : oR X.K xa W (RE X.K) ioa F σ' (nw ((maxL ns).map .int) env) G Q := q
        rw [e2] at q; exact q.elim
      | some m =>
        have q : oR X.K xa W (RE X.K) ioa F σ' (nw ((maxL ns).map .int) env) G Q := q
        rw [e2] at q
        obtain ⟨h1, h2⟩ := maxL_spec e2
        refine cr_max hc pins s σ H _ us Q I r ⟨a, ns, rfl, ha.seq, ?_, fun m' h3 h4 => ?_⟩
        · cases ns with
          | nil => cases e2
          | cons => simp
        · have : m' = m := Int.le_antisymm (h2 _ h3) (h4 _ h1)
          subst this
          exact ans_nw (d := .int _) q rfl S (.int _)
  | _ => exact q.elim
theorem cr_min' (hc : X.calm = true) : CallR X (.builtin "min") (rB X.K xa W fun d => oB .min [d]) := by
  rintro pins s σ H xs us Q I r ⟨ioa, F, G, env, σ', x, dx, rfl, S, hx, q⟩
  cases dx with
  | list ds =>
    obtain ⟨a, vs, rfl, ha, ka⟩ := hx.lst S.gh
    have q : oR X.K xa W (RE X.K) ioa F σ' (nw (((intsOf ds).bind minL).map .int) env) G Q := q
    cases e : intsOf ds with
    | none => rw [e] at q; exact q.elim
    | some ns =>
      rw [e] at q
      obtain rfl := dr_ints ka e
      cases e2 : minL ns with
      | none =>
        have q : oR X.K xa W (RE X.K) ioa F σ' (nw ((minL ns).map .int) env) G Q := q
        rw [e2] at q; exact q.elim
      | some m =>
        have q : oR X.K xa W (RE X.K) ioa F σ' (nw ((minL ns).map .int) env) G Q := q
        rw [e2] at q
        obtain ⟨h1, h2⟩ := minL_spec e2
        refine cr_min hc pins s σ H _ us Q I r ⟨a, ns, rfl, ha.seq, ?_, fun m' h3 h4 => ?_⟩
        · cases ns with
          | nil => cases e2
          | cons => simp
        · have : m' = m := Int.le_antisymm (h4 _ h1) (h2 _ h3)
          subst this
          exact ans_nw (d := .int _) q rfl S (.int _)
  | _ => exact q.elim
theorem cr_max2 (hc : X.calm = true) : CallR X (.builtin "max") (rB2 X.K xa W fun d e => oB .max [d, e]) := by
  rintro pins s σ H xs us Q I r ⟨ioa, F, G, env, σ', x, y, dx, dy, rfl, S, hx, hy, q⟩
  cases dx with
  | int i =>
    cases dy with
    | int j =>
      obtain rfl := hx.int
      obtain rfl := hy.int
      exact call_max2 hc pins s σ H _ us Q I r ⟨i, j, rfl, ans_nw (d := .int _) q rfl S (.int _)⟩
    | _ => exact q.elim
  | _ => exact q.elim
theorem cr_min2 (hc : X.calm = true) : CallR X (.builtin "min") (rB2 X.K xa W fun d e => oB .min [d, e]) := by
  rintro pins s σ H xs us Q I r ⟨ioa, F, G, env, σ', x, y, dx, dy, rfl, S, hx, hy, q⟩
  cases dx with
  | int i =>
    cases dy with
    | int j =>
      obtain rfl := hx.int
      obtain rfl := hy.int
      exact call_min2 hc pins s σ H _ us Q I r ⟨i, j, rfl, ans_nw (d := .int _) q rfl S (.int _)⟩
    | _ => exact q.elim
  | _ => exact q.elim
end
end Rv
end
section
/-! Rv, part 9: list(x), dict(xs), repr(x). -/
namespace Rv
open PySem PySem.Spec PyProof.Rows L2
section
variable {K : PySem.W.Frag} {G H : Hp}
/-! ### dicts, one more key -/
theorem anyK : ∀ {ws : List (Key × V)} {kvs : List (D × D)} (x : Key), DrK K G ws kvs → (ws.any fun kv => decide (kv.1 = x)) = kvs.any fun p => PyData.eqv p.1 (keyD x)
  | _, _, x, .nil => rfl
  | _, _, x, .cons (x := y) h k => by
    rw [List.any_cons, List.any_cons, anyK x k]
    show (decide (y = x) || _) = (PyData.eqv (keyD y) (keyD x) || _)
    rw [keyD_eqv]
theorem anyT : ∀ {ws : List (List Key × V)} {kvs : List (D × D)} (x : List Key), DrT K G ws kvs → (ws.any fun kv => decide (kv.1 = x)) = kvs.any fun p => PyData.eqv p.1 (.tuple (x.map keyD))
  | _, _, x, .nil => rfl
  | _, _, x, .cons (x := y) h k => by
    rw [List.any_cons, List.any_cons, anyT x k]
    show (decide (y = x) || _) = (PyData.eqv (.tuple (y.map keyD)) (.tuple (x.map keyD)) || _)
    rw [tupD_eqv]
theorem replK : ∀ {ws : List (Key × V)} {kvs : List (D × D)} (x : Key) {v : V} {d : D}, DrK K G ws kvs → Dr K G v d →
    DrK K G (ws.map fun kv => if kv.1 = x then (kv.1, v) else kv) (kvs.map fun p => if PyData.eqv p.1 (keyD x) then (p.1, d) else p)
  | _, _, x, _, _, .nil, _ => .nil
  | _, _, x, v, d, .cons (x := y) h k, hv => by
    rw [List.map_cons, List.map_cons]
    have e : PyData.eqv (keyD y) (keyD x) = decide (y = x) := keyD_eqv y x
    by_cases c : y = x
    · rw [if_pos c, if_pos (by show PyData.eqv (keyD y) (keyD x) = true; rw [e]; exact decide_eq_true c)]
      exact .cons hv (replK x k hv)
    · rw [if_neg c, if_neg (by show ¬ PyData.eqv (keyD y) (keyD x) = true; rw [e]; simpa using c)]
      exact .cons h (replK x k hv)
theorem replT : ∀ {ws : List (List Key × V)} {kvs : List (D × D)} (x : List Key) {v : V} {d : D}, DrT K G ws kvs → Dr K G v d →
    DrT K G (ws.map fun kv => if kv.1 = x then (kv.1, v) else kv) (kvs.map fun p => if PyData.eqv p.1 (.tuple (x.map keyD)) then (p.1, d) else p)
  | _, _, x, _, _, .nil, _ => .nil
  | _, _, x, v, d, .cons (x := y) h k, hv => by
    rw [List.map_cons, List.map_cons]
    have e : PyData.eqv (.tuple (y.map keyD)) (.tuple (x.map keyD)) = decide (y = x) := tupD_eqv y x
    by_cases c : y = x
    · rw [if_pos c, if_pos (by show PyData.eqv (.tuple (y.map keyD)) (.tuple (x.map keyD)) = true; rw [e]; exact decide_eq_true c)]
      exact .cons hv (replT x k hv)
    · rw [if_neg c, if_neg (by show ¬ PyData.eqv (.tuple (y.map keyD)) (.tuple (x.map keyD)) = true; rw [e]; simpa using c)]
      exact .cons h (replT x k hv)
theorem DrK.append : ∀ {ws us : List (Key × V)} {kvs es : List (D × D)}, DrK K G ws kvs → DrK K G us es → DrK K G (ws ++ us) (kvs ++ es)
  | _, _, _, _, .nil, h => h
  | _, _, _, _, .cons a k, h => .cons a (k.append h)
theorem DrT.append : ∀ {ws us : List (List Key × V)} {kvs es : List (D × D)}, DrT K G ws kvs → DrT K G us es → DrT K G (ws ++ us) (kvs ++ es)
  | _, _, _, _, .nil, h => h
  | _, _, _, _, .cons a k, h => .cons a (k.append h)
theorem DrK.put {ws : List (Key × V)} {kvs : List (D × D)} (x : Key) {v : V} {d : D} (k : DrK K G ws kvs) (h : Dr K G v d) : DrK K G (putK ws x v) (dput kvs (keyD x) d) := by
  unfold putK dput
  rw [anyK x k]
  by_cases c : (kvs.any fun p => PyData.eqv p.1 (keyD x)) = true
  · rw [if_pos c, if_pos c]
    exact replK x k h
  · rw [if_neg c, if_neg c]
    exact k.append (.cons h .nil)
theorem DrT.put {ws : List (List Key × V)} {kvs : List (D × D)} (x : List Key) {v : V} {d : D} (k : DrT K G ws kvs) (h : Dr K G v d) : DrT K G (putK ws x v) (dput kvs (.tuple (x.map keyD)) d) := by
  unfold putK dput
  rw [anyT x k]
  by_cases c : (kvs.any fun p => PyData.eqv p.1 (.tuple (x.map keyD))) = true
  · rw [if_pos c, if_pos c]
    exact replT x k h
  · rw [if_neg c, if_neg c]
    exact k.append (.cons h .nil)
theorem DrK.merge : ∀ {ms : List (Key × V)} {more : List (D × D)} {ws : List (Key × V)} {kvs : List (D × D)}, DrK K G ms more → DrK K G ws kvs → DrK K G (mergeK ws ms) (dmerge kvs more)
  | _, _, _, _, .nil, k => k
  | _, _, ws, kvs, .cons (x := x) h t, k => by
    unfold mergeK dmerge
    rw [List.foldl_cons, List.foldl_cons]
    exact DrK.merge t (k.put x h)
def mergeT (kvs more : List (List Key × V)) : List (List Key × V) := more.foldl (fun acc kv => putK acc kv.1 kv.2) kvs
theorem DrT.merge : ∀ {ms : List (List Key × V)} {more : List (D × D)} {ws : List (List Key × V)} {kvs : List (D × D)}, DrT K G ms more → DrT K G ws kvs → DrT K G (mergeT ws ms) (dmerge kvs more)
  | _, _, _, _, .nil, k => k
  | _, _, ws, kvs, .cons (x := x) h t, k => by
    unfold mergeT dmerge
    rw [List.foldl_cons, List.foldl_cons]
    exact DrT.merge t (k.put x h)
theorem putK_le {κ : Type} [DecidableEq κ] (kvs : List (κ × V)) (k : κ) (v : V) : (putK kvs k v).length ≤ kvs.length + 1 := by
  unfold putK
  split
  · rw [List.length_map]; exact Nat.le_succ _
  · rw [List.length_append]; exact Nat.le_refl _
theorem mergeT_le : ∀ (more kvs : List (List Key × V)), (mergeT kvs more).length ≤ kvs.length + more.length
  | [], kvs => Nat.le_refl _
  | p :: more, kvs => by
    have h := mergeT_le more (putK kvs p.1 p.2)
    have h2 := putK_le kvs p.1 p.2
    have e : mergeT kvs (p :: more) = mergeT (putK kvs p.1 p.2) more := rfl
    rw [e, List.length_cons]
    omega
/-! ### pairs -/
theorem pairs_cons {d : D} {ds : List D} {kvs : List (D × D)} (h : pairs (d :: ds) = some kvs) : ∃ k v r, d = .tuple [k, v] ∧ pairs ds = some r ∧ kvs = (k, v) :: r := by
  unfold pairs at h
  split at h
  · rename_i e
    cases e
  · rename_i k v ds' e
    cases e
    cases e2 : pairs ds with
    | none => rw [e2] at h; cases h
    | some r =>
      rw [e2] at h
      cases h
      exact ⟨k, v, r, rfl, rfl, rfl⟩
  · cases h
theorem pairsK : ∀ {xs : List V} {ds : List D} {kvs : List (D × D)}, DrA K G xs ds → pairs ds = some kvs → (kvs.all fun p => kin p.1 == 1) = true →
    ∃ ps ws, xs = ps.map V.ref ∧ Paired (fun p kv => G p = some (.tup [kV kv.1, kv.2])) ps ws ∧ DrK K G ws kvs
  | _, _, kvs, .nil, e, _ => by cases e; exact ⟨[], [], rfl, .nil, .nil⟩
  | _, _, kvs, .cons (v := v0) (d := d0) h k, e, h1 => by
    obtain ⟨kd, vd, r, rfl, e2, rfl⟩ := pairs_cons e
    simp only [List.all_cons, Bool.and_eq_true, beq_iff_eq] at h1
    obtain ⟨x, rfl⟩ := kin1 h1.1
    obtain ⟨ps, ws, rfl, hp, hk⟩ := pairsK k e2 (by simpa using h1.2)
    cases h with
    | tup hG hA =>
      rename_i a xs
      cases hA with
      | cons hx hA =>
        cases hA with
        | cons hv hA =>
          cases hA
          obtain rfl := dr_key hx
          exact ⟨a :: ps, (x, _) :: ws, rfl, .cons hG hp, .cons hv hk⟩
theorem pairsT : ∀ {xs : List V} {ds : List D} {kvs : List (D × D)}, DrA K G xs ds → pairs ds = some kvs → (kvs.all fun p => kin p.1 == 2) = true →
    ∃ (ps : List Addr) (qs : List (List Key × Addr × V)), xs = ps.map V.ref ∧ Paired (fun p q => G p = some (.tup [.ref q.2.1, q.2.2]) ∧ G q.2.1 = some (.tup (q.1.map kV))) ps qs ∧ DrT K G (qs.map fun q => (q.1, q.2.2)) kvs
  | _, _, kvs, .nil, e, _ => by cases e; exact ⟨[], [], rfl, .nil, .nil⟩
  | _, _, kvs, .cons (v := v0) (d := d0) h k, e, h1 => by
    obtain ⟨kd, vd, r, rfl, e2, rfl⟩ := pairs_cons e
    simp only [List.all_cons, Bool.and_eq_true, beq_iff_eq] at h1
    obtain ⟨x, rfl⟩ := kin2 h1.1
    obtain ⟨ps, ws, rfl, hp, hk⟩ := pairsT k e2 (by simpa using h1.2)
    cases h with
    | tup hG hA =>
      rename_i a xs
      cases hA with
      | cons hx hA =>
        cases hA with
        | cons hv hA =>
          cases hA
          cases hx with
          | tup hb hB =>
            rename_i b ys
            obtain rfl := dr_keys hB
            exact ⟨a :: ps, (x, b, _) :: ws, rfl, .cons ⟨hG, hb⟩ hp, .cons hv hk⟩
end
section
variable {X : Cx} {xa : XA} {W : WX}
theorem PairedMono {α β : Type} {P Q : α → β → Prop} (h : ∀ a b, P a b → Q a b) : ∀ {as : List α} {bs : List β}, Paired P as bs → Paired Q as bs
  | _, _, .nil => .nil
  | _, _, .cons x t => .cons (h _ _ x) (PairedMono h t)
/-- the pairs at hand -/
theorem pairsT_at {pins : List (Addr × Obj)} {σ : L2.St} {H : Hp} {s : Shared} (I : Inv X pins σ H s) : ∀ {ps : List Addr} {qs : List (List Key × Addr × V)}, Paired (fun p q => H p = some (.tup [.ref q.2.1, q.2.2]) ∧ H q.2.1 = some (.tup (q.1.map kV))) ps qs →
    ∃ rs : List (List Key × Addr × Value), KT H (qs.map fun q => (q.1, q.2.2)) rs ∧ rs.length = ps.length ∧ ∀ (j : Nat) (q : List Key × Addr × Value), rs[j]? = some q → ∃ b, ps[j]? = some b ∧ IsTup s.heap b #[.ref q.2.1, q.2.2]
  | _, _, .nil => ⟨[], .nil, rfl, fun j q e => by simp at e⟩
  | _, _, .cons (a := p) (b := q) h t => by
    obtain ⟨rs, r, hl, hp⟩ := pairsT_at I t
    obtain ⟨its, rv, ht, _⟩ := I.tuple (SqT.of h.1)
    obtain ⟨u, y, ei, ru, ry⟩ := vals2 rv
    subst ei
    obtain rfl : u = Value.ref q.2.1 := ru
    refine ⟨(q.1, q.2.1, y) :: rs, .cons ⟨rfl, h.2, ry⟩ r, by rw [List.length_cons, List.length_cons, hl], fun j q' e => ?_⟩
    cases j with
    | zero =>
      have e' : (q.1, q.2.1, y) = q' := Option.some.inj e
      subst e'
      exact ⟨p, rfl, ht⟩
    | succ j =>
      obtain ⟨b, e1, e2⟩ := hp j q' (by simpa using e)
      exact ⟨b, by simpa using e1, e2⟩
theorem keys_isT {pins : List (Addr × Obj)} {σ : L2.St} {H : Hp} {s : Shared} (I : Inv X pins σ H s) : ∀ {ws : List (List Key × V)} {rs : List (List Key × Addr × Value)}, KT H ws rs → ∀ y ∈ rs, (tupleKind (mixKind X.prog X.w)).is s.heap y.1 y.2.1
  | _, _, .nil, y, hy => absurd hy (by simp)
  | _, _, .cons h t, y, hy => by
    rcases List.mem_cons.mp hy with rfl | hy
    · exact key_of I.hok (by rw [← h.1]; exact h.2.1)
    · exact keys_isT I t y hy
theorem KT.merge {H : Hp} : ∀ {more : List (List Key × V)} {rs : List (List Key × Addr × Value)} {kvs : List (List Key × V)} {vs : List (List Key × Addr × Value)}, KT H more rs → KT H kvs vs → KT H (mergeT kvs more) (PySem.storedAllH vs rs) := by
  intro more rs kvs vs r
  induction r generalizing kvs vs with
  | nil => exact fun k => k
  | @cons p q ps qs h t ih =>
    intro k
    unfold mergeT PySem.storedAllH
    rw [List.foldl_cons, List.foldl_cons]
    refine ih ?_
    obtain ⟨h1, h2, h3⟩ := h
    rw [← h1]
    exact KT.put k p.1 (b := q.2.1) h2 h3
theorem cr_dict (hc : X.calm = true) (hu : X.A.units + 66 < cLine) : CallR X (.type "dict") (rB X.K xa W fun d => oB .dict [d]) := by
  rintro pins s σ H xs us Q I r ⟨ioa, F, G, env, σ', x, dx, rfl, S, hx, q⟩
  cases dx with
  | list ds =>
    obtain ⟨a, vs, rfl, ha, ka⟩ := hx.lst S.gh
    have q : oR X.K xa W (RE X.K) ioa F σ' (nw ((pairs ds).bind fun kvs => if onekind kvs then some (.dict (dmerge [] kvs)) else none) env) G Q := q
    cases e : pairs ds with
    | none => rw [e] at q; exact q.elim
    | some kvs =>
      rw [e] at q
      have q : oR X.K xa W (RE X.K) ioa F σ' (nw (if onekind kvs then some (.dict (dmerge [] kvs)) else none) env) G Q := q
      by_cases hk : onekind kvs = true
      · rw [if_pos hk] at q
        unfold onekind at hk
        rw [Bool.or_eq_true] at hk
        rcases hk with hk | hk
        · obtain ⟨ps, ws, rfl, hp, hd⟩ := pairsK ka e hk
          exact call_dictP hc pins s σ H _ us Q I r ⟨a, ps, ws, rfl, ha.seq, PairedMono (fun _ _ h => SqT.of (S.gh _ _ h)) hp, fun p hpn => ans_new q S hpn (.dk (hd.merge .nil))⟩
        · obtain ⟨ps, qs, rfl, hp, hd⟩ := pairsT ka e hk
          obtain ⟨u, rfl, rx⟩ := vals1 r
          obtain rfl : u = .ref a := rx
          obtain ⟨rs, rel, hl, hps⟩ := pairsT_at I (PairedMono (fun _ _ h => ⟨S.gh _ _ h.1, S.gh _ _ h.2⟩) hp)
          obtain ⟨its, rv, pl, hz⟩ := I.list ha.seq
          obtain rfl := refs_at rv
          obtain ⟨o, n, ho, ho2, ho3, ho4⟩ := pl
          have hlen : rs.length ≤ sizeLine := by rw [hl]; rw [List.length_map] at hz; exact hz
          refine PySem.call_dict_pairsH (knd := tupleKind (mixKind X.prog X.w)) (ps := rs) (PySem.PairArg.list a (ps.map Value.ref).toArray (fun j => ps.getD j 0) (rs.map fun x => (Value.ref x.2.1, x.2.2))) (I.ok.hd hc)
            (show X.A.units + 1 + 1 < cLine by omega) ⟨⟨o, n, ho, ho2, ho3, ho4⟩, by simp [hl], fun j k v hj => ?_⟩ ⟨by simp, fun i key v hr => ?_⟩ (fun h' hk' y hy => ?_) (by rw [List.length_map]; exact hlen) fun h' tk hd' hk' => ?_
          · rw [List.getElem?_map] at hj
            cases hrj : rs[j]? with
            | none => rw [hrj] at hj; cases hj
            | some y =>
              rw [hrj] at hj
              obtain ⟨b, hb, ht⟩ := hps j y hrj
              have hj' : (Value.ref y.2.1, y.2.2) = (k, v) := Option.some.inj hj
              cases hj'
              have eb : ps.getD j 0 = b := by rw [List.getD_eq_getElem?_getD, hb]; rfl
              refine ⟨?_, ?_⟩
              · show (ps.map Value.ref).toArray[j]? = some (.ref (ps.getD j 0))
                rw [List.getElem?_toArray, List.getElem?_map, hb, eb]; rfl
              · show PySem.PairAt s.heap (ps.getD j 0) _ _
                rw [eb]
                exact .inl ht
          · have hr : (rs.map fun x => (Value.ref x.2.1, x.2.2))[i]? = some (key, v) := hr
            rw [List.getElem?_map] at hr
            cases hrj : rs[i]? with
            | none => rw [hrj] at hr; cases hr
            | some y =>
              rw [hrj] at hr
              have hr' : (Value.ref y.2.1, y.2.2) = (key, v) := Option.some.inj hr
              cases hr'
              exact ⟨y.1, y.2.1, rfl, rfl⟩
          · have := keys_isT (X := X) I rel y hy
            obtain ⟨o', its', n', h1, h2, h3, h4⟩ := this
            exact ⟨o', its', n', hk' _ _ (Nat.ne_of_lt (Heap.lt_size h1)) (by simp) h1, h2, h3, h4⟩
          · have hm : (s.heap.objs.size == sysModules) = false := beq_eq_false_iff_ne.mpr (Nat.ne_of_gt I.big)
            have hz2 : (mergeT [] (qs.map fun q => (q.1, q.2.2))).length ≤ sizeLine := by
              refine Nat.le_trans (mergeT_le _ _) ?_
              rw [List.length_nil, Nat.zero_add, show (qs.map fun q => (q.1, q.2.2)).length = rs.length from Paired.length rel]
              exact hlen
            have kp : ∀ b o, s.heap.get? b = some o → h'.get? b = some o := fun b o e => hk' b o (by simp) e
            have hn := I.hok.fresh (Nat.le_refl _)
            refine ⟨.ref s.heap.objs.size, upd H s.heap.objs.size (.dT (mergeT [] (qs.map fun q => (q.1, q.2.2)))), I.laid (t' := tk) kp (Nat.le_refl _) ?_, rfl, ans_new q S hn (.dt (hd.merge .nil))⟩
            obtain ⟨o', es, ep, k1, k2, k3, k4, k5, k6⟩ := hd'
            refine ⟨hz2, hm, _, ?_, o', es, ep, k1, k2, k3, k4, k6⟩
            refine KT.keeps (KT.merge rel .nil) fun b ys hb => ?_
            rw [upd_ne (fun z => by subst z; rw [hn] at hb; cases hb)]
            exact hb
      · rw [if_neg hk] at q; exact q.elim
  | _ => exact q.elim
end
end Rv
end
section
/-! Rv, part 10a: tuples in order, where some are empty. -/
namespace Rv
open PySem PySem.W PySem.SeqAt PySem.Calls PyProof.Rows
def full : PyData → Bool
  | .tuple (_ :: _) => true
  | _ => false
section
variable {prog : Program} {w : World} {A : Around} {E : Value → Shared → Prop} {s : Shared}
theorem tup_firsts {M : Model} : ∀ {vs : List Value} {ds : List PyData}, EachIs (fun v d => ∃ as, Reads s.heap v d as) vs ds → (∀ d ∈ ds, ∃ xs, d = .tuple xs) →
    ∃ fs : List (Option Value), fs.map Option.isSome = ds.map full ∧ ∀ (Q : List (Option Value) → Shared → Prop), Q fs s → wpAny M A (vs.mapM firstOfTuple') Q E s
  | _, _, .nil, _ => ⟨[], rfl, fun Q q => by rw [List.mapM_nil]; exact wpAny_pure q⟩
  | _, _, .cons (b := d) ⟨as, r⟩ t, ht => by
    obtain ⟨fs, h1, h2⟩ := tup_firsts (M := M) t fun d hd => ht d (List.mem_cons_of_mem _ hd)
    obtain ⟨xs, rfl⟩ := ht d List.mem_cons_self
    cases r with
    | @tuple a o vs n _ _ ho hc hd hr =>
      refine ⟨vs[0]? :: fs, ?_, fun Q q => ?_⟩
      · rw [List.map_cons, List.map_cons, h1]
        congr 1
        rw [← Array.getElem?_toList]
        cases e : vs.toList with
        | nil =>
          rw [e] at hr
          cases hr
          rfl
        | cons u us =>
          rw [e] at hr
          cases hr
          rfl
      · rw [List.mapM_cons]
        refine wpAny_bind ?_
        rw [kas_first_eq]
        refine wpAny_bind (Looks.here (show Looks M s.heap (typeOf (.ref a)) o.cls from (Looks.ld ho).andThen .now) ?_)
        rw [hc, if_neg (by simp)]
        refine wpAny_bind (listItems_at ho hd (wpAny_pure ?_))
        exact wpAny_bind (h2 _ (wpAny_pure q))
theorem tup_lt {f : Bool} {xs ys : List PyData} {a b : Value} {as bs : List Addr} {Q : Bool → Shared → Prop} (ra : Reads s.heap a (.tuple xs) as) (rb : Reads s.heap b (.tuple ys) bs) (h : alike (.tuple xs) (.tuple ys) = true)
    (hu : A.units + min (PyData.tuple xs).depth (PyData.tuple ys).depth < cLine) (hq : Q (dataLt (.tuple xs) (.tuple ys)) s) : wpAny (model prog w) A (oneLt' f a b) Q E s := by
  cases f with
  | false => exact oneLt_alike (fun z => nomatch z) ra rb h (by simp) hu hq
  | true =>
    have hal : alikeAll xs ys = true := by simpa [alike] using h
    cases ra with
    | @tuple l o vs n _ _ h1 h2 h3 h4 =>
      cases rb with
      | @tuple l' o' vs' n' _ _ k1 k2 k3 k4 =>
        have n1 : vs.size = xs.length := by simpa using ReadsAll.length _ _ _ h4
        have n2 : vs'.size = ys.length := by simpa using ReadsAll.length _ _ _ k4
        rw [dataLt_tuple, ← firstLt_toks xs ys hal, ← n1, ← n2] at hq
        obtain ⟨cls, dd, data, sl⟩ := o
        obtain ⟨cls2, dd2, data2, sl2⟩ := o'
        simp only at h2 h3 k2 k3
        subst h2 h3 k2 k3
        rw [oneLt'_eq]
        simp only [if_true]
        refine wpAny_bind (wpAny_cRoomFor (by have := hu; omega) ?_)
        refine wpAny_bind (wpAny_callSpecialIfBound?_slot (T := "tuple") ⟨_, h1, rfl⟩ F.slot_tuple_lt (call_meets F.slot_tuple_lt ⟨_, h1, rfl⟩ F.entry_tuple_lt (F.args_tuple_lt_2 _ _)
          (tuple_ltAt l l' vs vs' n n' dd dd2 sl sl2 (pairEq xs ys) fun j => dataLt (xs.getD j .none) (ys.getD j .none)) ⟨h1, k1, fun j j1 j2 => ?_, fun j j1 j2 hj => ?_, wpAny_truthy_bool hq⟩))
        · have := eqAt_alikeAll xs ys A.in1 s vs.toList vs'.toList _ _ h4 k4 hal (SeqAt.room_in hu) j (by simpa using j1) (by simpa using j2)
          simpa using this
        · have := rcLt_alikeAll xs ys A.in1 s vs.toList vs'.toList _ _ h4 k4 hal (SeqAt.room_in hu) j (by simpa using j1) (by simpa using j2) hj
          simpa using this
/-- any alike data but None -/
theorem sorts_any {vs : List Value} {ds : List PyData} (e : EachIs (fun v d => ∃ as, Reads s.heap v d as) vs ds) (hal : AllAlike ds) (hk : (∀ d ∈ ds, ∃ xs, d = .tuple xs) ∨ PySem.W.Sortable ds) (hu : ∀ d, d ∈ ds → A.units + d.depth < cLine) : SortsAt prog w A s (dataKind s.heap ds) vs := by
  by_cases hb : PySem.W.Sortable ds
  · exact SortsAt.data e hal hb hu
  have ht := hk.resolve_right hb
  have some1 : (ds.map full).all id = false := by
    cases z : (ds.map full).all id with
    | false => rfl
    | true =>
      refine absurd (.inl fun d hd => ?_) hb
      rw [List.all_map, List.all_eq_true] at z
      have := z d hd
      obtain ⟨xs, rfl⟩ := ht d hd
      cases xs with
      | nil => cases this
      | cons x r => exact ⟨x, r, rfl⟩
  have lt : ∀ f, H.LtAt prog w A s (dataKind s.heap ds) (if f = true then oneType' else general') := fun f E x y a b Q ha hb hq => by
    obtain ⟨d, as, hd, ra, rfl⟩ := dataKind_inv ha
    obtain ⟨d', as', hd', rb, rfl⟩ := dataKind_inv hb
    have hdd := hal d hd d' hd'
    obtain ⟨xs, rfl⟩ := ht d hd
    obtain ⟨ys, rfl⟩ := ht d' hd'
    have hr : A.units + min (PyData.tuple xs).depth (PyData.tuple ys).depth < cLine := Nat.lt_of_le_of_lt (Nat.add_le_add_left (Nat.min_le_left _ _) _) (hu _ hd)
    cases f with
    | true => exact tup_lt (f := true) ra rb hdd hr hq
    | false => exact tup_lt (f := false) ra rb hdd hr hq
  refine ⟨fun v hv => ?_, if (match ds.head? with | some d => full d | none => false) = true then general' else oneType', ?_, fun h2 E Q hq => ?_⟩
  · obtain ⟨d, hd, as, r⟩ := e.left v hv
    exact ⟨_, dataKind_some hal hd r⟩
  · by_cases c : (match ds.head? with | some d => full d | none => false) = true
    · rw [if_pos c]
      exact lt false
    · rw [if_neg c]
      exact lt true
  · obtain ⟨fs, h3, h4⟩ := tup_firsts (M := model prog w) (A := A) (E := E) e ht
    rw [kat_kind_eq, List.mapM_toArray, map_eq_pure_bind]
    refine wpAny_bind (wpAny_bind (h4 _ (wpAny_pure ?_)))
    have ha : ¬ (fs.toArray.all fun x => x.isSome) = true := fun z => by
      rw [List.all_toArray] at z
      rw [← h3, List.all_map] at some1
      have : (fs.all fun x => x.isSome) = false := some1
      rw [z] at this
      cases this
    rw [if_neg ha]
    have hh : (fs.toArray[0]?.bind id).isSome = (match ds.head? with | some d => full d | none => false) := by
      cases fs with
      | nil =>
        cases ds with
        | nil => rfl
        | cons d r => cases h3
      | cons f r' =>
        cases ds with
        | nil => cases h3
        | cons d r =>
          rw [List.map_cons, List.map_cons] at h3
          have := (List.cons.inj h3).1
          simpa using this
    rw [hh]
    by_cases c : (match ds.head? with | some d => full d | none => false) = true
    · rw [if_pos c] at hq ⊢
      exact wpAny_pure hq
    · rw [if_neg c] at hq ⊢
      have hT : ∀ v ∈ vs, Looks (model prog w) s.heap (typeOf v) (.type "tuple") := fun v hv => by
        obtain ⟨d, hd, as, r⟩ := e.left v hv
        obtain ⟨xs, rfl⟩ := ht d hd
        exact looks_reads r
      rw [oneTypeOnly'_eq, List.mapM_toArray, map_eq_pure_bind]
      refine wpAny_bind (wpAny_bind (wpAny_bind (kas_mapM (r := Value.type "tuple") _ (fun v hv Q' hq => (hT v hv).here hq) (wpAny_pure ?_))))
      have hall : ((List.map (fun _ => Value.type "tuple") vs).toArray.all fun x => x == Value.type "tuple") = true := by
        simp
      have h0 : (List.map (fun _ => Value.type "tuple") vs).toArray[0]? = some (Value.type "tuple") := by
        cases vs with
        | nil => simp at h2
        | cons v r => simp
      rw [h0]
      simp only [hall, if_true]
      exact wpAny_pure (wpAny_pure hq)
end
end Rv
end
section
/-! Rv, part 10: list(x), repr(x), sorted(x). -/
namespace Rv
open PySem PySem.Spec PyProof.Rows L2
section
variable {X : Cx} {xa : XA} {W : WX} {pins : List (Addr × Obj)} {σ0 : L2.St} {H : Hp} {s : Shared} {ioa : Nat → Addr} {F G : Hp} {env : Env} {σ : L2.St}
/-- the keys of a dict join what stands still -/
theorem Sim.addTs {H : Hp} : ∀ {kvs : List (List Key × V)} {bs : List Addr} {G : Hp}, Sim X.K ioa F G env σ H → IsKeys H kvs bs →
    ∃ G', Ext F G G' ∧ Sim X.K ioa F G' env σ H ∧ ∀ ds, DrT X.K G kvs ds → DrA X.K G' (bs.map V.ref) (ds.map (·.1))
  | _, _, G, S, .nil => ⟨G, Ext.refl _ _, S, fun ds k => by cases k; exact .nil⟩
  | _, _, G, S, .cons (a := p) (b := b) h t => by
    obtain ⟨x1, S1⟩ := S.addT (p := b) h
    obtain ⟨G', x2, S2, k2⟩ := Sim.addTs S1 t
    refine ⟨G', x1.trans x2, S2, fun ds k => ?_⟩
    cases k with
    | cons hv k =>
      exact .cons (.tup (x2.1 _ _ upd_same) (dra_kV _)) (k2 _ (DrT.mono (.of x1.1) _ k))
/-- a dict that is walked for its keys -/
theorem dict_src {x : V} {kvs : List (D × D)} (I : Inv X pins σ0 H s) (S : Sim X.K ioa F G env σ H) (hx : DrB X.K G H x (.dict kvs)) :
    ∃ (a : Addr) (n : Nat) (P : Nat → Value → Prop) (OK : Heap → Prop) (xs : List V) (G' : Hp), x = .ref a ∧ PySem.W.KdlSrc X.prog X.w "dict" a a n P OK ∧ OK s.heap ∧ n ≤ sizeLine ∧ (∀ acc : Array Value, ItemsOf P acc n → Vals xs acc.toList) ∧
      Ext F G G' ∧ Sim X.K ioa F G' env σ H ∧ DrA X.K G' xs (kvs.map (·.1)) := by
  obtain ⟨a, rfl, ⟨ws, hr, kd⟩ | ⟨ws, hr, kd⟩⟩ := hx.dic S.gh
  · obtain ⟨z, lo, vs, rk, hd⟩ := dk_rd I.hok hr.rd
    obtain ⟨ep, hat⟩ := hd.dictAt
    have hl : ws.length = vs.length := Paired.length rk
    refine ⟨a, _, _, _, ws.map fun kv => kV kv.1, G, rfl, PySem.W.kdl_dict (knd := mixKind X.prog X.w) (kvs := vs) (ep := ep) lo, hat, by rw [← hl]; exact z, fun acc hacc => ?_, Ext.refl _ _, S, dr_keysK kd⟩
    have el : acc.toList.length = acc.size := by simp
    refine vals_of_at (by rw [List.length_map, el, hacc.1, hl]) fun j x w h1 h2 => ?_
    obtain ⟨k, y, hky, hi⟩ := hacc.2 j w (by rw [← Array.getElem?_toList]; exact h2)
    have e1 : (ws.map (·.1))[j]? = some k := by
      rw [KV.keys rk, List.getElem?_map, hky] <;> rfl
    have e2 : (ws.map fun kv => kV kv.1)[j]? = some (kV k) := by
      have e3 : (ws.map fun kv => kV kv.1) = (ws.map (·.1)).map kV := by rw [List.map_map] <;> rfl
      rw [e3, List.getElem?_map, e1] <;> rfl
    rw [e2] at h1
    cases h1
    exact keyIs_rel hi
  · obtain ⟨z, lo, ks, pr, o, es, ep, ho, hx', hdt, he, hn⟩ := (show ObjOk X.prog X.w H s.heap a (.dT ws) from hr.rd.ok I.hok)
    have l1 : es.size = ks.length := size_of_entries he
    have l2 : ws.length = ks.length := Paired.length pr
    obtain ⟨G', x1, S1, k1⟩ := Sim.addTs S (isKeys_of pr)
    refine ⟨a, _, _, _, (ks.map fun x => x.2.1).map V.ref, G', rfl, kdl_raw lo hx' hdt, ho, by omega, fun acc it => ?_, x1, S1, k1 _ kd⟩
    have ea : acc.toList = ks.map fun x => Value.ref x.2.1 := by
      have hl : acc.toList.length = ks.length := by rw [Array.length_toList, it.1]; exact l1
      apply List.ext_getElem?
      intro j
      rw [List.getElem?_map]
      cases hj : acc.toList[j]? with
      | none =>
        have h1 := List.getElem?_eq_none_iff.mp hj
        rw [List.getElem?_eq_none (by omega)]
        all_goals rfl
      | some v =>
        obtain ⟨en, hen, hv⟩ := it.2 j v (by rw [← Array.getElem?_toList]; exact hj)
        have qe := entry_at he j
        rw [hen] at qe
        cases hb : ks[j]? with
        | none =>
          rw [hb] at qe
          exact nomatch (show some en = none from qe)
        | some b =>
          rw [hb] at qe
          have e2 : en = entryOfKey (tupleKind (mixKind X.prog X.w)) b := Option.some.inj qe
          rw [hv, e2]
          all_goals rfl
    have eb : acc.toList = (ks.map fun x => x.2.1).map Value.ref := by rw [ea, List.map_map]; all_goals rfl
    rw [eb]
    exact vals_refs _
theorem Vals.le {xs : List V} {us : List Value} (h : Vals xs us) : xs.length = us.length := h.length
end
section
variable {X : Cx} {xa : XA} {W : WX}
theorem cr_list (hc : X.calm = true) : CallR X (.type "list") (rB X.K xa W fun d => oB .list [d]) := by
  rintro pins s σ H xs us Q I r ⟨ioa, F, G, env, σ', x, dx, rfl, S, hx, q⟩
  cases dx with
  | list ds =>
    obtain ⟨a, vs, rfl, ha, ka⟩ := hx.lst S.gh
    exact call_list_of pins s σ H _ us Q I r ⟨a, vs, rfl, .inl ha.seq, fun l hl => ans_new q S hl (.lst ka)⟩
  | tuple ds =>
    obtain ⟨a, vs, rfl, ha, ka⟩ := hx.tup
    exact call_list_of pins s σ H _ us Q I r ⟨a, vs, rfl, .inr (SqT.of (S.gh _ _ ha)), fun l hl => ans_new q S hl (.lst ka)⟩
  | dict kvs =>
    obtain ⟨a, n, P, OK, xs, G', rfl, src, ok, hn, hv, x1, S1, k1⟩ := dict_src I S hx
    obtain ⟨u, rfl, rx⟩ := vals1 r
    obtain rfl : u = .ref a := rx
    refine PySem.W.kdl_call src (I.ok.hd hc) ok hn fun h' tk acc' c' hkeep hS hacc => ?_
    have rv := hv _ hacc
    have hz : xs.length ≤ sizeLine := by
      have h9 : xs.length = acc'.toList.length := Vals.le rv
      have h8 : acc'.toList.length = acc'.size := by simp
      have h7 := hacc.1
      omega
    refine ⟨.ref s.heap.objs.size, upd H s.heap.objs.size (.lst xs), I.laid hkeep (Nat.le_refl _) (show ObjOk X.prog X.w _ _ _ (.lst xs) from ⟨hz, acc'.toList, c', rv, by rw [Array.toArray_toList]; exact hS⟩), rfl, ?_⟩
    exact ans_new (oR_ext x1 q) S1 (I.hok.fresh (Nat.le_refl _)) (.lst k1)
  | _ => exact q.elim
/-! ### repr -/
theorem cr_repr (hg : X.A.guards = some []) (hu : X.A.units + 102 < cLine) : CallR X (.builtin "repr") (rB X.K xa W fun d => oB .repr [d]) := by
  rintro pins s σ H xs us Q I r ⟨ioa, F, G, env, σ', x, dx, rfl, S, hx, q⟩
  have q : oR X.K xa W (RE X.K) ioa F σ' (nw (if dx.showable && small dx.shown.length && decide (dx.depth ≤ 100) && !dx.hasDict then some (.str dx.shown) else none) env) G Q := q
  by_cases hz : (dx.showable && small dx.shown.length && decide (dx.depth ≤ 100) && !dx.hasDict) = true
  · rw [if_pos hz] at q
    simp only [Bool.and_eq_true, decide_eq_true_eq, Bool.not_eq_true'] at hz
    obtain ⟨⟨⟨h1, h2⟩, h3⟩, h4⟩ := hz
    have q' : ∀ (h' : Heap) (u : Tok) (tk : Nat), (∀ b o, s.heap.get? b = some o → h'.get? b = some o) → EP X pins σ Q (.str dx.shown u) { s with heap := h', toks := tk } := fun h' u tk hk => ⟨.str _, H, I.kept hk, ⟨_, rfl⟩, ans_nw (d := .str _) q rfl S (.str _)⟩
    have hsz := small_le h2
    obtain ⟨u, rfl, rx⟩ := vals1 r
    obtain ⟨as, rd, _⟩ := DrB.reads I S.gh hx rx
    cases dx with
    | none => cases rd; exact PySem.P.repr_of_none (q' _ _ _ fun _ _ e => e)
    | bool b => cases rd; exact PySem.P.repr_of_bool (q' _ _ _ fun _ _ e => e)
    | int i => cases rd; exact PySem.P.repr_of_int (of_decide_eq_true h1) (q' _ _ _ fun _ _ e => e)
    | str z => cases rd; exact PySem.P.repr_of_str (q' _ _ _ fun _ _ e => e) hsz
    | list ds =>
      cases rd with
      | list k1 k2 k3 k4 => exact repr_of_reads' (.list k1 k2 k3 k4) h1 (fun z => by rw [h4] at z; cases z) hg (by omega) (fun _ _ e => e) (fun h' u tk hk => q' h' u tk hk) hsz
    | tuple ds =>
      cases rd with
      | tuple k1 k2 k3 k4 => exact repr_of_reads' (.tuple k1 k2 k3 k4) h1 (fun z => by rw [h4] at z; cases z) hg (by omega) (fun _ _ e => e) (fun h' u tk hk => q' h' u tk hk) hsz
    | dict ds =>
      cases rd with
      | dict k1 k2 k3 k4 k5 => exact repr_of_reads' (.dict k1 k2 k3 k4 k5) h1 (fun z => by rw [h4] at z; cases z) hg (by omega) (fun _ _ e => e) (fun h' u tk hk => q' h' u tk hk) hsz
  · rw [if_neg hz] at q; exact q.elim
/-! ### sorted -/
theorem each_zip {K : PySem.W.Frag} {G : Hp} : ∀ {xs : List V} {ds : List D} {vs : List Value}, DrA K G xs ds → Vals xs vs → PySem.W.EachIs (fun v (b : V × D) => RelV b.1 v ∧ Dr K G b.1 b.2) vs (xs.zip ds)
  | _, _, _, .nil, .nil => .nil
  | _, _, _, .cons h k, .cons r t => .cons ⟨r, h⟩ (each_zip k t)
theorem each_back {K : PySem.W.Frag} {G : Hp} : ∀ {bs : List (V × D)} {vs : List Value}, PySem.W.EachIs (fun v (b : V × D) => RelV b.1 v ∧ Dr K G b.1 b.2) vs bs → Vals (bs.map (·.1)) vs ∧ DrA K G (bs.map (·.1)) (bs.map (·.2))
  | _, _, .nil => ⟨.nil, .nil⟩
  | _, _, .cons h k => ⟨.cons h.1 (each_back k).1, .cons h.2 (each_back k).2⟩
theorem zip_snd {α β : Type} : ∀ {xs : List α} {ds : List β}, xs.length = ds.length → (xs.zip ds).map (·.2) = ds
  | [], [], _ => rfl
  | x :: xs, d :: ds, h => by
    rw [List.zip_cons_cons, List.map_cons, zip_snd (by simpa using h)]
  | [], _ :: _, h => by simp at h
  | _ :: _, [], h => by simp at h
theorem dataLe_eq (a b : V × D) : PySem.W.dataLe false (fun b : V × D => b.2) a b = dle a.2 b.2 := rfl
theorem sort_snd (bs : List (V × D)) : (bs.mergeSort (PySem.W.dataLe false fun b : V × D => b.2)).map (·.2) = (bs.map (·.2)).mergeSort dle :=
  List.map_mergeSort (f := fun b : V × D => b.2) (fun a _ b _ => dataLe_eq a b)
theorem sortable_all {ds : List D} (h : sortable ds = true) : PySem.W.AllAlike ds ∧ ((∀ d ∈ ds, ∃ xs, d = .tuple xs) ∨ PySem.W.Sortable ds) ∧ ∀ d ∈ ds, SeqAt.shaped d = true := by
  unfold sortable at h
  simp only [Bool.and_eq_true, Bool.or_eq_true, List.all_eq_true] at h
  obtain ⟨⟨h1, h2⟩, h3⟩ := h
  refine ⟨fun d hd d' hd' => h1 d hd d' hd', ?_, h3⟩
  rcases h2 with h2 | h2
  · refine .inl fun d hd => ?_
    have := h2 d hd
    cases d with
    | tuple xs => exact ⟨xs, rfl⟩
    | _ => cases this
  · refine .inr (.inr fun d hd => ?_)
    have := h2 d hd
    cases d with
    | tuple xs => cases this
    | none => cases this
    | _ => exact ⟨by simp, fun xs e => by cases e⟩
theorem sorted_any {pins : List (Addr × Obj)} {s : Shared} {σ : L2.St} {H G : Hp} {x : Value} {Q : VK} (C : List V → List D → Prop) (m : Same G H) (hu : X.A.units + 70 < cLine)
    (col : ∀ (R : List Value → Shared → Prop), (∀ s1 vs xs ds, Inv X pins σ H s1 → Vals xs vs → C xs ds → R vs s1) → wpAny (model X.prog X.w) X.A.in1 (collect x) R X.xe s)
    (hq : ∀ xs ds, C xs ds → DrA X.K G xs ds ∧ sortable ds = true ∧ xs.length ≤ sizeLine ∧ ∀ out p, H p = none → DrA X.K G out (ds.mergeSort dle) → Q (.ref p) (upd H p (.lst out))) :
    wpAny (model X.prog X.w) X.A (call (.builtin "sorted") [x]) (EP X pins σ Q) X.xe s := by
  refine Calls.call_function_entry kind_sorted plain_sorted entry_sorted (args_sorted1 _) ?_
  unfold Builtin.«sorted»
  refine wpAny_bind (m := checkCount "sorted" 1 1 _) (wpAny_pure ?_)
  refine wpAny_bind (col _ fun s1 vs xs ds I1 rv c => ?_)
  obtain ⟨ka, hs, hz, q⟩ := hq xs ds c
  have hzv : vs.length ≤ sizeLine := by rw [← rv.length]; exact hz
  obtain ⟨h1, h2, h3⟩ := sortable_all hs
  refine wpAny_bind (wpAny_newList ?_ hzv)
  have hoL : (s1.heap.push (seqObj "list" vs.toArray 0)).get? s1.heap.objs.size = some (seqObj "list" vs.toArray 0) := Heap.get?_push_size _ rfl
  have old : ∀ b o, s1.heap.get? b = some o → (PySem.W.sortingHeap (s1.heap.push (seqObj "list" vs.toArray 0)) s1.heap.objs.size vs).get? b = some o := fun b o e =>
    PySem.W.sortingHeap_old (Nat.ne_of_lt (Heap.lt_size e)) (Heap.get?_push_of_some _ e)
  have e1 := each_zip ka rv
  have e2 : PySem.W.EachIs (fun v (b : V × D) => ∃ as, Reads (PySem.W.sortingHeap (s1.heap.push (seqObj "list" vs.toArray 0)) s1.heap.objs.size vs) v b.2 as) vs (xs.zip ds) := e1.mono fun v b ⟨r, k⟩ => by
    obtain ⟨as, rd, _⟩ := Dr.reads I1 m b.2 k r
    exact ⟨as, PyProof.Rows.Reads.keeps old rd⟩
  have ez : (xs.zip ds).map (fun b : V × D => b.2) = ds := zip_snd ka.length
  have hal : PySem.W.AllAlike ((xs.zip ds).map fun b : V × D => b.2) := by rw [ez]; exact h1
  have hk : (∀ d ∈ (xs.zip ds).map (fun b : V × D => b.2), ∃ ys, d = .tuple ys) ∨ PySem.W.Sortable ((xs.zip ds).map fun b : V × D => b.2) := by rw [ez]; exact h2
  have sa := sorts_any (prog := X.prog) (w := X.w) (A := X.A.in1.in1) (s := { s1 with heap := PySem.W.sortingHeap (s1.heap.push (seqObj "list" vs.toArray 0)) s1.heap.objs.size vs })
    (PySem.W.each_map (R := fun v d => ∃ as, Reads (PySem.W.sortingHeap (s1.heap.push (seqObj "list" vs.toArray 0)) s1.heap.objs.size vs) v d as) (fun b : V × D => b.2) e2) hal hk (fun d hd => by
      rw [ez] at hd
      have := SeqAt.room_of_shaped (A := X.A.in1.in1) (db := d) (h3 d hd) (by show X.A.units + 1 + 1 + 64 < cLine; omega)
      rw [Nat.min_self] at this
      exact this)
  refine wpAny_bind (wpAny_holding (wpAny_call_entry slot_list_sort ⟨_, hoL, rfl⟩ entry_list_sort (PySem.W.list_sort_vals (s := { s1 with heap := s1.heap.push (seqObj "list" vs.toArray 0) }) hoL sa hzv ⟨_, rfl, ?_⟩) (args_list_sort _)))
  have eo := PySem.W.sortVals_data (h' := PySem.W.sortingHeap (s1.heap.push (seqObj "list" vs.toArray 0)) s1.heap.objs.size vs) (enc := fun b : V × D => b.2) false e1 e2 hal
  obtain ⟨rv2, ka2⟩ := each_back eo
  rw [sort_snd, ez] at ka2
  obtain ⟨c', hc'⟩ := sortedHeap_at (vs := vs) (out := (PySem.W.sortVals (PySem.W.dataKind (PySem.W.sortingHeap (s1.heap.push (seqObj "list" vs.toArray 0)) s1.heap.objs.size vs) ((xs.zip ds).map fun b : V × D => b.2)) false vs vs).toArray) hoL
  refine wpAny_pure ⟨_, rfl, .ref s1.heap.objs.size, upd H s1.heap.objs.size (.lst _), I1.laid (t' := s1.toks) (fun b o e => ?_) (Nat.le_refl _) ⟨?_, _, c', rv2, hc'⟩, rfl, q _ _ (I1.hok.fresh (Nat.le_refl _)) ka2⟩
  · have hlt := Heap.lt_size e
    rw [sortedHeap_old (Nat.ne_of_lt hlt) (by rw [size_push']; exact Nat.lt_succ_of_lt hlt)]
    exact Heap.get?_push_of_some _ e
  · rw [rv2.length, PySem.W.sortVals_length false rfl]
    exact hzv
theorem oSort_some {ds : List D} {d : D} (h : oSort ds = some d) : sortable ds = true ∧ d = .list (ds.mergeSort dle) := by
  unfold oSort at h
  split at h
  · rename_i hs; cases h; exact ⟨hs, rfl⟩
  · cases h
theorem cr_sorted' (hc : X.calm = true) (hu : X.A.units + 70 < cLine) : CallR X (.builtin "sorted") (rB X.K xa W fun d => oB .sorted [d]) := by
  rintro pins s σ H xs us Q I r ⟨ioa, F, G, env, σ', x, dx, rfl, S, hx, q⟩
  have q : oR X.K xa W (RE X.K) ioa F σ' (nw (oB .sorted [dx]) env) G Q := q
  cases e : oB .sorted [dx] with
  | none => rw [e] at q; exact q.elim
  | some d =>
    rw [e] at q
    obtain ⟨u, rfl, rx⟩ := vals1 r
    cases dx with
    | list ds =>
      obtain ⟨hs, rfl⟩ := oSort_some e
      obtain ⟨a, vs, rfl, ha, ka⟩ := hx.lst S.gh
      obtain rfl : u = .ref a := rx
      obtain ⟨its, rv, ⟨o, n, h1, h2, h3, h4⟩, hz⟩ := I.list ha.seq
      have hlen := rv.length
      refine sorted_any (G := G) (fun ys es => ys = vs ∧ es = ds) S.gh hu (fun R hR => wpAny_collect_seq a (.inl rfl) h1 h2 h4 (fun h' hk => hR _ _ vs ds (I.kept (t' := s.toks) hk) (by simpa using rv) ⟨rfl, rfl⟩) (by simp only [List.size_toArray]; omega)) ?_
      rintro _ _ ⟨rfl, rfl⟩
      exact ⟨ka, hs, hz, fun out p hp k => ans_new q S hp (.lst k)⟩
    | tuple ds =>
      obtain ⟨hs, rfl⟩ := oSort_some e
      obtain ⟨a, vs, rfl, ha, ka⟩ := hx.tup
      obtain rfl : u = .ref a := rx
      obtain ⟨its, rv, ⟨o, h1, h2, n, h4⟩, hz⟩ := I.tuple (SqT.of (S.gh _ _ ha))
      have hlen := rv.length
      refine sorted_any (G := G) (fun ys es => ys = vs ∧ es = ds) S.gh hu (fun R hR => wpAny_collect_seq a (.inr rfl) h1 h2 h4 (fun h' hk => hR _ _ vs ds (I.kept (t' := s.toks) hk) (by simpa using rv) ⟨rfl, rfl⟩) (by simp only [List.size_toArray]; omega)) ?_
      rintro _ _ ⟨rfl, rfl⟩
      exact ⟨ka, hs, hz, fun out p hp k => ans_new q S hp (.lst k)⟩
    | dict kvs =>
      obtain ⟨hs, rfl⟩ := oSort_some e
      obtain ⟨a, n, P, OK, xs, G', rfl, src, ok, hn, hv, x1, S1, k1⟩ := dict_src I S hx
      obtain rfl : u = .ref a := rx
      have hz : ∀ acc : Array Value, ItemsOf P acc n → xs.length ≤ sizeLine := fun acc hacc => by
        have h9 : xs.length = acc.toList.length := Vals.le (hv acc hacc)
        have h8 : acc.toList.length = acc.size := by simp
        have h7 := hacc.1
        omega
      refine sorted_any (G := G') (fun ys es => ys = xs ∧ es = kvs.map (·.1) ∧ xs.length ≤ sizeLine) S1.gh hu (fun R hR => PySem.W.kdu_collect src (I.ok.hd hc) ok hn fun h' tk acc hk hacc => hR _ _ xs _ (I.kept hk) (hv acc hacc) ⟨rfl, rfl, hz acc hacc⟩) ?_
      rintro _ _ ⟨rfl, rfl, hz⟩
      exact ⟨k1, hs, hz, fun out p hp k => ans_new (oR_ext x1 q) S1 hp (.lst k)⟩
    | _ => cases e
end
end Rv
end
section
/-! Rv, part 11: arguments, calls of the text's own defs, and what a def promises. -/
namespace Rv
open PySem PySem.Spec PyProof.Rows L2

/-! ### values one after another, some of them new -/
inductive RL (K : PySem.W.Frag) (F G : Hp) (env : Env) (σ : L2.St) (H : Hp) : List (Bool × D) → List V → Prop
  | nil : RL K F G env σ H [] []
  | cons {p : Bool × D} {v : V} {ps : List (Bool × D)} {vs : List V} (h : RE K F G env σ H p v) (k : RL K F G env σ H ps vs)
      (n : p.1 = true → ∀ (j : Nat) (q : Bool × D), ps[j]? = some q → q.1 = true → vs[j]? ≠ some v) : RL K F G env σ H (p :: ps) (v :: vs)
section
variable {K : PySem.W.Frag} {xa : XA} {W : WX} {ioa : Nat → Addr} {F G G' : Hp} {env : Env} {σ : L2.St} {H : Hp}
/-- what must stay as it is, with one more -/
theorem Sim.guard {a : Addr} {o : HO} (S : Sim K ioa F G env σ H) (hF : F a = none) (ho : H a = some o) (hm : ∀ i, mine env i → σ[i]? ≠ some (some (.ref a))) : Sim K ioa (upd F a o) G env σ H := by
  refine ⟨S.len, fun b u h => ?_, S.gh, fun i s e => ?_, S.io, S.ap⟩
  · by_cases hb : b = a
    · subst hb; rw [upd_same] at h; cases h; exact ho
    · rw [upd_ne hb] at h; exact S.fh b u h
  · obtain ⟨v, h1, h2⟩ := S.sl i s e
    refine ⟨v, h1, ?_⟩
    cases hs : s.mine with
    | false =>
      cases s with
      | val d => exact h2
      | own _ => cases hs
      | io _ => cases hs
    | true =>
      obtain ⟨b, rfl, f1, g1, o1⟩ := (SlOk.own hs).mp h2
      have hne : b ≠ a := fun z => by subst z; exact hm i ⟨s, e, hs⟩ h1
      exact (SlOk.own hs).mpr ⟨b, rfl, by rw [upd_ne hne]; exact f1, g1, o1⟩
theorem Sim.unguard {a : Addr} {o : HO} (hF : F a = none) (S : Sim K ioa (upd F a o) G env σ H) : Sim K ioa F G env σ H ∧ H a = some o ∧ ∀ i, mine env i → σ[i]? ≠ some (some (.ref a)) := by
  have sub : ∀ b u, F b = some u → (upd F a o) b = some u := fun b u h => by
    rw [upd_ne (fun z => by subst z; rw [hF] at h; cases h)]
    exact h
  refine ⟨⟨S.len, fun b u h => S.fh b u (sub b u h), S.gh, fun i s e => ?_, S.io, S.ap⟩, S.fh a o upd_same, fun i ⟨s, e, hs⟩ h => ?_⟩
  · obtain ⟨v, h1, h2⟩ := S.sl i s e
    refine ⟨v, h1, ?_⟩
    cases hs : s.mine with
    | false =>
      cases s with
      | val d => exact h2
      | own _ => cases hs
      | io _ => cases hs
    | true =>
      obtain ⟨b, rfl, f1, g1, o1⟩ := (SlOk.own hs).mp h2
      refine (SlOk.own hs).mpr ⟨b, rfl, ?_, g1, o1⟩
      cases hb : F b with
      | none => rfl
      | some u => rw [sub b u hb] at f1; cases f1
  · obtain ⟨v, h1, h2⟩ := S.sl i s e
    obtain ⟨b, rfl, f1, g1, o1⟩ := (SlOk.own hs).mp h2
    rw [h1] at h
    cases h
    rw [upd_same] at f1
    cases f1
theorem Ext.unguard {a : Addr} {o : HO} (hF : F a = none) (x : Ext (upd F a o) G G') : Ext F G G' :=
  ⟨x.1, fun b hb => x.2 b fun z => hb (by
    by_cases h : b = a
    · subst h; exact hF
    · rw [upd_ne h] at z; exact z)⟩
theorem upd_none {a b : Addr} {o : HO} (h : (upd F a o) b = none) : F b = none ∧ b ≠ a := by
  by_cases e : b = a
  · subst e; rw [upd_same] at h; cases h
  · rw [upd_ne e] at h; exact ⟨h, e⟩
theorem Top.notup {o : HO} {d : D} (t : Top K G o d) : ∀ xs, o ≠ .tup xs := fun xs e => by subst e; cases t
/-- behind a guarded stretch: the guarded list or dict is there, and is still nobody's -/
theorem guard_back {a : Addr} {o : HO} {d : D} (hF : F a = none) (hG : G a = none) (t : Top K G o d) (x : Ext (upd F a o) G G') (S : Sim K ioa (upd F a o) G' env σ H) : Fresh K F G' env σ H (.ref a) d := by
  obtain ⟨_, ho, hm⟩ := S.unguard hF
  refine ⟨a, rfl, hF, ?_, ⟨o, ho, t.mono (.of x.1)⟩, hm⟩
  rcases x.2 a (by rw [upd_same]; simp) with e | ⟨xs, e⟩
  · rw [e]; exact hG
  · have := S.gh a _ e
    rw [ho] at this
    cases this
    exact absurd rfl (t.notup xs)
theorem RE.unguard {a : Addr} {o : HO} {p : Bool × D} {v : V} (h : RE K (upd F a o) G env σ H p v) : RE K F G env σ H p v ∧ (p.1 = true → v ≠ .ref a) := by
  unfold RE at h ⊢
  by_cases hp : p.1 = true
  · rw [if_pos hp] at h ⊢
    obtain ⟨b, rfl, f1, g1, o1, m1⟩ := h
    obtain ⟨f2, ne⟩ := upd_none f1
    exact ⟨⟨b, rfl, f2, g1, o1, m1⟩, fun _ e => by cases e; exact ne rfl⟩
  · rw [if_neg hp] at h ⊢
    exact ⟨h, fun z => absurd z hp⟩
theorem RL.unguard {a : Addr} {o : HO} : ∀ {ps : List (Bool × D)} {vs : List V}, RL K (upd F a o) G env σ H ps vs → RL K F G env σ H ps vs ∧ ∀ (j : Nat) (q : Bool × D), ps[j]? = some q → q.1 = true → vs[j]? ≠ some (.ref a)
  | _, _, .nil => ⟨.nil, fun j q e => by simp at e⟩
  | _, _, .cons h k n => by
    obtain ⟨h1, h2⟩ := h.unguard
    obtain ⟨k1, k2⟩ := k.unguard
    refine ⟨.cons h1 k1 n, fun j q e hq z => ?_⟩
    cases j with
    | zero =>
      cases Option.some.inj e
      exact h2 hq (Option.some.inj z)
    | succ j => exact k2 j q (by simpa using e) hq (by simpa using z)
end
section
variable {K : PySem.W.Frag} {xa : XA} {W : WX}
/-- the rest of a list behind a value that is perhaps new. Rr: what the rest's reading tells; it may be told under a guard -/
theorem tR_held {α β δ : Type} {Rq : Rk β δ} {Rr : Rk α (List V)} {f : Env → Rs (Bool × D)} {g : Env → Rs α} {mk : Bool × D → α → β} {σ : L2.St} {H : Hp} {Q : δ → Hp → Prop} {cons : V → List V → δ}
    (h : tR K xa W Rq (fun env => (f env).bind fun p e1 => (g e1).bind fun ps e2 => .ok (mk p ps) e2) σ H Q)
    (hr : ∀ F G env H p ps v vs, RE K F G env σ H p v → Rr F G env σ H ps vs → (p.1 = false ∨ ∃ a o, v = .ref a ∧ F a = none ∧ Rr (upd F a o) G env σ H ps vs) → Rq F G env σ H (mk p ps) (cons v vs))
    (hu : ∀ F G env H a o ps vs, F a = none → Rr (upd F a o) G env σ H ps vs → Rr F G env σ H ps vs) :
    tR K xa W (RE K) f σ H (fun v H1 => tR K xa W Rr g σ H1 fun vs H2 => Q (cons v vs) H2) := by
  refine tR_bind (R1 := RE K) h fun ioa F G env p v H1 S r q => ?_
  unfold RE at r
  by_cases hp : p.1 = true
  · rw [if_pos hp] at r
    obtain ⟨a, rfl, f1, g1, ⟨o, ho, t⟩, m1⟩ := r
    refine ⟨ioa, upd F a o, G, env, S.guard f1 ho m1, ?_⟩
    have q : oR K xa W Rq ioa F σ ((g env).bind fun ps e2 => .ok (mk p ps) e2) G Q := q
    revert q
    show _ → oR K xa W Rr ioa (upd F a o) σ (g env) G fun vs H2 => Q (cons (.ref a) vs) H2
    cases g env with
    | no => exact fun q => q
    | ex x e => exact fun q cl dd G' H' xx S' => q cl dd G' H' (xx.unguard f1) (S'.unguard f1).1
    | ok ps e =>
      intro q vs G' H' xx S' rr
      refine q (cons (.ref a) vs) G' H' (xx.unguard f1) (S'.unguard f1).1 (hr F G' e H' p ps _ vs ?_ (hu _ _ _ _ _ _ _ _ f1 rr) (.inr ⟨a, o, rfl, f1, rr⟩))
      unfold RE
      rw [if_pos hp]
      exact guard_back f1 g1 t xx S'
  · rw [if_neg hp] at r
    refine ⟨ioa, F, G, env, S, ?_⟩
    have q : oR K xa W Rq ioa F σ ((g env).bind fun ps e2 => .ok (mk p ps) e2) G Q := q
    revert q
    show _ → oR K xa W Rr ioa F σ (g env) G fun vs H2 => Q (cons v vs) H2
    cases g env with
    | no => exact fun q => q
    | ex x e => exact fun q => q
    | ok ps e =>
      intro q vs G' H' xx S' rr
      refine q (cons v vs) G' H' xx S' (hr F G' e H' p ps v vs ?_ rr (.inl (by simpa using hp)))
      unfold RE
      rw [if_neg hp]
      exact Dr.mono (.of xx.1) _ r
/-! ### arguments -/
/-- an argument: a value; a slot of one's own; a new list or dict -/
inductive RA (K : PySem.W.Frag) (F G : Hp) (env : Env) (σ : L2.St) (H : Hp) : List Bool → List Ar → List V → Prop
  | nil {io : List Bool} : RA K F G env σ H io [] []
  | v {io : List Bool} {d : D} {v : V} {as : List Ar} {vs : List V} (hio : io.headD false = false) (h : Dr K G v d) (k : RA K F G env σ H io.tail as vs) : RA K F G env σ H io (.v d :: as) (v :: vs)
  | s {io : List Bool} {i : Nat} {v : V} {as : List Ar} {vs : List V} (hio : io.headD false = true) (h : σ[i]? = some (some v)) (k : RA K F G env σ H io.tail as vs) : RA K F G env σ H io (.s i :: as) (v :: vs)
  | t {io : List Bool} {d : D} {v : V} {as : List Ar} {vs : List V} (hio : io.headD false = true) (h : Fresh K F G env σ H v d) (k : RA K F G env σ H io.tail as vs)
      (n : ∀ (j : Nat) (d' : D), as[j]? = some (.t d') → vs[j]? ≠ some v) : RA K F G env σ H io (.t d :: as) (v :: vs)
theorem RA.unguard {F G : Hp} {env : Env} {σ : L2.St} {H : Hp} {a : Addr} {o : HO} : ∀ {io : List Bool} {as : List Ar} {vs : List V}, RA K (upd F a o) G env σ H io as vs → RA K F G env σ H io as vs ∧ ∀ (j : Nat) (d : D), as[j]? = some (.t d) → vs[j]? ≠ some (.ref a)
  | _, _, _, .nil => ⟨.nil, fun j d e => by simp at e⟩
  | _, _, _, .v hio h k => by
    obtain ⟨k1, k2⟩ := k.unguard
    refine ⟨.v hio h k1, fun j d e => ?_⟩
    cases j with
    | zero => cases Option.some.inj e
    | succ j => simpa using k2 j d (by simpa using e)
  | _, _, _, .s hio h k => by
    obtain ⟨k1, k2⟩ := k.unguard
    refine ⟨.s hio h k1, fun j d e => ?_⟩
    cases j with
    | zero => cases Option.some.inj e
    | succ j => simpa using k2 j d (by simpa using e)
  | _, _, _, .t hio ⟨b, eb, f1, g1, o1, m1⟩ k n => by
    obtain ⟨k1, k2⟩ := k.unguard
    obtain ⟨f2, ne⟩ := upd_none f1
    refine ⟨.t hio ⟨b, eb, f2, g1, o1, m1⟩ k1 n, fun j d e z => ?_⟩
    cases j with
    | zero =>
      have z : some _ = some (V.ref a) := z
      rw [eb] at z
      cases z
      exact ne rfl
    | succ j => exact k2 j d (by simpa using e) (by simpa using z)
theorem RA.kinds {F G : Hp} {env : Env} {σ : L2.St} {H : Hp} : ∀ {io : List Bool} {as : List Ar} {vs : List V}, RA K F G env σ H io as vs → as.length = vs.length
  | _, _, _, .nil => rfl
  | _, _, _, .v _ _ k => congrArg (· + 1) k.kinds
  | _, _, _, .s _ _ k => congrArg (· + 1) k.kinds
  | _, _, _, .t _ _ k _ => congrArg (· + 1) k.kinds
end
end Rv
end
section
/-! Rv, part 12: the entry of a def and what is behind it. -/
namespace Rv
open PySem PySem.Spec PyProof.Rows L2
def EntV (K : PySem.W.Frag) (F G H : Hp) : List Bool → List V → List D → Prop
  | _, [], [] => True
  | io, v :: vs, d :: ds => (if io.headD false = true then (∃ a, v = .ref a ∧ F a = none ∧ G a = none ∧ Own K G H a d) ∧ ∀ j, io.tail.getD j false = true → vs[j]? ≠ some v else Dr K G v d) ∧ EntV K F G H io.tail vs ds
  | _, _, _ => False
def AftV (K : PySem.W.Frag) (G' H' : Hp) : List Bool → List V → List D → Prop
  | _, [], outs => outs = []
  | io, v :: vs, outs => if io.headD false = true then ∃ a d r, v = .ref a ∧ outs = d :: r ∧ G' a = none ∧ Own K G' H' a d ∧ AftV K G' H' io.tail vs r else AftV K G' H' io.tail vs outs
/-- all is as it was behind a call, but what was handed over to be changed -/
structure Aft (K : PySem.W.Frag) (F G G' H' : Hp) (io : List Bool) (vs : List V) (outs : List D) : Prop where
  ext : Ext F G G'
  fh : Same F H'
  gh : Same G' H'
  io : AftV K G' H' io vs outs
/-- an answer: a value; or a new list that nobody else has -/
def AnsV (K : PySem.W.Frag) (F G' H' : Hp) (nw : Bool) (v : V) (d : D) : Prop := if nw = true then ∃ a, v = .ref a ∧ F a = none ∧ G' a = none ∧ Own K G' H' a d else Dr K G' v d
/-- what a def promises -/
def spD (K : PySem.W.Frag) (xa : XA) (np : Nat) (io : List Bool) (r : List D → Co) (nw : Bool := false) : Sp := fun vs H Q E => vs.length = np ∧ ∃ F G ds, Same F H ∧ Same G H ∧ EntV K F G H io vs ds ∧
  match r ds with
  | .no => False
  | .ret d outs => ∀ v G' H', Aft K F G G' H' io vs outs → AnsV K F G' H' nw v d → Q v H'
  | .exn x outs => ∀ cl dd G' H', Aft K F G G' H' io vs outs → xa G' H' x cl dd → E cl dd H'
section
variable {K : PySem.W.Frag} {xa : XA} {W : WX} {ioa : Nat → Addr} {F F' G G' : Hp} {env : Env} {σ : L2.St} {H H' : Hp}
theorem headD_get (io : List Bool) : io.headD false = io.getD 0 false := by cases io <;> rfl
theorem tail_get (io : List Bool) (j : Nat) : io.tail.getD j false = io.getD (j + 1) false := by
  cases io with
  | nil => rfl
  | cons b r => rfl
theorem ra_at : ∀ {io : List Bool} {as : List Ar} {vs : List V}, RA K F G env σ H io as vs → ∀ {j : Nat} {v : V}, vs[j]? = some v → io.getD j false = true →
    (∃ i, as[j]? = some (Ar.s i) ∧ σ[i]? = some (some v)) ∨ ∃ d, as[j]? = some (Ar.t d) ∧ Fresh K F G env σ H v d
  | _, _, _, .nil, j, v, e, _ => by simp at e
  | io, _, _, .v hio h k, j, v, e, hj => by
    cases j with
    | zero => rw [← headD_get, hio] at hj; cases hj
    | succ j => exact ra_at k (by simpa using e) (by rw [tail_get]; exact hj)
  | io, _, _, .s hio h k, j, v, e, hj => by
    cases j with
    | zero => cases Option.some.inj e; exact .inl ⟨_, rfl, h⟩
    | succ j => exact ra_at k (by simpa using e) (by rw [tail_get]; exact hj)
  | io, _, _, .t hio h k n, j, v, e, hj => by
    cases j with
    | zero => cases Option.some.inj e; exact .inr ⟨_, rfl, h⟩
    | succ j => exact ra_at k (by simpa using e) (by rw [tail_get]; exact hj)
theorem slots_mem : ∀ {as : List Ar} {j i : Nat}, as[j]? = some (Ar.s i) → i ∈ slotsOf as
  | [], j, i, e => by simp at e
  | a :: as, 0, i, e => by
    cases Option.some.inj e
    exact List.mem_cons_self
  | a :: as, j + 1, i, e => by
    have h := slots_mem (as := as) (j := j) (i := i) (by simpa using e)
    cases a with
    | v d => exact h
    | s k => exact List.mem_cons_of_mem _ h
    | t d => exact h
theorem argDs_cons {a : Ar} {as : List Ar} {ds : List D} (e : argDs env (a :: as) = some ds) : ∃ d r, argD env a = some d ∧ argDs env as = some r ∧ ds = d :: r := by
  unfold argDs at e
  cases h : argD env a with
  | none => rw [h] at e; cases e
  | some d =>
    rw [h] at e
    have e : (argDs env as).map (d :: ·) = some ds := e
    cases h2 : argDs env as with
    | none => rw [h2] at e; cases e
    | some r => rw [h2] at e; cases e; exact ⟨d, r, rfl, rfl, rfl⟩
theorem argD_s {i : Nat} {d : D} (e : argD env (.s i) = some d) : ∃ s, env[i]? = some (some s) ∧ s.mine = true ∧ s.d = d := by
  have e : (match env[i]? with
    | some (some (.own d)) => some d
    | some (some (.io d)) => some d
    | _ => none) = some d := e
  split at e
  · rename_i d' h; cases e; exact ⟨_, h, rfl, rfl⟩
  · rename_i d' h; cases e; exact ⟨_, h, rfl, rfl⟩
  · cases e
theorem argDs_mine : ∀ {as : List Ar} {ds : List D}, argDs env as = some ds → ∀ {j i : Nat}, as[j]? = some (Ar.s i) → mine env i
  | [], _, _, j, i, e => by simp at e
  | a :: as, ds, h, 0, i, e => by
    cases Option.some.inj e
    obtain ⟨d, r, h1, _, _⟩ := argDs_cons h
    obtain ⟨s, h2, h3, _⟩ := argD_s h1
    exact ⟨s, h2, h3⟩
  | a :: as, ds, h, j + 1, i, e => by
    obtain ⟨d, r, _, h2, _⟩ := argDs_cons h
    exact argDs_mine h2 (j := j) (by simpa using e)
theorem ent_of (S : Sim K ioa F G env σ H) : ∀ {io : List Bool} {as : List Ar} {vs : List V} {ds : List D}, RA K F G env σ H io as vs → argDs env as = some ds → (slotsOf as).Nodup →
    (∀ j a, io.getD j false = true → vs[j]? = some (.ref a) → F' a = none) → EntV K F' G H io vs ds
  | io, _, _, ds, .nil, e, _, _ => by cases e; exact True.intro
  | io, _, _, ds, .v (as := as) (vs := vs) hio h k, e, nd, hF => by
    obtain ⟨d, r, h1, h2, rfl⟩ := argDs_cons e
    cases h1
    refine ⟨?_, ent_of S k h2 nd fun j a h3 h4 => hF (j + 1) a (by rw [← tail_get]; exact h3) (by simpa using h4)⟩
    rw [if_neg (by rw [hio]; exact Bool.false_ne_true)]
    exact h
  | io, _, _, ds, .s (as := as) (vs := vs) (i := i) hio h k, e, nd, hF => by
    obtain ⟨d, r, h1, h2, rfl⟩ := argDs_cons e
    obtain ⟨s, h3, h4, rfl⟩ := argD_s h1
    have nd : (i :: slotsOf as).Nodup := nd
    obtain ⟨n1, n2⟩ := List.nodup_cons.mp nd
    refine ⟨?_, ent_of S k h2 n2 fun j a h3 h4 => hF (j + 1) a (by rw [← tail_get]; exact h3) (by simpa using h4)⟩
    rw [if_pos hio]
    obtain ⟨v', e1, e2⟩ := S.sl i s h3
    rw [h] at e1
    cases e1
    obtain ⟨a, rfl, f1, g1, o1⟩ := (SlOk.own h4).mp e2
    refine ⟨⟨a, rfl, hF 0 a (by rw [← headD_get]; exact hio) rfl, g1, o1⟩, fun j hj hv => ?_⟩
    rcases ra_at k hv hj with ⟨i2, a2, s2⟩ | ⟨d2, a2, b, eb, _, _, _, m2⟩
    · have : i = i2 := S.ap i i2 a ⟨s, h3, h4⟩ (argDs_mine h2 a2) h s2
      subst this
      exact n1 (slots_mem a2)
    · cases eb
      exact m2 i ⟨s, h3, h4⟩ h
  | io, _, _, ds, .t (as := as) (vs := vs) hio ⟨a, ea, f1, g1, o1, m1⟩ k n, e, nd, hF => by
    obtain ⟨d, r, h1, h2, rfl⟩ := argDs_cons e
    cases h1
    subst ea
    refine ⟨?_, ent_of S k h2 nd fun j a h3 h4 => hF (j + 1) a (by rw [← tail_get]; exact h3) (by simpa using h4)⟩
    rw [if_pos hio]
    refine ⟨⟨a, rfl, hF 0 a (by rw [← headD_get]; exact hio) rfl, g1, o1⟩, fun j hj hv => ?_⟩
    rcases ra_at k hv hj with ⟨i2, a2, s2⟩ | ⟨d2, a2, _⟩
    · exact m1 i2 (argDs_mine h2 a2) s2
    · exact n j d2 a2 hv
/-- what is laid back -/
theorem lay_spec : ∀ {io : List Bool} {as : List Ar} {vs : List V} {outs : List D} {env env' : Env}, as.length = vs.length → (∀ j v, vs[j]? = some v → (io.getD j false = true ↔ ∃ a, as[j]? = some a ∧ ∀ d, a ≠ .v d)) →
    (∀ (j i : Nat), as[j]? = some (Ar.s i) → ∃ v, vs[j]? = some v ∧ σ[i]? = some (some v)) → (slotsOf as).Nodup → AftV K G' H' io vs outs → lay as outs env = some env' →
    env'.length = env.length ∧ ∀ i s, env'[i]? = some (some s) → (i ∉ slotsOf as ∧ env[i]? = some (some s)) ∨
      (∃ s0 a d, env[i]? = some (some s0) ∧ upSl d s0 = some s ∧ σ[i]? = some (some (.ref a)) ∧ G' a = none ∧ Own K G' H' a d)
  | io, [], [], outs, env, env', _, _, _, _, hA, e => by
    have hA : outs = [] := hA
    subst hA
    cases e
    exact ⟨rfl, fun i s h => .inl ⟨by simp [slotsOf], h⟩⟩
  | io, [], v :: vs, outs, env, env', hl, _, _, _, _, _ => by simp at hl
  | io, a :: as, [], outs, env, env', hl, _, _, _, _, _ => by simp at hl
  | io, a :: as, v :: vs, outs, env, env', hl, hk, hs, nd, hA, e => by
    have hl' : as.length = vs.length := by simpa using hl
    have hk' : ∀ j v, vs[j]? = some v → (io.tail.getD j false = true ↔ ∃ a, as[j]? = some a ∧ ∀ d, a ≠ .v d) := fun j v h => by
      rw [tail_get]
      simpa using hk (j + 1) v (by simpa using h)
    have hs' : ∀ (j i : Nat), as[j]? = some (Ar.s i) → ∃ v, vs[j]? = some v ∧ σ[i]? = some (some v) := fun j i h => by
      simpa using hs (j + 1) i (by simpa using h)
    have h0 := hk 0 v rfl
    rw [← headD_get] at h0
    unfold AftV at hA
    cases a with
    | v d =>
      have hf : ¬ io.headD false = true := fun z => by
        obtain ⟨a, h1, h2⟩ := h0.mp z
        cases Option.some.inj h1
        exact h2 d rfl
      rw [if_neg hf] at hA
      have e : lay as outs env = some env' := by
        unfold lay at e
        exact e
      exact lay_spec (io := io.tail) (as := as) (vs := vs) hl' hk' hs' nd hA e
    | t d =>
      have hf : io.headD false = true := h0.mpr ⟨_, rfl, fun d z => by cases z⟩
      rw [if_pos hf] at hA
      obtain ⟨b, d', r, rfl, rfl, _, _, hA⟩ := hA
      have e : lay as r env = some env' := e
      exact lay_spec (io := io.tail) (as := as) (vs := vs) hl' hk' hs' nd hA e
    | s i =>
      have hf : io.headD false = true := h0.mpr ⟨_, rfl, fun d z => by cases z⟩
      rw [if_pos hf] at hA
      obtain ⟨b, d', r, rfl, rfl, hG, hO, hA⟩ := hA
      have nd : (i :: slotsOf as).Nodup := nd
      obtain ⟨n1, n2⟩ := List.nodup_cons.mp nd
      obtain ⟨v', e1, e2⟩ := hs 0 i rfl
      cases Option.some.inj e1
      unfold lay at e
      split at e
      · rename_i s0 hs0
        cases hu : upSl d' s0 with
        | none => rw [hu] at e; cases e
        | some s1 =>
          rw [hu] at e
          have e : lay as r (env.set i (some s1)) = some env' := e
          obtain ⟨l1, l2⟩ := lay_spec (io := io.tail) (as := as) (vs := vs) hl' hk' hs' n2 hA e
          refine ⟨by rw [l1, List.length_set], fun j s h => ?_⟩
          rcases l2 j s h with ⟨m1, m2⟩ | ⟨s2, a2, d2, m1, m2, m3, m4⟩
          · by_cases hj : i = j
            · subst hj
              rw [List.getElem?_set_self (lt_of_get hs0)] at m2
              cases m2
              exact .inr ⟨s0, b, d', hs0, hu, e2, hG, hO⟩
            · rw [List.getElem?_set_ne hj] at m2
              exact .inl ⟨fun z => by
                rcases List.mem_cons.mp z with z | z
                · exact hj z.symm
                · exact m1 z, m2⟩
          · by_cases hj : i = j
            · subst hj
              rw [List.getElem?_set_self (lt_of_get hs0)] at m1
              cases m1
              cases s0 with
              | val d => cases hu
              | own d =>
                cases hu
                cases m2
                exact .inr ⟨_, a2, d2, hs0, rfl, m3, m4⟩
              | io d =>
                cases hu
                cases m2
                exact .inr ⟨_, a2, d2, hs0, rfl, m3, m4⟩
            · rw [List.getElem?_set_ne hj] at m1
              exact .inr ⟨s2, a2, d2, m1, m2, m3, m4⟩
      · cases e
theorem ra_io : ∀ {io : List Bool} {as : List Ar} {vs : List V}, RA K F G env σ H io as vs → ∀ j v, vs[j]? = some v → (io.getD j false = true ↔ ∃ a, as[j]? = some a ∧ ∀ d, a ≠ .v d)
  | _, _, _, .nil, j, v, e => by simp at e
  | io, _, _, .v hio h k, j, v, e => by
    cases j with
    | zero => rw [← headD_get, hio]; exact ⟨fun z => (nomatch z), fun ⟨a, h1, h2⟩ => by cases Option.some.inj h1; exact absurd rfl (h2 _)⟩
    | succ j => rw [← tail_get]; simpa using ra_io k j v (by simpa using e)
  | io, _, _, .s hio h k, j, v, e => by
    cases j with
    | zero => rw [← headD_get, hio]; exact ⟨fun _ => ⟨_, rfl, fun d z => nomatch z⟩, fun _ => rfl⟩
    | succ j => rw [← tail_get]; simpa using ra_io k j v (by simpa using e)
  | io, _, _, .t hio h k n, j, v, e => by
    cases j with
    | zero => rw [← headD_get, hio]; exact ⟨fun _ => ⟨_, rfl, fun d z => nomatch z⟩, fun _ => rfl⟩
    | succ j => rw [← tail_get]; simpa using ra_io k j v (by simpa using e)
theorem ra_slot : ∀ {io : List Bool} {as : List Ar} {vs : List V}, RA K F G env σ H io as vs → ∀ (j i : Nat), as[j]? = some (Ar.s i) → ∃ v, vs[j]? = some v ∧ σ[i]? = some (some v)
  | _, _, _, .nil, j, i, e => by simp at e
  | io, _, _, .v hio h k, j, i, e => by
    cases j with
    | zero => cases Option.some.inj e
    | succ j => simpa using ra_slot k j i (by simpa using e)
  | io, _, _, .s hio h k, j, i, e => by
    cases j with
    | zero => cases Option.some.inj e; exact ⟨_, rfl, h⟩
    | succ j => simpa using ra_slot k j i (by simpa using e)
  | io, _, _, .t hio h k n, j, i, e => by
    cases j with
    | zero => cases Option.some.inj e
    | succ j => simpa using ra_slot k j i (by simpa using e)
theorem slots_at : ∀ {as : List Ar} {i : Nat}, i ∈ slotsOf as → ∃ j : Nat, as[j]? = some (Ar.s i)
  | [], i, h => by simp [slotsOf] at h
  | .v d :: as, i, h => by obtain ⟨j, e⟩ := slots_at (as := as) h; exact ⟨j + 1, by simpa using e⟩
  | .t d :: as, i, h => by obtain ⟨j, e⟩ := slots_at (as := as) h; exact ⟨j + 1, by simpa using e⟩
  | .s k :: as, i, h => by
    rcases List.mem_cons.mp (show i ∈ k :: slotsOf as from h) with rfl | h
    · exact ⟨0, rfl⟩
    · obtain ⟨j, e⟩ := slots_at (as := as) h; exact ⟨j + 1, by simpa using e⟩
/-- what a callee may not touch -/
noncomputable def keepF (H : Hp) (io : List Bool) (vs : List V) : Hp := by
  classical exact fun b => if ∃ j, io.getD j false = true ∧ vs[j]? = some (.ref b) then none else H b
theorem keepF_io {io : List Bool} {vs : List V} {b : Addr} (h : ∃ j, io.getD j false = true ∧ vs[j]? = some (.ref b)) : keepF H io vs b = none := by
  unfold keepF
  rw [if_pos h]
theorem keepF_ne {io : List Bool} {vs : List V} {b : Addr} (h : ¬ ∃ j, io.getD j false = true ∧ vs[j]? = some (.ref b)) : keepF H io vs b = H b := by
  unfold keepF
  rw [if_neg h]
theorem keepF_same {io : List Bool} {vs : List V} : Same (keepF H io vs) H := fun b u h => by
  by_cases c : ∃ j, io.getD j false = true ∧ vs[j]? = some (.ref b)
  · rw [keepF_io c] at h; cases h
  · rw [keepF_ne c] at h; exact h
/-- behind the call -/
theorem back_of {io : List Bool} {as : List Ar} {vs : List V} {ds outs : List D} {env' : Env} (S : Sim K ioa F G env σ H) (R : RA K F G env σ H io as vs) (ha : argDs env as = some ds) (nd : (slotsOf as).Nodup)
    (A : Aft K (keepF H io vs) G G' H' io vs outs) (hl : lay as outs env = some env') : Ext F G G' ∧ Sim K ioa F G' env' σ H' := by
  obtain ⟨l1, l2⟩ := lay_spec R.kinds (ra_io R) (ra_slot R) nd A.io hl
  have ioF : ∀ a, (∃ j, io.getD j false = true ∧ vs[j]? = some (.ref a)) → F a = none := fun a ⟨j, h1, h2⟩ => by
    rcases ra_at R h2 h1 with ⟨i, e1, e2⟩ | ⟨d, e1, b, eb, f1, _⟩
    · obtain ⟨s, h3, h4⟩ := argDs_mine ha e1
      obtain ⟨v, h5, h6⟩ := S.sl i s h3
      rw [e2] at h5
      cases h5
      obtain ⟨a', ea, f1, _⟩ := (SlOk.own h4).mp h6
      cases ea
      exact f1
    · cases eb; exact f1
  have keep : ∀ b u, H b = some u → F b ≠ none ∨ (¬ ∃ j, io.getD j false = true ∧ vs[j]? = some (.ref b)) → H' b = some u := fun b u h c => by
    have c' : ¬ ∃ j, io.getD j false = true ∧ vs[j]? = some (.ref b) := by
      rcases c with c | c
      · exact fun z => c (ioF b z)
      · exact c
    exact A.fh b u (by rw [keepF_ne c']; exact h)
  refine ⟨⟨A.ext.1, fun b hb => A.ext.2 b ?_⟩, ?_⟩
  · rw [keepF_ne (fun z => hb (ioF b z))]
    cases hF : F b with
    | none => exact absurd hF hb
    | some u => rw [S.fh b u hF]; simp
  · have hm : ∀ i, mine env' i → mine env i := fun i ⟨s, h1, h2⟩ => by
      rcases l2 i s h1 with ⟨_, e⟩ | ⟨s0, a, d, e, hu, _⟩
      · exact ⟨s, e, h2⟩
      · cases s0 with
        | val d => cases hu
        | own d => exact ⟨_, e, rfl⟩
        | io d => exact ⟨_, e, rfl⟩
    refine ⟨by rw [l1]; exact S.len, fun b u h => keep b u (S.fh b u h) (.inl (by rw [h]; simp)), A.gh, fun i s h => ?_, fun i d h => ?_, fun i j a mi mj => S.ap i j a (hm i mi) (hm j mj)⟩
    · rcases l2 i s h with ⟨hn, e⟩ | ⟨s0, a, d, e, hu, es, g1, o1⟩
      · obtain ⟨v, h1, h2⟩ := S.sl i s e
        refine ⟨v, h1, ?_⟩
        cases hs : s.mine with
        | false =>
          cases s with
          | val d => exact Dr.mono (.of A.ext.1) _ h2
          | own _ => cases hs
          | io _ => cases hs
        | true =>
          obtain ⟨a, rfl, f1, g1, o, ho, t⟩ := (SlOk.own hs).mp h2
          have c : ¬ ∃ j, io.getD j false = true ∧ vs[j]? = some (.ref a) := fun ⟨j, z1, z2⟩ => by
            rcases ra_at R z2 z1 with ⟨k, e1, e2⟩ | ⟨d, e1, b, eb, _, _, _, m1⟩
            · have : i = k := S.ap i k a ⟨s, e, hs⟩ (argDs_mine ha e1) h1 e2
              subst this
              exact hn (slots_mem e1)
            · cases eb
              exact m1 i ⟨s, e, hs⟩ h1
          have hH := keep a o ho (.inr c)
          refine (SlOk.own hs).mpr ⟨a, rfl, f1, ?_, o, hH, t.mono (.of A.ext.1)⟩
          rcases A.ext.2 a (by rw [keepF_ne c, ho]; simp) with z | ⟨xs, z⟩
          · rw [z]; exact g1
          · have := A.gh a _ z
            rw [hH] at this
            cases this
            exact absurd rfl (t.notup xs)
      · obtain ⟨v, h1, h2⟩ := S.sl i s0 e
        rw [es] at h1
        cases h1
        refine ⟨.ref a, es, ?_⟩
        cases s0 with
        | val d => cases hu
        | own d0 =>
          cases hu
          obtain ⟨a', ea, f1, _⟩ := h2
          cases ea
          exact ⟨a, rfl, f1, g1, o1⟩
        | io d0 =>
          cases hu
          obtain ⟨a', ea, f1, _⟩ := h2
          cases ea
          exact ⟨a, rfl, f1, g1, o1⟩
    · rcases l2 i _ h with ⟨hn, e⟩ | ⟨s0, a, d', e, hu, es, g1, o1⟩
      · exact S.io i d e
      · cases s0 with
        | val d => cases hu
        | own d0 => cases hu
        | io d0 => exact S.io i d0 e
theorem lay_mine : ∀ {as : List Ar} {outs : List D} {env env' : Env}, lay as outs env = some env' → ∀ i, mine env' i → mine env i
  | [], [], env, env', e, i, m => by cases e; exact m
  | [], _ :: _, env, env', e, i, m => nomatch e
  | .v d :: as, outs, env, env', e, i, m => by
    have e : lay as outs env = some env' := by unfold lay at e; exact e
    exact lay_mine e i m
  | .t d :: as, [], env, env', e, i, m => nomatch e
  | .t d :: as, _ :: r, env, env', e, i, m => by
    have e : lay as r env = some env' := e
    exact lay_mine e i m
  | .s j :: as, [], env, env', e, i, m => nomatch e
  | .s j :: as, d :: r, env, env', e, i, m => by
    unfold lay at e
    split at e
    · rename_i s0 hs0
      cases hu : upSl d s0 with
      | none => rw [hu] at e; cases e
      | some s1 =>
        rw [hu] at e
        have e : lay as r (env.set j (some s1)) = some env' := e
        obtain ⟨s, h1, h2⟩ := lay_mine e i m
        by_cases hj : j = i
        · subst hj
          cases s0 with
          | val d => cases hu
          | own d => exact ⟨_, hs0, rfl⟩
          | io d => exact ⟨_, hs0, rfl⟩
        · rw [List.getElem?_set_ne hj] at h1
          exact ⟨s, h1, h2⟩
    · cases e
def RN (K : PySem.W.Frag) (nw : Bool) : Rk D V := fun F G env σ H d v => RE K F G env σ H (nw, d) v
/-- the call, by its promise -/
theorem call_of {np : Nat} {io : List Bool} {as : List Ar} {vs : List V} {c : Cal} {f : Nat} {nw : Bool} {Q : VK} (S : Sim K ioa F G env σ H) (R : RA K F G env σ H io as vs) (hn : as.length = np) (hnw : nw = true → io = [])
    (q : oR K xa W (RN K nw) ioa F σ (runC c f as env) G Q) : spD K xa np io (c.run f) nw vs H Q (fun cl dd H' => W cl dd σ H') := by
  unfold runC at q
  by_cases nd : (slotsOf as).Nodup
  · rw [if_pos nd] at q
    cases ha : argDs env as with
    | none => rw [ha] at q; exact q.elim
    | some ds =>
      rw [ha] at q
      have q : oR K xa W (RN K nw) ioa F σ (outOf as env (c.run f ds)) G Q := q
      refine ⟨by rw [← R.kinds]; exact hn, keepF H io vs, G, ds, keepF_same, S.gh, ent_of S R ha nd fun j a h1 h2 => keepF_io ⟨j, h1, h2⟩, ?_⟩
      revert q
      cases c.run f ds with
      | no => exact fun q => q
      | ret d outs =>
        intro q v G' H' A hd
        cases hl : lay as outs env with
        | none =>
          have q : oR K xa W (RN K nw) ioa F σ (match lay as outs env with | some env' => .ok d env' | none => .no) G Q := q
          rw [hl] at q
          exact q.elim
        | some env' =>
          have q : oR K xa W (RN K nw) ioa F σ (match lay as outs env with | some env' => .ok d env' | none => .no) G Q := q
          rw [hl] at q
          obtain ⟨x, S'⟩ := back_of S R ha nd A hl
          refine q v G' H' x S' ?_
          unfold AnsV at hd
          unfold RN RE
          cases nw with
          | false => exact hd
          | true =>
            obtain ⟨a, rfl, f1, g1, o1⟩ := hd
            have e := hnw rfl
            have hHa : H a = none := by
              rw [← f1, keepF_ne]
              rintro ⟨j, z, _⟩
              rw [e] at z
              simp at z
            obtain ⟨f2, _, m2⟩ := S.free hHa
            exact ⟨a, rfl, f2, g1, o1, fun i hi => m2 i (lay_mine hl i hi)⟩
      | exn x outs =>
        intro q cl dd G' H' A hx
        cases hl : lay as outs env with
        | none =>
          have q : oR K xa W (RN K nw) ioa F σ (match lay as outs env with | some env' => .ex x env' | none => .no) G Q := q
          rw [hl] at q
          exact q.elim
        | some env' =>
          have q : oR K xa W (RN K nw) ioa F σ (match lay as outs env with | some env' => .ex x env' | none => .no) G Q := q
          rw [hl] at q
          obtain ⟨xx, S'⟩ := back_of S R ha nd A hl
          exact q cl dd G' H' xx S' hx
  · rw [if_neg nd] at q
    exact q.elim
end
end Rv
end
section
/-! Rv, part 13: defs; what an expression's context holds. -/
namespace Rv
open PySem PySem.Spec PyProof.Rows L2
/-- a def's promise where no repr is under way (HandS's FnOk, with that) -/
structure FnG (P : Program) (w : World) (K : PySem.W.Frag) (mg : Str → Option Value) (base : Heap) (C : CXT) (k : Nat) (f : Addr) (fd : FuncData) (ps : List Str) (sp : Sp) : Prop where
  len : ∀ vs H Q E, sp vs H Q E → vs.length = ps.length
  run : ∀ (A : Around) (outer : List PySem.Env) (s : Shared) (H : Hp) (args : Args) (us : List Value) (vs : List V) (Q : VK) (E : XK), A.guards = some [] → Room k A → Env0 P w K mg base A outer s H → BindsTo s fd args (ps.zip us) →
    Vals vs us → sp vs H Q E → codeAny (model P w) A (.call (.ref f) args) (CR C outer P w H s Q E) s
section
variable {X : Cx} {C : CXT} {k : Nat} {f : Addr} {fd : FuncData} {ps : List Str} {sp : Sp} {x : Str} {p pos : Pos} {e : Expr} {es : List Expr} {t : TA} {E : L2.St → XK}
theorem run_fnG {pins : List (Addr × Obj)} {σ : L2.St} {H : Hp} {s : Shared} {Q : VK} {us : List Value} {vs : List V} (F : FnG X.prog X.w X.K X.mg X.base C k f fd ps sp) (hr : Room k X.A) (hg : X.A.guards = some []) (hb : Binds X.K fd ps [])
    (hx : PassesAt C X σ (E σ)) (I : Inv X pins σ H s) (r : Vals vs us) (h : sp vs H Q (E σ)) : wpAny (model X.prog X.w) X.A (call (.ref f) us) (EP X pins σ Q) X.xe s := by
  have hl : us.length = ps.length := r.length.symm.trans (F.len _ _ _ _ h)
  have hb' := hb s us I.kIn (by rw [List.append_nil]; exact hl)
  rw [List.append_nil] at hb'
  have key := F.run X.A X.stack s H ⟨us, []⟩ us vs Q (E σ) hg hr I.env0 hb' r h
  refine wpAny_call (codeAny_mono key fun res s' hq => ?_)
  match res, hq with
  | .error er, hq => exact hx pins H s er s' I hq
  | .ok (.ret u), hq => exact I.after hq
  | .ok .next, hq => exact hq.elim
  | .ok .brk, hq => exact hq.elim
  | .ok .cont, hq => exact hq.elim
def tCG (sp : Sp) (E : L2.St → XK) (t : TA) : TE := fun σ H Q => t σ H fun vs H1 => sp vs H1 Q (E σ)
theorem pe_callG (F : FnG X.prog X.w X.K X.mg X.base C k f fd ps sp) (hr : Room k X.A) (hg : X.A.guards = some []) (hgl : Gl X x) (hm : X.mg x = some (.ref f)) (hk : PySem.W.keepIn X.K (.ref f) = true) (hb : Binds X.K fd ps [])
    (hx : ∀ σ, PassesAt C X σ (E σ)) (ha : PA X (e :: es) t) (hdb : (x == ("__debug__" : Str)) = false) (he : starEach (e :: es) X.env = (false, eval e X.env) :: starEach es X.env) (hpl : (backTo pos (starEach es X.env)).any (·.1) = false) :
    PE X (.Call (.Name x p) (e :: es) [] pos) (tCG sp E t) :=
  ⟨fun pins s σ H Q I h => wpAny_Call_Name_kw (ld_glob I hgl hm (PySem.W.callWith_K (h₀ := X.base) I.ok.mod.kin hk
    (thn (ha.run pos pins s σ H _ I h) fun us s1 ⟨vs, H1, I1, r, q⟩ => ⟨I1.kIn, run_fnG F hr hg hb (hx σ) I1 r q⟩) he hpl) hdb)⟩
theorem pe_callG0 (F : FnG X.prog X.w X.K X.mg X.base C k f fd ps sp) (hr : Room k X.A) (hg : X.A.guards = some []) (hgl : Gl X x) (hm : X.mg x = some (.ref f)) (hk : PySem.W.keepIn X.K (.ref f) = true) (hb : Binds X.K fd ps [])
    (hx : ∀ σ, PassesAt C X σ (E σ)) (hdb : (x == ("__debug__" : Str)) = false) : PE X (.Call (.Name x p) [] [] pos) (tCG sp E tNil) :=
  ⟨fun pins s σ H Q I h => wpAny_Call_Name_kw (ld_glob I hgl hm (PySem.W.callWith_K0 I.kIn hk (run_fnG (us := []) F hr hg hb (hx σ) I .nil h)) hdb)⟩
end
/-- a def by its body -/
theorem fnG_of {C : CXT} {P : Program} {w : World} {K : PySem.W.Frag} {mg : Str → Option Value} {base : Heap} {k : Nat} {f : Addr} {name qual : Str} {params : Arguments} {body : List Stmt} {scope : Scope} {dV kV doc pm cdv ct oc : Value} {an od : Option Addr}
    {osl : Array (Option Value)} {N ps : List Str} {sp : Sp} (lk : K.lookup f = some ⟨oc, od, .func (PySem.W.fnOf name qual params body scope dV kV doc pm an cdv ct), osl⟩) (hcd : PySem.W.codeIn K cdv qual = true) (S : FnScope N ps scope)
    (len : ∀ vs H Q E, sp vs H Q E → vs.length = ps.length)
    (hbody : ∀ (A : Around) (outer : List PySem.Env) (s : Shared) (H : Hp) (vs : List V) (Q : VK) (E : XK), A.guards = some [] → Room k (A.deeper (envOfC qual scope s.heap.objs.size f cdv)) → sp vs H Q E →
      ∃ t, PSs (cxOf C P w K mg base N qual scope f cdv A outer s H E) body t ∧ t { nx := fun _ H' => Q .non H', rt := Q } (start N vs) H) :
    FnG P w K mg base C (k + 1) f (PySem.W.fnOf name qual params body scope dV kV doc pm an cdv ct) ps sp := by
  refine ⟨len, fun A outer s H args us vs Q E hgd hr e0 hb r hsp => ?_⟩
  have up : ∀ {p : Addr} {o : Obj}, base.get? p = some o → s.heap.get? p = some o := fun z => (e0.bs _ _ z).1
  have KX := e0.mod.kin.keeps fun _ _ z => up z
  have lim := e0.mod.nolimit.keeps fun _ _ z => up z
  have hkind : ∀ y ∈ ps.zip us, scope.names.lookup y.1 = some .local ∨ (scope.names.lookup y.1 = some .cell ∧ ((cellsFrom (s.heap.objs.size + 1) scope.names []).lookup y.1).isSome = true) := by
    rintro ⟨n, v⟩ hy
    exact (S.par n (List.of_mem_zip hy).1).imp id fun q => ⟨q, PySem.W.cellsFrom_some _ _ _ (.inl q)⟩
  refine codeAny_call_function hr.depth (KX _ _ lk) rfl S.co S.gen rfl (PySem.W.codeRec_of KX hcd) (hb _ _ _ _ (wpAny_newFunctionEnv_cells S.kind hkind fun env he s1 x => ?_))
  subst he
  refine ⟨lim.keeps x.toInCall.keep, codeAny_func ?_⟩
  obtain ⟨t, ht, hq⟩ := hbody A outer s H vs Q E hgd (hr.deeper _) hsp
  have I := inv_start (CX := C) (E := E) S hr.hd e0 (len _ _ _ _ hsp) r x
  refine wpAny_mono (ht.run [] s1 (start N vs) H _ I hq) (fun fl s' hs => ?_) fun _ _ z => z
  match fl, hs with
  | .ret u, ⟨v, σ', H', J, rv, q⟩ => exact ⟨v, H', J.os, J.bare, J.base, J.hok, rv, q⟩
  | .next, ⟨σ', H', J, q⟩ => exact ⟨.non, H', J.os, J.bare, J.base, J.hok, rfl, q⟩
  | .brk, ⟨_, _, _, q⟩ => exact q.elim
  | .cont, ⟨_, _, _, q⟩ => exact q.elim
/-! ### what the text has -/
structure Txt where
  fns : List (Str × Nat)
  csts : List (Str × PyData)
  none : List Str
/-- the text's own defs and values, at a depth -/
structure Tx (P : Program) (w : World) (K : PySem.W.Frag) (mg : Str → Option Value) (base : Heap) (xa : XA) (T : Txt) (c : Cal) (k : Nat) : Prop where
  fn : ∀ x i, T.fns.lookup x = some i → ∃ f fd ps g, mg x = some (.ref f) ∧ PySem.W.keepIn K (.ref f) = true ∧ Binds K fd ps [] ∧ c.sig i = some g ∧ ps.length = g.np ∧ (c.nw i = true → g.io = []) ∧ FnG P w K mg base (L2.CX P w) k f fd ps (spD K xa g.np g.io (c.run i) (c.nw i))
  blt : ∀ x, x ∈ T.none → mg x = none
  cst : ∀ x d, T.csts.lookup x = some d → ∃ u v, mg x = some u ∧ RelV v u ∧ ∀ G, Dr K G v d
/-- what holds in a def's body, or in a comprehension's block -/
structure Hold (T : Txt) (c : Cal) (xa : XA) (N : List Str) (sc : Scope) (fb : Str → Bool) (W : WX) (k : Nat) (X : Cx) : Prop where
  fn : X.fn = fb
  es : X.env.scope = sc
  en : X.N = N
  nd : N.Nodup
  calm : X.calm = true
  guards : X.A.guards = some []
  room : Room k X.A
  tx : Tx X.prog X.w X.K X.mg X.base xa T c k
  pass : ∀ σ, PassesAt (L2.CX X.prog X.w) X σ fun cl dd H => W cl dd σ H
/-- no exception is wished for -/
def W0 : WX := fun _ _ _ _ => False
theorem Hold.blk {T : Txt} {c : Cal} {xa : XA} {N : List Str} {sc scope : Scope} {fb : Str → Bool} {W : WX} {k : Nat} {X : Cx} (g : Hold T c xa N sc fb W k X) (s : Shared) (H : Hp) (cl : List (Str × Addr)) (C : Addr) (fp : List Addr) :
    Hold T c xa N (relS scope sc) (fun x => scope.names.lookup x == some .cell) W0 k (X.blk s H scope (compEnvC scope cl C X.env) fp) where
  fn := rfl
  es := by
    show relS scope X.env.scope = relS scope sc
    rw [g.es]
  en := g.en
  nd := g.nd
  calm := g.calm
  guards := g.guards
  room := g.room
  tx := g.tx
  pass := fun σ pins H s e s' I c => by
    obtain ⟨_, _, _, _, _, _, _, _, _, _, _, _, z⟩ := c
    exact z
theorem Hold.hu {T : Txt} {c : Cal} {xa : XA} {N : List Str} {sc : Scope} {fb : Str → Bool} {W : WX} {k : Nat} {X : Cx} (g : Hold T c xa N sc fb W k X) : X.A.units + 120 < cLine := by
  have := g.room.un
  omega
end Rv
end
section
/-! Rv, part 14: expressions, one form after another. -/
namespace Rv
open PySem PySem.Spec PyProof.Rows L2
section
variable {X : Cx} {xa : XA} {W : WX} {c : Cal} {a b z : Ex} {ea eb ez : Expr} {pos : Pos}
/-- the reading of an expression -/
abbrev rdE (X : Cx) (xa : XA) (W : WX) (f : Env → Rs (Bool × D)) : TE := tR X.K xa W (RE X.K) f
theorem oR_bind {α β γ δ : Type} {K : PySem.W.Frag} {Ra : Rk α γ} {Rb : Rk β δ} {ioa : Nat → Addr} {F G : Hp} {σ : L2.St} {r : Rs α} {k : α → Env → Rs β} {Q : δ → Hp → Prop} {R : γ → Hp → Prop} (q : oR K xa W Rb ioa F σ (r.bind k) G Q)
    (h : ∀ p e v G' H', Ext F G G' → Sim K ioa F G' e σ H' → Ra F G' e σ H' p v → oR K xa W Rb ioa F σ (k p e) G' Q → R v H') : oR K xa W Ra ioa F σ r G R := by
  cases r with
  | no => exact q
  | ex x e => exact q
  | ok p e => exact fun v G' H' x S r => h p e v G' H' x S r (oR_ext x q)
theorem x_var {i : Nat} {x : Str} (hN : X.N[i]? = some x) (hv : Vis X.env.scope x) (hd : (x == ("__debug__" : Str)) = false) (hcd : (x == ("__classdict__" : Str)) = false) : PE X (.Name x pos) (rdE X xa W (ev c (.var i))) := by
  refine PE.imp (pe_var hN hv hd hcd) fun σ H Q ⟨ioa, F, G, env, S, q⟩ => ?_
  have q : oR X.K xa W (RE X.K) ioa F σ ((frz i env).bind fun d e => .ok (false, d) e) G Q := by
    unfold ev at q
    exact q
  cases e : frz i env with
  | no => rw [e] at q; exact q.elim
  | ex x e' => unfold frz at e; split at e <;> cases e
  | ok d e' =>
    rw [e] at q
    obtain ⟨v, G', h1, h2, h3, h4⟩ := S.frz e
    exact ⟨v, h1, q v G' H h2 h3 h4⟩
theorem x_const {v : V} {d : D} {e : Expr} (h : PE X e (tC v)) (hd : ∀ G, Dr X.K G v d) : PE X e (rdE X xa W fun env => .ok (false, d) env) :=
  PE.imp h fun σ H Q ⟨ioa, F, G, env, S, q⟩ => oR_ok q S (hd G)
theorem x_nil : PA X [] (tR X.K xa W (RAs X.K) (evs c [])) := by
  refine PA.imp pa_nil fun σ H Q ⟨ioa, F, G, env, S, q⟩ => ?_
  unfold evs at q
  exact oR_ok q S .nil
theorem x_cons {es : List Ex} {eas : List Expr} (ha : PE X ea (rdE X xa W (ev c a))) (hr : PA X eas (tR X.K xa W (RAs X.K) (evs c es))) (hs : starEach (ea :: eas) X.env = (false, eval ea X.env) :: starEach eas X.env) :
    PA X (ea :: eas) (tR X.K xa W (RAs X.K) (evs c (a :: es))) := by
  refine PA.imp (pa_cons (pe_val ha) hr hs) fun σ H Q q => ?_
  have q : tR X.K xa W (RAs X.K) (fun env => (valOf (ev c a env)).bind fun d e1 => (evs c es e1).bind fun ds e2 => .ok (d :: ds) e2) σ H Q := by
    obtain ⟨ioa, F, G, env, S, q⟩ := q
    refine ⟨ioa, F, G, env, S, ?_⟩
    unfold evs at q
    exact q
  refine tR_bind (R1 := RV X.K) q fun ioa F G env p v H1 S r q1 => ⟨ioa, F, G, env, S, ?_⟩
  refine oR_bind (Ra := RAs X.K) q1 fun ps e vs G' H' x S' r' q2 => ?_
  exact oR_ok q2 S' (.cons (Dr.mono (.of x.1) _ r) r')
theorem x_tup {es : List Ex} {eas : List Expr} {n : Nat} (h : PA X eas (tR X.K xa W (RAs X.K) (evs c es))) : PE X (.Tuple eas n pos) (rdE X xa W (ev c (.tup es))) := by
  refine PE.imp (pe_tup h) fun σ H Q q => ?_
  have q : tR X.K xa W (RE X.K) (fun env => (evs c es env).bind fun ds e => if small ds.length then .ok (false, .tuple ds) e else .no) σ H Q := by
    obtain ⟨ioa, F, G, env, S, q⟩ := q
    refine ⟨ioa, F, G, env, S, ?_⟩
    unfold ev at q
    exact q
  refine tR_bind (R1 := RAs X.K) q fun ioa F G env ds vs H1 S r q1 => ?_
  have r : DrA X.K G vs ds := r
  by_cases hz : small ds.length = true
  · rw [if_pos hz] at q1
    exact ⟨by rw [r.length]; exact small_le hz, fun p hp => ans_tup q1 S hp r⟩
  · rw [if_neg hz] at q1; exact q1.elim
theorem x_lst {es : List Ex} {eas : List Expr} (h : PA X eas (tR X.K xa W (RAs X.K) (evs c es))) : PE X (.List eas pos) (rdE X xa W (ev c (.lst es))) := by
  refine PE.imp (pe_lst h) fun σ H Q q => ?_
  have q : tR X.K xa W (RE X.K) (fun env => (evs c es env).bind fun ds e => if small ds.length then .ok (true, .list ds) e else .no) σ H Q := by
    obtain ⟨ioa, F, G, env, S, q⟩ := q
    refine ⟨ioa, F, G, env, S, ?_⟩
    unfold ev at q
    exact q
  refine tR_bind (R1 := RAs X.K) q fun ioa F G env ds vs H1 S r q1 => ?_
  have r : DrA X.K G vs ds := r
  by_cases hz : small ds.length = true
  · rw [if_pos hz] at q1
    exact ⟨by rw [r.length]; exact small_le hz, fun p hp => ans_new q1 S hp (.lst r)⟩
  · rw [if_neg hz] at q1; exact q1.elim
theorem x_dic : PE X (.Dict [] [] pos) (rdE X xa W (ev c .dic)) := by
  refine PE.imp pe_dnewK fun σ H Q ⟨ioa, F, G, env, S, q⟩ => ?_
  unfold ev at q
  exact fun p hp => ans_new q S hp (.dk .nil)
/-! ### two operands -/
def taOf (X : Cx) (xa : XA) (W : WX) (a : Ex) (fa : Env → Rs (Bool × D)) : TE :=
  match a.var? with
  | some i => tVar i
  | none => tR X.K xa W (RV X.K) fun env => valOf (fa env)
theorem pe_ta {fa : Env → Rs (Bool × D)} (va : ∀ i, a.var? = some i → PE X ea (tVar i)) (ha : PE X ea (rdE X xa W fa)) : PE X ea (taOf X xa W a fa) := by
  unfold taOf
  split
  · rename_i i h; exact va i h
  · exact pe_val ha
theorem two_core {β : Type} {Rq : Rk β V} {r : L2.R2} {k : D × D → Env → Rs β} {fa fb : Env → Rs (Bool × D)} {σ : L2.St} {H : Hp} {Q : VK}
    (hr : ∀ ioa F G env σ H x y dx dy Q, Sim X.K ioa F G env σ H → DrB X.K G H x dx → DrB X.K G H y dy → oR X.K xa W Rq ioa F σ (k (dx, dy) env) G Q → r x y H Q)
    (q : tR X.K xa W Rq (fun env => (two a fa b fb env).bind k) σ H Q) : tOp r (taOf X xa W a fa) (tR X.K xa W (RB X.K) fun env => brw b fb env) σ H Q := by
  obtain ⟨ioa, F, G, env, S, q⟩ := q
  have q : oR X.K xa W Rq ioa F σ ((two a fa b fb env).bind k) G Q := q
  unfold tOp taOf
  cases hv : a.var? with
  | none =>
    unfold two at q
    rw [hv] at q
    refine ⟨ioa, F, G, env, S, ?_⟩
    have q : oR X.K xa W Rq ioa F σ ((valOf (fa env)).bind fun x e1 => ((brw b fb e1).bind fun y e => Rs.ok (x, y) e).bind k) G Q := by
      revert q
      cases valOf (fa env) with
      | no => exact fun h => h
      | ex x e => exact fun h => h
      | ok p e => exact fun h => h
    refine oR_bind (Ra := RV X.K) q fun dx e1 x G1 H1 x1 S1 r1 q1 => ⟨ioa, F, G1, e1, S1, ?_⟩
    revert q1
    show oR X.K xa W Rq ioa F σ (((brw b fb e1).bind fun y e => Rs.ok (dx, y) e).bind k) G1 Q → oR X.K xa W (RB X.K) ioa F σ (brw b fb e1) G1 _
    cases brw b fb e1 with
    | no => exact fun h => h
    | ex x e => exact fun h => h
    | ok p2 e2 => exact fun h w G' H' x S' r' => hr ioa F G' e2 σ H' _ w dx p2 Q S' (.inl (Dr.mono (.of x.1) _ r1)) r' (oR_ext x h)
  | some i =>
    unfold two at q
    rw [hv] at q
    cases h0 : rd i env with
    | none =>
      simp only [h0] at q
      exact q.elim
    | some d0 =>
      simp only [h0] at q
      have q : oR X.K xa W Rq ioa F σ (((brw b fb env).bind fun y e => Rs.of ((rd i e).map fun x => (x, y)) e).bind k) G Q := q
      obtain ⟨v, hσ, _⟩ := S.rd h0
      refine ⟨v, hσ, ioa, F, G, env, S, ?_⟩
      show oR X.K xa W (RB X.K) ioa F σ (brw b fb env) G _
      revert q
      cases brw b fb env with
      | no => exact fun h => h
      | ex x e => exact fun h => h
      | ok p2 e2 =>
        intro q w G' H' x S' r'
        have q : oR X.K xa W Rq ioa F σ ((Rs.of ((rd i e2).map fun x => (x, p2)) e2).bind k) G Q := q
        cases h2 : rd i e2 with
        | none =>
          rw [h2] at q
          exact q.elim
        | some d2 =>
          rw [h2] at q
          obtain ⟨v', hσ', r1⟩ := S'.rd h2
          rw [hσ] at hσ'
          cases hσ'
          exact hr ioa F G' e2 σ H' v w d2 p2 Q S' r1 r' (oR_ext x q)
/-- what is given of an operand: its own reading, and that of a name -/
structure Opd (X : Cx) (xa : XA) (W : WX) (c : Cal) (a : Ex) (ea : Expr) : Prop where
  pe : PE X ea (rdE X xa W (ev c a))
  va : ∀ i, a.var? = some i → PE X ea (tVar i)
theorem Opd.ta (h : Opd X xa W c a ea) : PE X ea (taOf X xa W a (ev c a)) := pe_ta h.va h.pe
theorem Opd.brw (h : Opd X xa W c a ea) : PE X ea (tR X.K xa W (RB X.K) fun env => Rv.brw a (ev c a) env) := pe_brw h.va h.pe
theorem x_bin (o : Operator) (ha : Opd X xa W c a ea) (hb : Opd X xa W c b eb) : PE X (.BinOp ea o eb pos) (rdE X xa W (ev c (.bin o a b))) := by
  refine PE.imp (pe_op (op_bin (xa := xa) (W := W) o) ha.ta hb.brw) fun σ H Q ⟨ioa, F, G, env, S, q⟩ => ?_
  unfold ev at q
  exact two_core (fun ioa F G env σ H x y dx dy Q S h1 h2 q => ⟨ioa, F, G, env, σ, dx, dy, S, h1, h2, q⟩) ⟨ioa, F, G, env, S, q⟩
theorem cmp_imp (o : CmpOp) (hm : behindInMarks o eb = false) {σ : L2.St} {H : Hp} {Q : VK} (q : rdE X xa W (ev c (.cmp o a b)) σ H Q) :
    tOp (rOp X.K xa W (oCmp o) ol) (taOf X xa W a (ev c a)) (tR X.K xa W (RB X.K) fun env => Rv.brw b (ev c b) env) σ H Q := by
  obtain ⟨ioa, F, G, env, S, q⟩ := q
  unfold ev at q
  exact two_core (fun ioa F G env σ H x y dx dy Q S h1 h2 q => ⟨ioa, F, G, env, σ, dx, dy, S, h1, h2, q⟩) ⟨ioa, F, G, env, S, q⟩
theorem x_cmp (hu : X.A.units + 66 < cLine) (o : CmpOp) (hm : behindInMarks o eb = false) (ha : Opd X xa W c a ea) (hb : Opd X xa W c b eb) : PE X (.Compare ea [o] [eb] pos) (rdE X xa W (ev c (.cmp o a b))) :=
  PE.imp (pe_cmpR (op_cmpX (xa := xa) (W := W) hu o) ha.ta hb.brw hm) fun σ H Q q => cmp_imp o hm q
/-! ### tests -/
/-- a test by data -/
def tst (r : Rs D) : Rs Bool := r.bind fun x e => Rs.of (tru x) e
def RK : Rk Bool Bool := fun _ _ _ _ _ b k => k = b
/-- the reading of a test -/
def tTr (X : Cx) (xa : XA) (W : WX) (f : Env → Rs D) : TT := fun σ H Q => tR X.K xa W RK (fun env => tst (f env)) σ H Q
theorem t_tru {f : Env → Rs D} {σ : L2.St} {H : Hp} {Q : Bool → Hp → Prop} (q : tTr X xa W f σ H Q) : tR X.K xa W (RB X.K) f σ H fun v H1 => ∃ k, TruV X.K v H1 k ∧ Q k H1 := by
  refine tR_bind (R1 := RB X.K) q fun ioa F G env x v H1 S r q1 => ?_
  cases e : tru x with
  | none => rw [e] at q1; exact q1.elim
  | some k =>
    rw [e] at q1
    exact ⟨k, tru_X S.gh r e, oR_ok (p := k) q1 S rfl⟩
theorem t_plain (ha : Opd X xa W c a ea) (he : ∀ whole, isTrue ea X.env whole = (do let v ← whole; standAt ea.pos; holding [v] (truthy v))) : PT X ea (tTr X xa W fun env => Rv.brw a (ev c a) env) :=
  PT.imp (pt_truth ha.brw he) fun σ H Q q => t_tru q
theorem brw_val (h : a.var? = none) (fa : Env → Rs (Bool × D)) (env : Env) : Rv.brw a fa env = valOf (fa env) := by
  unfold Rv.brw
  rw [h]
/-- a test by its value -/
theorem t_val (hv : a.var? = none) (hb : ∀ env x e, ev c a env = .ok x e → ∃ k, x = (false, .bool k)) {σ : L2.St} {H : Hp} {Q : Bool → Hp → Prop} (q : tTr X xa W (fun env => Rv.brw a (ev c a) env) σ H Q) :
    rdE X xa W (ev c a) σ H fun v H1 => ∃ k, v = .bl k ∧ Q k H1 := by
  obtain ⟨ioa, F, G, env, S, q⟩ := q
  refine ⟨ioa, F, G, env, S, ?_⟩
  have q : oR X.K xa W RK ioa F σ (tst (Rv.brw a (ev c a) env)) G Q := q
  rw [brw_val hv] at q
  revert q
  show oR X.K xa W RK ioa F σ (tst (valOf (ev c a env))) G _ → oR X.K xa W (RE X.K) ioa F σ (ev c a env) G _
  cases e : ev c a env with
  | no => exact fun q => q
  | ex x e' => exact fun q => q
  | ok p e' =>
    obtain ⟨k, rfl⟩ := hb env p e' e
    intro q v G' H' x S' r
    have r : Dr X.K G' v (.bool k) := r
    cases r
    exact ⟨k, rfl, q k G' H' x S' rfl⟩
theorem Rs.of_bind {α : Type} {r : Rs α} {f : α → Env → Rs (Bool × D)} {p : Bool × D} {e : Env} (h : r.bind f = .ok p e) : ∃ a e1, r = .ok a e1 ∧ f a e1 = .ok p e := Rs.bind_ok h
theorem ol_ok {o : Option D} {env e : Env} {p : Bool × D} (h : ol o env = .ok p e) : ∃ d, o = some d ∧ p = (false, d) := by
  cases o with
  | none => cases h
  | some d => cases h; exact ⟨d, rfl, rfl⟩
theorem map_dT {o : Option Bool} {d : D} {f : Bool → D} (hf : ∀ b, ∃ k, f b = .bool k) (h : o.map f = some d) : ∃ k, d = .bool k := by
  cases o with
  | none => cases h
  | some b => cases h; exact hf b
theorem oCmp_bool {o : CmpOp} {x y d : D} (h : oCmp o x y = some d) : ∃ k, d = .bool k := by
  unfold oCmp at h
  split at h <;> first
    | (cases h; done)
    | (cases h; exact ⟨_, rfl⟩)
    | exact map_dT (fun b => ⟨_, rfl⟩) h
    | (split at h <;> first | (cases h; done) | (cases h; exact ⟨_, rfl⟩))
theorem cmp_bool (o : CmpOp) : ∀ env x e, ev c (.cmp o a b) env = .ok x e → ∃ k, x = (false, .bool k) := fun env x e h => by
  unfold ev at h
  obtain ⟨p, e1, _, h2⟩ := Rs.of_bind h
  obtain ⟨d, h3, rfl⟩ := ol_ok h2
  obtain ⟨k, rfl⟩ := oCmp_bool h3
  exact ⟨k, rfl⟩
theorem t_cmp (hu : X.A.units + 66 < cLine) (o : CmpOp) (hm : behindInMarks o eb = false) (ha : Opd X xa W c a ea) (hb : Opd X xa W c b eb) : PT X (.Compare ea [o] [eb] pos) (tTr X xa W fun env => Rv.brw (.cmp o a b) (ev c (.cmp o a b)) env) :=
  PT.imp (pt_cmpR (op_cmpX (xa := xa) (W := W) hu o) ha.ta hb.brw hm) fun σ H Q q => cmp_imp o hm (t_val rfl (cmp_bool o) q)
theorem chn_imp (o o' : CmpOp) {σ : L2.St} {H : Hp} {Q : VK} (q : rdE X xa W (ev c (.chn a b z o o')) σ H Q) :
    tChain (rOp X.K xa W (oCmp o) ol) (rOp X.K xa W (oCmp o') ol) (tR X.K xa W (RV X.K) fun env => valOf (ev c a env)) (tR X.K xa W (RV X.K) fun env => valOf (ev c b env)) (tR X.K xa W (RV X.K) fun env => valOf (ev c z env)) σ H Q := by
  obtain ⟨ioa, F, G, env, S, q⟩ := q
  unfold ev at q
  unfold tChain
  refine ⟨ioa, F, G, env, S, oR_bind (Ra := RV X.K) q fun dx e1 x G1 H1 x1 S1 r1 q1 => ⟨ioa, F, G1, e1, S1, oR_bind (Ra := RV X.K) q1 fun dy e2 y G2 H2 x2 S2 r2 q2 => ?_⟩⟩
  have r1' : Dr X.K G2 x dx := Dr.mono (.of x2.1) _ r1
  refine ⟨ioa, F, G2, e2, σ, dx, dy, S2, .inl r1', .inl r2, ?_⟩
  cases e : oCmp o dx dy with
  | none => simp only [e] at q2; exact q2.elim
  | some d =>
    obtain ⟨k, rfl⟩ := oCmp_bool e
    cases k with
    | false =>
      simp only [e] at q2
      intro v G3 H3 x3 S3 r3
      have r3 : Dr X.K G3 v (.bool false) := r3
      cases r3
      exact ⟨false, rfl, q2 _ G3 H3 x3 S3 (Dr.bl false)⟩
    | true =>
      simp only [e] at q2
      intro v G3 H3 x3 S3 r3
      have r3 : Dr X.K G3 v (.bool true) := r3
      cases r3
      refine ⟨true, rfl, ioa, F, G3, e2, S3, ?_⟩
      refine oR_bind (Ra := RV X.K) (oR_ext x3 q2) fun dw e4 w G4 H4 x4 S4 r4 q4 => ?_
      exact ⟨ioa, F, G4, e4, σ, dy, dw, S4, .inl (Dr.mono (.of (x3.trans x4).1) _ r2), .inl r4, q4⟩
theorem x_chn (hu : X.A.units + 66 < cLine) (o o' : CmpOp) (hm : lastMarks [o, o'] [eb, ez] = false) (ha : PE X ea (rdE X xa W (ev c a))) (hb : PE X eb (rdE X xa W (ev c b))) (hz : PE X ez (rdE X xa W (ev c z))) :
    PE X (.Compare ea [o, o'] [eb, ez] pos) (rdE X xa W (ev c (.chn a b z o o'))) :=
  PE.imp (pe_chain (op_cmpX (xa := xa) (W := W) hu o) (op_cmpX (xa := xa) (W := W) hu o') (pe_val ha) (pe_val hb) (pe_val hz) hm) fun σ H Q q => chn_imp o o' q
theorem chn_bool (o o' : CmpOp) : ∀ env x e, ev c (.chn a b z o o') env = .ok x e → ∃ k, x = (false, .bool k) := fun env x e h => by
  unfold ev at h
  obtain ⟨p, e1, _, h2⟩ := Rs.of_bind h
  obtain ⟨p2, e2, _, h3⟩ := Rs.of_bind h2
  split at h3
  · obtain ⟨p4, e4, _, h5⟩ := Rs.of_bind h3
    obtain ⟨d, h6, rfl⟩ := ol_ok h5
    obtain ⟨k, rfl⟩ := oCmp_bool h6
    exact ⟨k, rfl⟩
  · cases h3; exact ⟨false, rfl⟩
  · cases h3
theorem t_chn (hu : X.A.units + 66 < cLine) (o o' : CmpOp) (hm : lastMarks [o, o'] [eb, ez] = false) (ha : PE X ea (rdE X xa W (ev c a))) (hb : PE X eb (rdE X xa W (ev c b))) (hz : PE X ez (rdE X xa W (ev c z))) :
    PT X (.Compare ea [o, o'] [eb, ez] pos) (tTr X xa W fun env => Rv.brw (.chn a b z o o') (ev c (.chn a b z o o')) env) :=
  PT.imp (pt_chain (op_cmpX (xa := xa) (W := W) hu o) (op_cmpX (xa := xa) (W := W) hu o') (pe_val ha) (pe_val hb) (pe_val hz) hm) fun σ H Q q => chn_imp o o' (t_val rfl (chn_bool o o') q)
/-! ### and, or, not -/
theorem x_band {rest : List Expr} (ha : PE X ea (rdE X xa W (ev c a))) (hb : PE X (.BoolOp .And (eb :: rest) pos) (rdE X xa W (ev c b))) : PE X (.BoolOp .And (ea :: eb :: rest) pos) (rdE X xa W (ev c (.band a b))) := by
  refine PE.imp (pe_andT (pe_val ha) (pe_val hb)) fun σ H Q ⟨ioa, F, G, env, S, q⟩ => ?_
  unfold ev at q
  refine ⟨ioa, F, G, env, S, oR_bind (Ra := RV X.K) q fun dx e1 x G1 H1 x1 S1 r1 q1 => ?_⟩
  cases e : tru dx with
  | none => simp only [e] at q1; exact q1.elim
  | some k =>
    refine ⟨k, tru_X S1.gh (.inl r1) e, ?_⟩
    cases k with
    | true =>
      simp only [e] at q1
      rw [if_pos rfl]
      exact ⟨ioa, F, G1, e1, S1, oR_bind (Ra := RV X.K) q1 fun dy e2 y G2 H2 x2 S2 r2 q2 => oR_ok q2 S2 r2⟩
    | false =>
      simp only [e] at q1
      rw [if_neg Bool.false_ne_true]
      exact oR_ok q1 S1 r1
theorem x_bor {rest : List Expr} (ha : PE X ea (rdE X xa W (ev c a))) (hb : PE X (.BoolOp .Or (eb :: rest) pos) (rdE X xa W (ev c b))) : PE X (.BoolOp .Or (ea :: eb :: rest) pos) (rdE X xa W (ev c (.bor a b))) := by
  refine PE.imp (pe_orT (pe_val ha) (pe_val hb)) fun σ H Q ⟨ioa, F, G, env, S, q⟩ => ?_
  unfold ev at q
  refine ⟨ioa, F, G, env, S, oR_bind (Ra := RV X.K) q fun dx e1 x G1 H1 x1 S1 r1 q1 => ?_⟩
  cases e : tru dx with
  | none => simp only [e] at q1; exact q1.elim
  | some k =>
    refine ⟨k, tru_X S1.gh (.inl r1) e, ?_⟩
    cases k with
    | true =>
      simp only [e] at q1
      rw [if_pos rfl]
      exact oR_ok q1 S1 r1
    | false =>
      simp only [e] at q1
      rw [if_neg Bool.false_ne_true]
      exact ⟨ioa, F, G1, e1, S1, oR_bind (Ra := RV X.K) q1 fun dy e2 y G2 H2 x2 S2 r2 q2 => oR_ok q2 S2 r2⟩
theorem x_one {op : BoolOp} {t : TE} (h : PE X ea t) : PE X (.BoolOp op [ea] pos) t := pe_one h
theorem x_not (ha : Opd X xa W c a ea) : PE X (.UnaryOp .Not ea pos) (rdE X xa W (ev c (.not a))) := by
  refine PE.imp (pe_notT ha.brw) fun σ H Q ⟨ioa, F, G, env, S, q⟩ => ?_
  unfold ev at q
  refine ⟨ioa, F, G, env, S, oR_bind (Ra := RB X.K) q fun dx e1 x G1 H1 x1 S1 r1 q1 => ?_⟩
  cases e : tru dx with
  | none => rw [e] at q1; exact q1.elim
  | some k =>
    rw [e] at q1
    exact ⟨k, tru_X S1.gh r1 e, oR_ok (p := (false, PyData.bool !k)) q1 S1 (Dr.bl _)⟩
theorem x_neg (ha : PE X ea (rdE X xa W (ev c a))) : PE X (.UnaryOp .USub ea pos) (rdE X xa W (ev c (.neg a))) := by
  refine PE.imp (pe_un un_neg (pe_val ha)) fun σ H Q ⟨ioa, F, G, env, S, q⟩ => ?_
  unfold ev at q
  refine ⟨ioa, F, G, env, S, oR_bind (Ra := RV X.K) q fun dx e1 x G1 H1 x1 S1 r1 q1 => ?_⟩
  cases dx with
  | int i =>
    have r1 : Dr X.K G1 x (.int i) := r1
    cases r1
    exact ⟨i, rfl, oR_ok (p := (false, PyData.int (-i))) q1 S1 (Dr.int _)⟩
  | _ => exact q1.elim
/-- how a test goes on -/
theorem t_go {α β : Type} {Rq : Rk α β} {f : Env → Rs D} {g : Bool → Env → Rs α} {σ : L2.St} {H : Hp} {Q : β → Hp → Prop} (q : tR X.K xa W Rq (fun env => (f env).bind fun x e => match tru x with | some true => g true e | some false => g false e | none => .no) σ H Q) :
    tTr X xa W f σ H fun k H1 => tR X.K xa W Rq (g k) σ H1 Q := by
  obtain ⟨ioa, F, G, env, S, q⟩ := q
  refine ⟨ioa, F, G, env, S, ?_⟩
  have q : oR X.K xa W Rq ioa F σ ((f env).bind fun x e => match tru x with | some true => g true e | some false => g false e | none => .no) G Q := q
  show oR X.K xa W RK ioa F σ (tst (f env)) G _
  revert q
  cases f env with
  | no => exact fun q => q
  | ex x e => exact fun q => q
  | ok x e =>
    show oR X.K xa W Rq ioa F σ (match tru x with | some true => g true e | some false => g false e | none => .no) G Q → oR X.K xa W RK ioa F σ (Rs.of (tru x) e) G _
    cases tru x with
    | none => exact fun q => q
    | some k =>
      intro q k' G' H' xx S' r
      have r : k' = k := r
      subst r
      refine ⟨ioa, F, G', e, S', oR_ext xx ?_⟩
      cases k' with
      | true => exact q
      | false => exact q
theorem x_ite (hz : PT X ez (tTr X xa W fun env => Rv.brw z (ev c z) env)) (ha : PE X ea (rdE X xa W (ev c a))) (hb : PE X eb (rdE X xa W (ev c b))) : PE X (.IfExp ez ea eb pos) (rdE X xa W (ev c (.ite z a b))) := by
  refine PE.imp (pe_ifExp hz ha hb) fun σ H Q q => ?_
  have q : rdE X xa W (fun env => (Rv.brw z (ev c z) env).bind fun x e => match tru x with | some true => (fun k => if k = true then ev c a else ev c b) true e | some false => (fun k => if k = true then ev c a else ev c b) false e | none => .no) σ H Q := by
    obtain ⟨ioa, F, G, env, S, q⟩ := q
    refine ⟨ioa, F, G, env, S, ?_⟩
    unfold ev at q
    exact q
  refine tR_mono (t_go (g := fun k => if k = true then ev c a else ev c b) q) fun k H1 h => ?_
  cases k with
  | true => exact h
  | false => exact h
/-! ### and, or, not as tests -/
/-- a name is put to rest where a test of and, or looks at it -/
theorem t_rest {σ : L2.St} {H : Hp} {Q : Bool → Hp → Prop} (q : tTr X xa W (fun env => valOf (ev c a env)) σ H Q) : tTr X xa W (fun env => Rv.brw a (ev c a) env) σ H Q := by
  cases hv : a.var? with
  | none =>
    have : (fun env => Rv.brw a (ev c a) env) = fun env => valOf (ev c a env) := by
      funext env
      exact brw_val hv _ _
    rw [this]
    exact q
  | some i =>
    obtain ⟨ioa, F, G, env, S, q⟩ := q
    refine ⟨ioa, F, G, env, S, ?_⟩
    have ea : a = .var i := by
      cases a with
      | var j => cases hv; rfl
      | _ => cases hv
    subst ea
    have q : oR X.K xa W RK ioa F σ (tst (valOf (ev c (.var i) env))) G Q := q
    have hev : ev c (.var i) env = (frz i env).bind fun d e => .ok (false, d) e := by rw [ev] <;> rfl
    rw [hev] at q
    cases e : frz i env with
    | no => rw [e] at q; exact q.elim
    | ex x e' => unfold frz at e; split at e <;> cases e
    | ok d e' =>
      rw [e] at q
      have q : oR X.K xa W RK ioa F σ (Rs.of (tru d) e') G Q := q
      obtain ⟨v, G', h1, h2, h3, h4⟩ := S.frz e
      have hr : rd i env = some d := by
        unfold frz at e
        unfold rd
        split at e
        · rename_i d' hd; rw [hd]; cases e; rfl
        · rename_i d' hd; rw [hd]; cases e; rfl
        · cases e
      show oR X.K xa W RK ioa F σ (tst (Rs.of (rd i env) env)) G Q
      rw [hr]
      show oR X.K xa W RK ioa F σ (Rs.of (tru d) env) G Q
      cases et : tru d with
      | none => rw [et] at q; exact q
      | some k =>
        rw [et] at q
        intro k' G2 H2 x2 S2 r
        have r : k' = k := r
        subst r
        obtain ⟨v2, G3, h5, h6, h7, h8⟩ := S2.frz e
        exact q k' G3 H2 (x2.trans h6) h7 rfl
theorem tst_band (env : Env) : tst (valOf (ev c (.band a b) env)) = (tst (valOf (ev c a env))).bind fun k e => if k = true then tst (valOf (ev c b e)) else .ok false e := by
  have h : ev c (.band a b) env = (valOf (ev c a env)).bind fun x e => match tru x with
      | some true => (valOf (ev c b e)).bind fun d e2 => .ok (false, d) e2
      | some false => .ok (false, x) e
      | none => .no := by rw [ev] <;> rfl
  rw [h]
  cases valOf (ev c a env) with
  | no => rfl
  | ex x e => rfl
  | ok x e =>
    show tst (valOf (match tru x with | some true => (valOf (ev c b e)).bind fun d e2 => .ok (false, d) e2 | some false => .ok (false, x) e | none => .no)) = (Rs.of (tru x) e).bind fun k e => if k = true then tst (valOf (ev c b e)) else .ok false e
    cases ht : tru x with
    | none => rfl
    | some k =>
      cases k with
      | false =>
        show Rs.of (tru x) e = .ok false e
        rw [ht]
        rfl
      | true =>
        show tst (valOf ((valOf (ev c b e)).bind fun d e2 => .ok (false, d) e2)) = tst (valOf (ev c b e))
        cases valOf (ev c b e) <;> rfl
theorem tst_bor (env : Env) : tst (valOf (ev c (.bor a b) env)) = (tst (valOf (ev c a env))).bind fun k e => if k = true then .ok true e else tst (valOf (ev c b e)) := by
  have h : ev c (.bor a b) env = (valOf (ev c a env)).bind fun x e => match tru x with
      | some true => .ok (false, x) e
      | some false => (valOf (ev c b e)).bind fun d e2 => .ok (false, d) e2
      | none => .no := by rw [ev] <;> rfl
  rw [h]
  cases valOf (ev c a env) with
  | no => rfl
  | ex x e => rfl
  | ok x e =>
    show tst (valOf (match tru x with | some true => .ok (false, x) e | some false => (valOf (ev c b e)).bind fun d e2 => .ok (false, d) e2 | none => .no)) = (Rs.of (tru x) e).bind fun k e => if k = true then .ok true e else tst (valOf (ev c b e))
    cases ht : tru x with
    | none => rfl
    | some k =>
      cases k with
      | true =>
        show Rs.of (tru x) e = .ok true e
        rw [ht]
        rfl
      | false =>
        show tst (valOf ((valOf (ev c b e)).bind fun d e2 => .ok (false, d) e2)) = tst (valOf (ev c b e))
        cases valOf (ev c b e) <;> rfl
/-- the reading of an operand of and, or -/
abbrev tTv (X : Cx) (xa : XA) (W : WX) (c : Cal) (a : Ex) : TT := tTr X xa W fun env => valOf (ev c a env)
theorem t_band {rest : List Expr} (ha : PT X ea (tTv X xa W c a)) (hb : PW X (.BoolOp .And (eb :: rest) pos) (tTv X xa W c b)) : PW X (.BoolOp .And (ea :: eb :: rest) pos) (tTv X xa W c (.band a b)) := by
  refine ⟨fun wh pins s σ H Q I h => (pw_and ha hb).run wh pins s σ H Q I ?_⟩
  obtain ⟨ioa, F, G, env, S, q⟩ := h
  have q : oR X.K xa W RK ioa F σ (tst (valOf (ev c (.band a b) env))) G Q := q
  rw [tst_band] at q
  refine ⟨ioa, F, G, env, S, oR_bind (Ra := RK) q fun k e1 k' G1 H1 x1 S1 r1 q1 => ?_⟩
  have r1 : k' = k := r1
  subst r1
  cases k' with
  | true => exact ⟨ioa, F, G1, e1, S1, q1⟩
  | false => exact oR_ok (p := false) q1 S1 rfl
theorem t_bor {rest : List Expr} (ha : PT X ea (tTv X xa W c a)) (hb : PW X (.BoolOp .Or (eb :: rest) pos) (tTv X xa W c b)) : PW X (.BoolOp .Or (ea :: eb :: rest) pos) (tTv X xa W c (.bor a b)) := by
  refine ⟨fun wh pins s σ H Q I h => (pw_or ha hb).run wh pins s σ H Q I ?_⟩
  obtain ⟨ioa, F, G, env, S, q⟩ := h
  have q : oR X.K xa W RK ioa F σ (tst (valOf (ev c (.bor a b) env))) G Q := q
  rw [tst_bor] at q
  refine ⟨ioa, F, G, env, S, oR_bind (Ra := RK) q fun k e1 k' G1 H1 x1 S1 r1 q1 => ?_⟩
  have r1 : k' = k := r1
  subst r1
  cases k' with
  | true => exact oR_ok (p := true) q1 S1 rfl
  | false => exact ⟨ioa, F, G1, e1, S1, q1⟩
theorem t_not (ha : PT X ea (tTr X xa W fun env => Rv.brw a (ev c a) env)) : PT X (.UnaryOp .Not ea pos) (tTr X xa W fun env => Rv.brw (.not a) (ev c (.not a)) env) := by
  refine PT.imp (pt_not ha) fun σ H Q ⟨ioa, F, G, env, S, q⟩ => ?_
  refine ⟨ioa, F, G, env, S, ?_⟩
  have q : oR X.K xa W RK ioa F σ (tst (valOf (ev c (.not a) env))) G Q := q
  have h : ev c (.not a) env = (Rv.brw a (ev c a) env).bind fun x e => ol ((tru x).map fun b => dT !b) e := by rw [ev] <;> rfl
  rw [h] at q
  show oR X.K xa W RK ioa F σ (tst (Rv.brw a (ev c a) env)) G _
  revert q
  cases Rv.brw a (ev c a) env with
  | no => exact fun q => q
  | ex x e => exact fun q => q
  | ok x e =>
    show oR X.K xa W RK ioa F σ (tst (valOf (ol ((tru x).map fun b => dT !b) e))) G Q → oR X.K xa W RK ioa F σ (Rs.of (tru x) e) G _
    cases tru x with
    | none => exact fun q => q
    | some k =>
      intro q k' G' H' xx S' r
      have r : k' = k := r
      subst r
      exact q (!k') G' H' xx S' rfl
end
end Rv
end
section
/-! Rv, part 15: calls, builtins, subscripts, methods. -/
namespace Rv
open PySem PySem.Spec PyProof.Rows L2
/-! ### writing to a slot's own object -/
section
variable {K : PySem.W.Frag} {ioa : Nat → Addr} {F G : Hp} {env : Env} {σ : L2.St} {H : Hp}
theorem Sim.write {i : Nat} {s s' : Sl} {d : D} {a : Addr} {o : HO} (S : Sim K ioa F G env σ H) (e : env[i]? = some (some s)) (hv : σ[i]? = some (some (.ref a))) (hs : upSl d s = some s') (t : Top K G o d) : Sim K ioa F G (env.set i (some s')) σ (upd H a o) := by
  have hm : s.mine = true := by cases s <;> first | rfl | cases hs
  have hm' : s'.mine = true := by cases s <;> first | (cases hs; rfl) | cases hs
  have hd' : s'.d = d := by cases s <;> first | (cases hs; rfl) | cases hs
  obtain ⟨v, h1, h2⟩ := S.sl i s e
  rw [hv] at h1
  cases h1
  obtain ⟨a', ea, f1, g1, o1⟩ := (SlOk.own hm).mp h2
  cases ea
  have mn : ∀ j, mine (env.set i (some s')) j → mine env j := fun j ⟨s2, z1, z2⟩ => by
    by_cases hj : i = j
    · subst hj; exact ⟨s, e, hm⟩
    · rw [List.getElem?_set_ne hj] at z1; exact ⟨s2, z1, z2⟩
  have ne : ∀ b, F b ≠ none ∨ G b ≠ none → b ≠ a := fun b z q => by
    subst q
    rcases z with z | z
    · exact z f1
    · exact z g1
  refine ⟨by rw [List.length_set]; exact S.len, fun b u h => ?_, fun b u h => ?_, fun j s2 h => ?_, fun j d2 h => ?_, fun j k b mj mk => S.ap j k b (mn j mj) (mn k mk)⟩
  · rw [upd_ne (ne b (.inl (by rw [h]; simp)))]; exact S.fh b u h
  · rw [upd_ne (ne b (.inr (by rw [h]; simp)))]; exact S.gh b u h
  · by_cases hj : i = j
    · subst hj
      rw [List.getElem?_set_self (lt_of_get e)] at h
      cases h
      exact ⟨.ref a, hv, (SlOk.own hm').mpr ⟨a, rfl, f1, g1, o, upd_same, by rw [hd']; exact t⟩⟩
    · rw [List.getElem?_set_ne hj] at h
      obtain ⟨v2, z1, z2⟩ := S.sl j s2 h
      refine ⟨v2, z1, ?_⟩
      cases hs2 : s2.mine with
      | false =>
        cases s2 with
        | val d => exact z2
        | own _ => cases hs2
        | io _ => cases hs2
      | true =>
        obtain ⟨b, rfl, f2, g2, o2, ho2, t2⟩ := (SlOk.own hs2).mp z2
        have hne : b ≠ a := fun z => by
          subst z
          exact hj (S.ap i j b ⟨s, e, hm⟩ ⟨s2, h, hs2⟩ hv z1)
        exact (SlOk.own hs2).mpr ⟨b, rfl, f2, g2, o2, by rw [upd_ne hne]; exact ho2, t2⟩
  · by_cases hj : i = j
    · subst hj
      rw [List.getElem?_set_self (lt_of_get e)] at h
      cases h
      cases s with
      | val d => cases hs
      | own d => cases hs
      | io d => exact S.io i d e
    · rw [List.getElem?_set_ne hj] at h
      exact S.io j d2 h
end
section
variable {X : Cx} {xa : XA} {W : WX} {c : Cal} {a b z : Ex} {ea eb ez : Expr} {pos : Pos}
/-! ### arguments of a call -/
/-- a new list or dict, held while the rest is told -/
def RF (K : PySem.W.Frag) : Rk D V := fun F G env σ H d v => Fresh K F G env σ H v d
def newOf (r : Rs (Bool × D)) : Rs D := r.bind fun p e => if p.1 then .ok p.2 e else .no
theorem tR_heldF {α β δ : Type} {K : PySem.W.Frag} {Rq : Rk β δ} {Rr : Rk α (List V)} {f : Env → Rs D} {g : Env → Rs α} {mk : D → α → β} {σ : L2.St} {H : Hp} {Q : δ → Hp → Prop} {cons : V → List V → δ}
    (h : tR K xa W Rq (fun env => (f env).bind fun p e1 => (g e1).bind fun ps e2 => .ok (mk p ps) e2) σ H Q)
    (hr : ∀ F G env H d ps v vs, Fresh K F G env σ H v d → Rr F G env σ H ps vs → (∃ a o, v = .ref a ∧ F a = none ∧ Rr (upd F a o) G env σ H ps vs) → Rq F G env σ H (mk d ps) (cons v vs))
    (hu : ∀ F G env H a o ps vs, F a = none → Rr (upd F a o) G env σ H ps vs → Rr F G env σ H ps vs) :
    tR K xa W (RF K) f σ H (fun v H1 => tR K xa W Rr g σ H1 fun vs H2 => Q (cons v vs) H2) := by
  refine tR_bind (R1 := RF K) h fun ioa F G env d v H1 S r q => ?_
  obtain ⟨a, rfl, f1, g1, ⟨o, ho, t⟩, m1⟩ := r
  refine ⟨ioa, upd F a o, G, env, S.guard f1 ho m1, ?_⟩
  revert q
  show oR K xa W Rq ioa F σ ((g env).bind fun ps e2 => .ok (mk d ps) e2) G Q → oR K xa W Rr ioa (upd F a o) σ (g env) G fun vs H2 => Q (cons (.ref a) vs) H2
  cases g env with
  | no => exact fun q => q
  | ex x e => exact fun q cl dd G' H' xx S' => q cl dd G' H' (xx.unguard f1) (S'.unguard f1).1
  | ok ps e =>
    intro q vs G' H' xx S' rr
    exact q (cons (.ref a) vs) G' H' (xx.unguard f1) (S'.unguard f1).1 (hr F G' e H' d ps _ vs (guard_back f1 g1 t xx S') (hu _ _ _ _ _ _ _ _ f1 rr) ⟨a, o, rfl, f1, rr⟩)
theorem newOf_imp {K : PySem.W.Frag} {f : Env → Rs (Bool × D)} {σ : L2.St} {H : Hp} {Q : VK} (q : tR K xa W (RF K) (fun env => newOf (f env)) σ H Q) : tR K xa W (RE K) f σ H Q := by
  obtain ⟨ioa, F, G, env, S, q⟩ := q
  refine ⟨ioa, F, G, env, S, ?_⟩
  revert q
  show oR K xa W (RF K) ioa F σ (newOf (f env)) G Q → oR K xa W (RE K) ioa F σ (f env) G Q
  cases f env with
  | no => exact fun h => h
  | ex x e => exact fun h => h
  | ok p e =>
    show oR K xa W (RF K) ioa F σ (if p.1 then .ok p.2 e else .no) G Q → _
    by_cases hp : p.1 = true
    · rw [if_pos hp]
      intro h v G' H' xx S' r
      unfold RE at r
      rw [if_pos hp] at r
      exact h v G' H' xx S' r
    · rw [if_neg hp]; exact fun h => h.elim
def RAk (io : List Bool) (K : PySem.W.Frag) : Rk (List Ar) (List V) := fun F G env σ H as vs => RA K F G env σ H io as vs
theorem x_anil {io : List Bool} : PA X [] (tR X.K xa W (RAk io X.K) (evArs c io [])) := by
  refine PA.imp pa_nil fun σ H Q ⟨ioa, F, G, env, S, q⟩ => ?_
  rw [evArs] at q
  exact oR_ok q S RA.nil
theorem x_acons {io : List Bool} {es : List Ex} {eas : List Expr} (ha : Opd X xa W c a ea) (hr : PA X eas (tR X.K xa W (RAk io.tail X.K) (evArs c io.tail es))) (hs : starEach (ea :: eas) X.env = (false, eval ea X.env) :: starEach eas X.env) :
    PA X (ea :: eas) (tR X.K xa W (RAk io X.K) (evArs c io (a :: es))) := by
  cases hio : io.headD false with
  | false =>
    refine PA.imp (pa_cons (pe_val ha.pe) hr hs) fun σ H Q ⟨ioa, F, G, env, S, q⟩ => ?_
    rw [evArs, hio] at q
    refine ⟨ioa, F, G, env, S, oR_bind (Ra := RV X.K) q fun d e1 v G1 H1 x1 S1 r1 q1 => ⟨ioa, F, G1, e1, S1, oR_bind (Ra := RAk io.tail X.K) q1 fun as e2 vs G2 H2 x2 S2 r2 q2 => ?_⟩⟩
    exact oR_ok q2 S2 (RA.v hio (Dr.mono (.of x2.1) _ r1) r2)
  | true =>
    cases hv : a.var? with
    | some i =>
      refine PA.imp (pa_cons (ha.va i hv) hr hs) fun σ H Q ⟨ioa, F, G, env, S, q⟩ => ?_
      rw [evArs, hio, hv] at q
      have q : oR X.K xa W (RAk io X.K) ioa F σ ((Rs.of (rd i env) env).bind fun _ e0 => (evArs c io.tail es e0).bind fun as e2 => .ok (.s i :: as) e2) G Q := q
      cases h0 : rd i env with
      | none => rw [h0] at q; exact q.elim
      | some d0 =>
        rw [h0] at q
        obtain ⟨v, hσ, _⟩ := S.rd h0
        refine ⟨v, hσ, ioa, F, G, env, S, oR_bind (Ra := RAk io.tail X.K) (show oR X.K xa W (RAk io X.K) ioa F σ ((evArs c io.tail es env).bind fun as e2 => .ok (.s i :: as) e2) G Q from q) fun as e2 vs G2 H2 x2 S2 r2 q2 => ?_⟩
        exact oR_ok q2 S2 (RA.s hio hσ r2)
    | none =>
      refine PA.imp (pa_cons ha.pe hr hs) fun σ H Q ⟨ioa, F, G, env, S, q⟩ => ?_
      rw [evArs, hio, hv] at q
      have q : oR X.K xa W (RAk io X.K) ioa F σ ((ev c a env).bind fun p e1 => if p.1 then (evArs c io.tail es e1).bind fun as e2 => .ok (.t p.2 :: as) e2 else .no) G Q := q
      have key : tR X.K xa W (RAk io X.K) (fun env => (newOf (ev c a env)).bind fun d e1 => (evArs c io.tail es e1).bind fun as e2 => .ok (.t d :: as) e2) σ H Q := by
        refine ⟨ioa, F, G, env, S, ?_⟩
        revert q
        show oR X.K xa W (RAk io X.K) ioa F σ ((ev c a env).bind fun p e1 => if p.1 then (evArs c io.tail es e1).bind fun as e2 => .ok (.t p.2 :: as) e2 else .no) G Q → oR X.K xa W (RAk io X.K) ioa F σ ((newOf (ev c a env)).bind fun d e1 => (evArs c io.tail es e1).bind fun as e2 => .ok (.t d :: as) e2) G Q
        cases ev c a env with
        | no => exact fun h => h
        | ex x e => exact fun h => h
        | ok p e =>
          show oR X.K xa W (RAk io X.K) ioa F σ (if p.1 then (evArs c io.tail es e).bind fun as e2 => .ok (.t p.2 :: as) e2 else .no) G Q → oR X.K xa W (RAk io X.K) ioa F σ ((if p.1 then Rs.ok p.2 e else .no).bind fun d e1 => (evArs c io.tail es e1).bind fun as e2 => .ok (.t d :: as) e2) G Q
          by_cases hp : p.1 = true
          · rw [if_pos hp, if_pos hp]; exact fun h => h
          · rw [if_neg hp]; exact fun h => h.elim
      refine newOf_imp (tR_heldF (Rr := RAk io.tail X.K) (cons := fun v vs => v :: vs) key (fun F G env H d as v vs r ra gd => RA.t hio r ra fun j d hj hv' => ?_) (fun F G env H a o as vs hF r => (RA.unguard r).1))
      obtain ⟨a, o, rfl, hF, gd⟩ := gd
      exact (RA.unguard gd).2 j d hj hv'
/-! ### calls -/
theorem any_back {ts : List (Bool × Sem Value)} (h : ts.any (·.1) = false) (p : Pos) : (backTo p ts).any (·.1) = false := by
  unfold backTo
  rw [List.any_map]
  exact h
theorem x_call {T : Txt} {N : List Str} {sc : Scope} {fb : Str → Bool} {k i : Nat} {x : Str} {p : Pos} {es : List Ex} {eas : List Expr} (g : Hold T c xa N sc fb W k X) (hf : T.fns.lookup x = some i) (hgl : Gl X x) (hdb : (x == ("__debug__" : Str)) = false)
    (hln : es.length = eas.length) (ha : ∀ io, PA X eas (tR X.K xa W (RAk io X.K) (evArs c io es))) (hst : ∀ e r, eas = e :: r → starEach (e :: r) X.env = (false, eval e X.env) :: starEach r X.env ∧ (starEach r X.env).any (·.1) = false) :
    PE X (.Call (.Name x p) eas [] pos) (rdE X xa W (ev c (.call i es))) := by
  obtain ⟨f, fd, ps, sg, hm, hk, hb, hs, hl, hnw, F⟩ := g.tx.fn x i hf
  have imp : ∀ σ H Q, rdE X xa W (ev c (.call i es)) σ H Q → tCG (spD X.K xa sg.np sg.io (c.run i) (c.nw i)) (fun σ cl dd H => W cl dd σ H) (tR X.K xa W (RAk sg.io X.K) (evArs c sg.io es)) σ H Q := by
    rintro σ H Q ⟨ioa, F, G, env, S, q⟩
    rw [ev, hs] at q
    refine ⟨ioa, F, G, env, S, oR_bind (Ra := RAk sg.io X.K) q fun as e1 vs G1 H1 x1 S1 r1 q1 => ?_⟩
    by_cases hn : as.length = sg.np
    · rw [if_pos hn] at q1
      refine call_of S1 r1 hn hnw (oR_bind (Ra := RN X.K (c.nw i)) q1 fun d e2 v G2 H2 x2 S2 r2 q2 => ?_)
      exact oR_ok q2 S2 r2
    · rw [if_neg hn] at q1; exact q1.elim
  cases eas with
  | nil =>
    refine PE.imp (pe_callG0 (E := fun σ cl dd H => W cl dd σ H) F g.room g.guards hgl hm hk hb g.pass hdb) fun σ H Q q => ?_
    have q := imp σ H Q q
    -- the arguments' own reading, with no argument
    obtain ⟨ioa, F, G, env, S, q⟩ := q
    obtain rfl : es = [] := List.length_eq_zero_iff.mp hln
    have q : oR X.K xa W (RAk sg.io X.K) ioa F σ (evArs c sg.io [] env) G fun vs H1 => spD X.K xa sg.np sg.io (c.run i) (c.nw i) vs H1 Q _ := q
    rw [evArs] at q
    exact oR_ok q S RA.nil
  | cons e r =>
    obtain ⟨h1, h2⟩ := hst e r rfl
    exact PE.imp (pe_callG (E := fun σ cl dd H => W cl dd σ H) F g.room g.guards hgl hm hk hb g.pass (ha sg.io) hdb h1 (any_back h2 _)) imp
/-! ### builtins -/
theorem no_star {ea : Expr} (h : ∀ e p, ea ≠ .Starred e p) (es : List Expr) (env : PySem.Env) : starEach (ea :: es) env = (false, eval ea env) :: starEach es env := by
  cases ea <;> first | rfl | exact absurd rfl (h _ _)
theorem x_blt {bl : B1} {x : Str} {p : Pos} {id : String} (hc : CallR X (.builtin id) (rB X.K xa W fun d => oB bl [d])) (hgl : Gl X x) (hm : X.mg x = none) (hv : bootBuiltins x = some (.builtin id)) (hn : x ≠ "__name__") (hdb : (x == ("__debug__" : Str)) = false)
    (ha : Opd X xa W c a ea) (hs : ∀ e p, ea ≠ .Starred e p) : PE X (.Call (.Name x p) [ea] [] pos) (rdE X xa W (ev c (.blt bl a))) := by
  refine PE.imp (pe_callB hc hgl hm hv (pa_cons ha.brw pa_nil (no_star hs _ _)) hn hdb (no_star hs _ _) rfl) fun σ H Q ⟨ioa, F, G, env, S, q⟩ => ?_
  rw [ev] at q
  exact ⟨ioa, F, G, env, S, oR_bind (Ra := RB X.K) q fun d e1 v G1 H1 x1 S1 r1 q1 => ⟨ioa, F, G1, e1, σ, v, d, rfl, S1, r1, q1⟩⟩
theorem x_bty {bl : B1} {x : Str} {p : Pos} {id : String} (hc : CallR X (.type id) (rB X.K xa W fun d => oB bl [d])) (hgl : Gl X x) (hm : X.mg x = none) (hv : bootBuiltins x = some (.type id)) (hn : x ≠ "__name__") (hdb : (x == ("__debug__" : Str)) = false)
    (ha : Opd X xa W c a ea) (hs : ∀ e p, ea ≠ .Starred e p) : PE X (.Call (.Name x p) [ea] [] pos) (rdE X xa W (ev c (.blt bl a))) := by
  refine PE.imp (pe_callTy hc hgl hm hv (pa_cons ha.brw pa_nil (no_star hs _ _)) hn hdb (no_star hs _ _) rfl) fun σ H Q ⟨ioa, F, G, env, S, q⟩ => ?_
  rw [ev] at q
  exact ⟨ioa, F, G, env, S, oR_bind (Ra := RB X.K) q fun d e1 v G1 H1 x1 S1 r1 q1 => ⟨ioa, F, G1, e1, σ, v, d, rfl, S1, r1, q1⟩⟩
theorem x_blt2 {bl : B1} {x : Str} {p : Pos} {id : String} (hc : CallR X (.builtin id) (rB2 X.K xa W fun d e => oB bl [d, e])) (hgl : Gl X x) (hm : X.mg x = none) (hv : bootBuiltins x = some (.builtin id)) (hn : x ≠ "__name__") (hdb : (x == ("__debug__" : Str)) = false)
    (ha : Opd X xa W c a ea) (hb : Opd X xa W c b eb) (hs : ∀ e p, ea ≠ .Starred e p) (hs2 : ∀ e p, eb ≠ .Starred e p) : PE X (.Call (.Name x p) [ea, eb] [] pos) (rdE X xa W (ev c (.blt2 bl a b))) := by
  refine PE.imp (pe_callB hc hgl hm hv (pa_cons ha.ta (pa_cons hb.brw pa_nil (no_star hs2 _ _)) (no_star hs _ _)) hn hdb (no_star hs _ _) (by rw [no_star hs2]; rfl)) fun σ H Q ⟨ioa, F, G, env, S, q⟩ => ?_
  rw [ev] at q
  exact two_core (r := fun x y H Q => rB2 X.K xa W (fun d e => oB bl [d, e]) [x, y] H Q) (fun ioa F G env σ H x y dx dy Q S h1 h2 q => ⟨ioa, F, G, env, σ, x, y, dx, dy, rfl, S, h1, h2, q⟩) ⟨ioa, F, G, env, S, q⟩
theorem Ty.boot (t : Ty) : bootBuiltins (Str.ofString t.nm) = some (.type t.nm) := by
  cases t <;> decide +kernel
theorem x_isi {t : Ty} {p p2 : Pos} {k : Pos} (hgl : Gl X "isinstance") (hm : X.mg "isinstance" = none) (hgl2 : Gl X (Str.ofString t.nm)) (hm2 : X.mg (Str.ofString t.nm) = none) (hn : (Str.ofString t.nm) ≠ "__name__") (hdb : ((Str.ofString t.nm) == ("__debug__" : Str)) = false)
    (ha : Opd X xa W c a ea) (hs : ∀ e p, ea ≠ .Starred e p) : PE X (.Call (.Name "isinstance" p) [ea, .Name (Str.ofString t.nm) p2] [] pos) (rdE X xa W (ev c (.isi a t))) := by
  refine PE.imp (pe_callB (call_isiD t) hgl hm boot_isinstance (pa_cons ha.brw (pa_cons (pe_bltn (v := .ty t.nm) hgl2 hm2 t.boot rfl hn hdb) pa_nil rfl) (no_star hs _ _)) (by decide) (by decide) (no_star hs _ _) rfl) fun σ H Q ⟨ioa, F, G, env, S, q⟩ => ?_
  rw [ev] at q
  exact ⟨ioa, F, G, env, S, oR_bind (Ra := RB X.K) q fun d e1 v G1 H1 x1 S1 r1 q1 => ⟨v, d, G1, rfl, S1.gh, r1, oR_ok (p := (false, PyData.bool (oIs d t))) q1 S1 (Dr.bl _)⟩⟩
/-! ### subscripts -/
theorem x_idx (hu : X.A.units + 66 < cLine) (hs : PlainIx eb) (ha : Opd X xa W c a ea) (hb : Opd X xa W c b eb) : PE X (.Subscript ea eb pos) (rdE X xa W (ev c (.idx a b))) := by
  refine PE.imp (pe_ix (ix_X (xa := xa) (W := W) hu) ha.ta hb.brw hs) fun σ H Q ⟨ioa, F, G, env, S, q⟩ => ?_
  rw [ev] at q
  exact two_core (fun ioa F G env σ H x y dx dy Q S h1 h2 q => ⟨ioa, F, G, env, σ, dx, dy, S, h1, h2, q⟩) ⟨ioa, F, G, env, S, q⟩
/-- a slice's bound: none or one -/
def RP : Rk (Option Int) (Option Int) := fun _ _ _ _ _ i o => o = i
def tPo (X : Cx) (xa : XA) (W : WX) (c : Cal) (lo : List Ex) : TO := fun σ H Q => tR X.K xa W RP (fun env => prt (evs c lo env)) σ H Q
theorem po_no : PO X none (tPo X xa W c []) := by
  refine ⟨fun pins s σ H Q I h => po_none.run pins s σ H Q I ?_⟩
  obtain ⟨ioa, F, G, env, S, q⟩ := h
  have q : oR X.K xa W RP ioa F σ (prt (evs c [] env)) G Q := q
  rw [evs] at q
  exact oR_ok (p := none) q S rfl
theorem po_one (ha : PE X ea (rdE X xa W (ev c a))) : PO X (some ea) (tPo X xa W c [a]) := by
  refine ⟨fun pins s σ H Q I h => (po_some (pe_val ha)).run pins s σ H Q I ?_⟩
  obtain ⟨ioa, F, G, env, S, q⟩ := h
  have q : oR X.K xa W RP ioa F σ (prt (evs c [a] env)) G Q := q
  have he : evs c [a] env = (valOf (ev c a env)).bind fun d e1 => .ok [d] e1 := by
    rw [evs]
    congr
  rw [he] at q
  refine ⟨ioa, F, G, env, S, ?_⟩
  revert q
  show _ → oR X.K xa W (RV X.K) ioa F σ (valOf (ev c a env)) G _
  cases valOf (ev c a env) with
  | no => exact fun h => h
  | ex x e => exact fun h => h
  | ok d e =>
    intro q v G' H' xx S' r
    have r : Dr X.K G' v d := r
    cases d with
    | int i =>
      cases r
      exact ⟨i, rfl, q (some i) G' H' xx S' rfl⟩
    | _ => exact q.elim
theorem x_slc {lo hi : List Ex} {elo ehi : Option Expr} {p2 : Pos} (ha : PE X ea (rdE X xa W (ev c a))) (hl : PO X elo (tPo X xa W c lo)) (hh : PO X ehi (tPo X xa W c hi)) : PE X (.Subscript ea (.Slice elo ehi none p2) pos) (rdE X xa W (ev c (.slc a lo hi))) := by
  refine PE.imp (pe_slice (sl_X (xa := xa) (W := W)) (pe_val ha) hl hh) fun σ H Q ⟨ioa, F, G, env, S, q⟩ => ?_
  rw [ev] at q
  refine ⟨ioa, F, G, env, S, oR_bind (Ra := RV X.K) q fun d e1 v G1 H1 x1 S1 r1 q1 => ⟨ioa, F, G1, e1, S1, oR_bind (Ra := RP) q1 fun l e2 l' G2 H2 x2 S2 r2 q2 => ⟨ioa, F, G2, e2, S2, oR_bind (Ra := RP) q2 fun h e3 h' G3 H3 x3 S3 r3 q3 => ?_⟩⟩⟩
  have r2 : l' = l := r2
  have r3 : h' = h := r3
  subst r2 r3
  exact ⟨ioa, F, G3, e3, σ, d, S3, .inl (Dr.mono (.of (x2.trans x3).1) _ r1), q3⟩
theorem x_rev {k : Nat} {p1 p2 p3 : Pos} (ha : Opd X xa W c a ea) : PE X (.Subscript ea (.Slice none none (some (.UnaryOp .USub (.Constant (.int 1) k p1) p2)) p3) pos) (rdE X xa W (ev c (.rev a))) := by
  refine PE.imp (pe_revL ha.brw) fun σ H Q ⟨ioa, F, G, env, S, q⟩ => ?_
  rw [ev] at q
  refine ⟨ioa, F, G, env, S, oR_bind (Ra := RB X.K) q fun d e1 v G1 H1 x1 S1 r1 q1 => ?_⟩
  cases d with
  | list ds =>
    obtain ⟨a, vs, rfl, ha, ka⟩ := DrB.lst S1.gh r1
    exact ⟨a, vs, rfl, ha.seq, fun p hp => ans_new q1 S1 hp (.lst ka.reverse)⟩
  | _ => exact q1.elim
/-! ### methods -/
theorem ta_mono {fa : Env → Rs (Bool × D)} {σ : L2.St} {H : Hp} {Q Q' : VK} (h : taOf X xa W a fa σ H Q) (hQ : ∀ v H, Q v H → Q' v H) : taOf X xa W a fa σ H Q' := by
  unfold taOf at h ⊢
  revert h
  cases a.var? with
  | some i => exact fun ⟨v, h1, h2⟩ => ⟨v, h1, hQ _ _ h2⟩
  | none => exact fun h => tR_mono h hQ
theorem recv_core {β : Type} {Rq : Rk β V} {p : D → Bool} {k : Option D → Env → Rs β} {fa : Env → Rs (Bool × D)} {σ : L2.St} {H : Hp} {Q : VK} (q : tR X.K xa W Rq (fun env => (recv p a fa env).bind k) σ H Q) :
    taOf X xa W a fa σ H fun x H1 => ∃ ioa F G env d0 o, Sim X.K ioa F G env σ H1 ∧ DrB X.K G H1 x d0 ∧ p d0 = true ∧
      (∀ G2 H2 e2 d, Ext F G G2 → Sim X.K ioa F G2 e2 σ H2 → later a o e2 = some d → DrB X.K G2 H2 x d) ∧ oR X.K xa W Rq ioa F σ (k o env) G Q := by
  obtain ⟨ioa, F, G, env, S, q⟩ := q
  have q : oR X.K xa W Rq ioa F σ ((recv p a fa env).bind k) G Q := q
  unfold taOf
  cases hv : a.var? with
  | none =>
    unfold recv at q
    rw [hv] at q
    refine ⟨ioa, F, G, env, S, ?_⟩
    have q : oR X.K xa W Rq ioa F σ (((valOf (fa env)).bind fun x e => if p x then .ok (some x) e else .no).bind k) G Q := q
    revert q
    show _ → oR X.K xa W (RV X.K) ioa F σ (valOf (fa env)) G _
    cases valOf (fa env) with
    | no => exact fun h => h
    | ex x e => exact fun h => h
    | ok d e =>
      intro q v G' H' xx S' r
      have q : oR X.K xa W Rq ioa F σ ((if p d then Rs.ok (some d) e else .no).bind k) G Q := q
      by_cases hp : p d = true
      · rw [if_pos hp] at q
        refine ⟨ioa, F, G', e, d, some d, S', .inl r, hp, fun G2 H2 e2 d2 x2 S2 h2 => ?_, oR_ext xx q⟩
        have h2 : some d = some d2 := h2
        cases h2
        exact .inl (Dr.mono (.of x2.1) _ r)
      · rw [if_neg hp] at q; exact q.elim
  | some i =>
    unfold recv at q
    rw [hv] at q
    have q : oR X.K xa W Rq ioa F σ (((Rs.of (rd i env) env).bind fun d e => if p d then .ok none e else .no).bind k) G Q := q
    cases h0 : rd i env with
    | none => rw [h0] at q; exact q.elim
    | some d0 =>
      rw [h0] at q
      have q : oR X.K xa W Rq ioa F σ ((if p d0 then Rs.ok none env else .no).bind k) G Q := q
      obtain ⟨v, hσ, r0⟩ := S.rd h0
      by_cases hp : p d0 = true
      · rw [if_pos hp] at q
        refine ⟨v, hσ, ioa, F, G, env, d0, none, S, r0, hp, fun G2 H2 e2 d2 x2 S2 h2 => ?_, q⟩
        have h2 : (a.var?.bind fun i => rd i e2) = some d2 := h2
        rw [hv] at h2
        obtain ⟨v', e', r'⟩ := S2.rd h2
        rw [hσ] at e'
        cases e'
        exact r'
      · rw [if_neg hp] at q; exact q.elim
theorem isT_dc {K : PySem.W.Frag} {G H : Hp} {x : V} {d : D} (m : Same G H) (h : DrB K G H x d) (hd : isDc d = true) : IsT K "dict" x H := by
  cases d with
  | dict kvs =>
    obtain ⟨a, rfl, i⟩ := isD_of m h
    exact ⟨a, rfl, .inl ⟨rfl, i⟩⟩
  | _ => cases hd
theorem isT_ls {K : PySem.W.Frag} {G H : Hp} {x : V} {d : D} (m : Same G H) (h : DrB K G H x d) (hd : isLs d = true) : IsT K "list" x H := by
  cases d with
  | list ds =>
    obtain ⟨a, vs, rfl, ha, _⟩ := h.lst m
    exact ⟨a, rfl, .inr ⟨rfl, vs, ha.seq⟩⟩
  | _ => cases hd
/-- what must be seen of a receiver -/
def plainO : Expr → Bool
  | .Call (.Name ..) [] [] _ => false
  | _ => true
theorem base_of {o : Expr} (h : plainO o = true) (m : Str) (env : PySem.Env) : attributeBase o m env (eval o env) = eval o env := by
  unfold attributeBase
  split
  · simp [plainO] at h
  · rfl
theorem mth1 {o e : Expr} {m : Str} {apos cpos : Pos} (ho : plainO o = true) (hs : ∀ x p, e ≠ .Starred x p) (hl : (apos.endLine == cpos.line) = true) : Mth X o m apos [e] cpos := by
  refine ⟨base_of ho _ _, ?_, hl⟩
  rw [no_star hs]
  rfl
theorem mth2 {o e f : Expr} {m : Str} {apos cpos : Pos} (ho : plainO o = true) (hs : ∀ x p, e ≠ .Starred x p) (hs2 : ∀ x p, f ≠ .Starred x p) (hl : (apos.endLine == cpos.line) = true) : Mth X o m apos [e, f] cpos := by
  refine ⟨base_of ho _ _, ?_, hl⟩
  rw [no_star hs, no_star hs2]
  rfl
theorem x_get {apos : Pos} (hu : X.A.units + 66 < cLine) (ha : Opd X xa W c a ea) (hb : Opd X xa W c b eb) (ho : plainO ea = true) (hs : ∀ x p, eb ≠ .Starred x p) (hl : (apos.endLine == pos.line) = true) :
    PE X (.Call (.Attribute ea "get" apos) [eb] [] pos) (rdE X xa W (ev c (.get a b))) := by
  refine PE.imp (pe_mt PySem.F.plainAttrs_dict PySem.F.slot_dict_get PySem.F.type_dict_get (mt_getX (xa := xa) (W := W) hu) ha.ta (pa_cons hb.brw pa_nil (no_star hs _ _)) (mth1 ho hs hl) (no_star hs _ _) rfl) fun σ H Q ⟨ioa, F, G, env, S, q⟩ => ?_
  rw [ev] at q
  have k := recv_core (Rq := RE X.K) (k := fun o e1 => (brw b (ev c b) e1).bind fun kd e2 => ol ((later a o e2).bind fun x => dgetOr x kd .none) e2) ⟨ioa, F, G, env, S, q⟩
  unfold tMt
  refine ta_mono k fun x H1 ⟨ioa, F, G, env, d0, o, S, r0, hp, lt, q⟩ => ⟨isT_dc S.gh r0 hp, ?_⟩
  refine ⟨ioa, F, G, env, S, oR_bind (Ra := RB X.K) q fun kd e2 y G2 H2 x2 S2 r2 q2 => ?_⟩
  cases hlt : later a o e2 with
  | none => rw [hlt] at q2; exact q2.elim
  | some d =>
    rw [hlt] at q2
    exact ⟨ioa, F, G2, e2, σ, d, kd, .none, y, S2, lt G2 H2 e2 d x2 S2 hlt, r2, q2, .inl ⟨rfl, rfl⟩⟩
theorem x_get2 {apos : Pos} (hu : X.A.units + 66 < cLine) (ha : Opd X xa W c a ea) (hb : PE X eb (rdE X xa W (ev c b))) (hz : PE X ez (rdE X xa W (ev c z))) (ho : plainO ea = true) (hs : ∀ x p, eb ≠ .Starred x p) (hs2 : ∀ x p, ez ≠ .Starred x p) (hl : (apos.endLine == pos.line) = true) :
    PE X (.Call (.Attribute ea "get" apos) [eb, ez] [] pos) (rdE X xa W (ev c (.get2 a b z))) := by
  refine PE.imp (pe_mt PySem.F.plainAttrs_dict PySem.F.slot_dict_get PySem.F.type_dict_get (mt_getX (xa := xa) (W := W) hu) ha.ta (pa_cons (pe_val hb) (pa_cons (pe_val hz) pa_nil (no_star hs2 _ _)) (no_star hs _ _)) (mth2 ho hs hs2 hl) (no_star hs _ _) (by rw [no_star hs2]; rfl)) fun σ H Q ⟨ioa, F, G, env, S, q⟩ => ?_
  rw [ev] at q
  have k := recv_core (Rq := RE X.K) (k := fun o e1 => (valOf (ev c b e1)).bind fun kd e2 => (valOf (ev c z e2)).bind fun zd e3 => ol ((later a o e3).bind fun x => dgetOr x kd zd) e3) ⟨ioa, F, G, env, S, q⟩
  unfold tMt
  refine ta_mono k fun x H1 ⟨ioa, F, G, env, d0, o, S, r0, hp, lt, q⟩ => ⟨isT_dc S.gh r0 hp, ?_⟩
  refine ⟨ioa, F, G, env, S, oR_bind (Ra := RV X.K) q fun kd e2 y G2 H2 x2 S2 r2 q2 => ⟨ioa, F, G2, e2, S2, oR_bind (Ra := RV X.K) q2 fun zd e3 w G3 H3 x3 S3 r3 q3 => ?_⟩⟩
  cases hlt : later a o e3 with
  | none => rw [hlt] at q3; exact q3.elim
  | some d =>
    rw [hlt] at q3
    exact ⟨ioa, F, G3, e3, σ, d, kd, zd, y, S3, lt G3 H3 e3 d (x2.trans x3) S3 hlt, .inl (Dr.mono (.of x3.1) _ r2), q3, .inr ⟨w, rfl, r3⟩⟩
end
end Rv
end
section
/-! Rv, part 16: pop, index; what a for walks. -/
namespace Rv
open PySem PySem.Spec PyProof.Rows L2
section
variable {X : Cx} {xa : XA} {W : WX} {c : Cal} {a b z : Ex} {ea eb ez : Expr} {pos : Pos}
theorem dr_last {K : PySem.W.Frag} {G : Hp} {vs : List V} {ds : List D} {d : D} (k : DrA K G vs ds) (h : ds.getLast? = some d) : ∃ v, vs[vs.length - 1]? = some v ∧ Dr K G v d := by
  rw [List.getLast?_eq_getElem?] at h
  rw [k.length]
  exact k.get h
theorem x_pop {i : Nat} {x : Str} {p apos : Pos} (hv : PE X (.Name x p) (tVar i)) (hl : (apos.endLine == pos.line) = true) : PE X (.Call (.Attribute (.Name x p) "pop" apos) [] [] pos) (rdE X xa W (ev c (.pop i))) := by
  refine PE.imp (pe_mt0 PySem.F.plainAttrs_list PySem.F.slot_list_pop PySem.F.type_list_pop (show MtR X "list.pop" rPop from mt_pop) hv (base_of rfl _ _) hl) fun σ H Q ⟨ioa, F, G, env, S, q⟩ => ?_
  rw [ev] at q
  have q : oR X.K xa W (RE X.K) ioa F σ (match env[i]? with
    | some (some (.own (.list xs))) => match xs.getLast? with
      | some d => .ok (false, d) (env.set i (some (.own (.list xs.dropLast))))
      | none => .no
    | _ => .no) G Q := q
  split at q
  · rename_i xs he
    split at q
    · rename_i d hd
      obtain ⟨v, h1, a, rfl, f1, g1, o, ho, t⟩ := S.sl i _ he
      cases t with
      | lst k =>
        rename_i vs
        obtain ⟨w, h2, h3⟩ := dr_last k hd
        refine ⟨.ref a, h1, ⟨a, rfl, .inr ⟨rfl, vs, (LsX.of (K := X.K) ho).seq⟩⟩, a, vs, w, rfl, rfl, ho, h2, ?_⟩
        exact q w G (upd H a (.lst vs.dropLast)) (Ext.refl _ _) (S.write he h1 rfl (.lst k.dropLast)) h3
    · exact q.elim
  · exact q.elim
/-! ### index -/
theorem hd_cons {d : D} {ds : List D} (h : PyData.hasDictAll (d :: ds) = false) : d.hasDict = false ∧ PyData.hasDictAll ds = false := by
  have : (d.hasDict || PyData.hasDictAll ds) = false := by simpa [PyData.hasDictAll] using h
  simpa using this
mutual
theorem Dr.dp {K : PySem.W.Frag} {G H : Hp} (m : Same G H) : ∀ {v : V} (d : D), Dr K G v d → d.hasDict = false → Dp K H v d
  | _, .none, .non, _ => .non
  | _, .bool _, .bl b, _ => .bl b
  | _, .int _, .int i, _ => .int i
  | _, .str _, .str x, _ => .str x
  | _, .list ds, .lst h k, z => .lst ((Mo.of m).seq h).seq (DrA.dp m ds k (by simpa [PyData.hasDict] using z))
  | _, .tuple ds, .tup h k, z => .tup (SqT.of (m _ _ h)) (DrA.dp m ds k (by simpa [PyData.hasDict] using z))
theorem DrA.dp {K : PySem.W.Frag} {G H : Hp} (m : Same G H) : ∀ {vs : List V} (ds : List D), DrA K G vs ds → PyData.hasDictAll ds = false → DpAll K H vs ds
  | _, [], .nil, _ => .nil
  | _, d :: ds, .cons h k, z => .cons (Dr.dp m d h (hd_cons z).1) (DrA.dp m ds k (hd_cons z).2)
end
theorem DrB.dp {K : PySem.W.Frag} {G H : Hp} (m : Same G H) {v : V} {d : D} (h : DrB K G H v d) (z : d.hasDict = false) : Dp K H v d := by
  rcases h with h | ⟨a, rfl, o, ho, t⟩
  · exact h.dp m _ z
  · cases t with
    | lst k => exact .lst (LsX.of (K := K) ho).seq (DrA.dp m _ k (by simpa [PyData.hasDict] using z))
    | dk k => simp [PyData.hasDict] at z
    | dt k => simp [PyData.hasDict] at z
theorem find_spec {p : D → Bool} : ∀ {xs : List D} {j : Nat}, xs.findIdx? p = some j → ∃ x, xs[j]? = some x ∧ p x = true ∧ ∀ m x', m < j → xs[m]? = some x' → p x' = false := by
  intro xs j h
  rw [List.findIdx?_eq_some_iff_getElem] at h
  obtain ⟨hl, h1, h2⟩ := h
  refine ⟨xs[j], List.getElem?_eq_getElem hl, h1, fun m x' hm hx => ?_⟩
  have hml : m < xs.length := Nat.lt_trans hm hl
  rw [List.getElem?_eq_getElem hml] at hx
  cases hx
  simpa using h2 m hm
theorem x_index {apos : Pos} (hu : X.A.units + 66 < cLine) (ha : Opd X xa W c a ea) (hb : Opd X xa W c b eb) (ho : plainO ea = true) (hs : ∀ x p, eb ≠ .Starred x p) (hl : (apos.endLine == pos.line) = true) :
    PE X (.Call (.Attribute ea "index" apos) [eb] [] pos) (rdE X xa W (ev c (.index a b))) := by
  refine PE.imp (pe_mt PySem.F.plainAttrs_list PySem.F.slot_list_index PySem.F.type_list_index (mt_indexD (by omega)) ha.ta (pa_cons hb.brw pa_nil (no_star hs _ _)) (mth1 ho hs hl) (no_star hs _ _) rfl) fun σ H Q ⟨ioa, F, G, env, S, q⟩ => ?_
  rw [ev] at q
  have k := recv_core (Rq := RE X.K) (k := fun o e1 => (brw b (ev c b) e1).bind fun kd e2 => ol ((later a o e2).bind fun x => oIndex x kd) e2) ⟨ioa, F, G, env, S, q⟩
  unfold tMt
  refine ta_mono k fun x H1 ⟨ioa, F, G, env, d0, o, S, r0, hp, lt, q⟩ => ⟨isT_ls S.gh r0 hp, ?_⟩
  refine ⟨ioa, F, G, env, S, oR_bind (Ra := RB X.K) q fun kd e2 y G2 H2 x2 S2 r2 q2 => ?_⟩
  cases hlt : later a o e2 with
  | none => rw [hlt] at q2; exact q2.elim
  | some d =>
    rw [hlt] at q2
    have q2 : oR X.K xa W (RE X.K) ioa F σ (ol (oIndex d kd) e2) G2 Q := q2
    have rl := lt G2 H2 e2 d x2 S2 hlt
    cases d with
    | list ds =>
      have q2 : oR X.K xa W (RE X.K) ioa F σ (ol (if shp2 (.list ds) kd && !(PyData.list ds).hasDict && !kd.hasDict then (ds.findIdx? fun z => PyData.eqv z kd).map fun j => .int (j : Nat) else none) e2) G2 Q := q2
      by_cases hz : (shp2 (.list ds) kd && !(PyData.list ds).hasDict && !kd.hasDict) = true
      · rw [if_pos hz] at q2
        simp only [Bool.and_eq_true, Bool.not_eq_true'] at hz
        cases hj : ds.findIdx? fun z => PyData.eqv z kd with
        | none => rw [hj] at q2; exact q2.elim
        | some j =>
          rw [hj] at q2
          obtain ⟨w, w1, w2, w3⟩ := find_spec hj
          obtain ⟨ad, vs, rfl, _, _⟩ := rl.lst S2.gh
          exact ⟨ad, y, kd, ds, j, w, rfl, rfl, rl.dp S2.gh hz.1.2, r2.dp S2.gh hz.2, (shp_l hz.1.1).1, (shp_l hz.1.1).2, w1, w2, w3, oR_ok (p := (false, PyData.int (j : Nat))) q2 S2 (Dr.int _)⟩
      · rw [if_neg hz] at q2; exact q2.elim
    | _ => exact q2.elim
end
/-! ### what a for walks -/
/-- the iterator J tells the data xs, one after another -/
def Wk (K : PySem.W.Frag) (G : Hp) (xs : List D) (J : It) : Prop := ∀ ioa F G' env' σ' H' (i : Nat), Same G G' → Sim K ioa F G' env' σ' H' → (i = xs.length → J.stop i H') ∧
  ∀ x, xs[i]? = some x → J.go i H' ∧ ∀ v H'', J.yld i H' v H'' → ∃ G'', Ext F G' G'' ∧ Sim K ioa F G'' env' σ' H'' ∧ Dr K G'' v x
def RI (K : PySem.W.Frag) : Rk (List D) It := fun _ G _ _ _ xs J => Wk K G xs J
def srcR (c : Cal) (s : Src) (it : List Ex) (env : Env) : Rs (List D) := (evs c it env).bind fun ws e => Rs.of (walk s ws) e
def iSrc (X : Cx) (xa : XA) (W : WX) (c : Cal) (s : Src) (it : List Ex) : TI := fun σ H R => tR X.K xa W (RI X.K) (srcR c s it) σ H R
section
variable {K : PySem.W.Frag} {G : Hp}
theorem wk_list {a : Addr} {vs : List V} {ds : List D} (h : LsX K G a vs) (k : DrA K G vs ds) : Wk K G ds (Itl K a) := by
  intro ioa F G' env' σ' H' i x S
  have hq : SqL K H' a vs := ((Mo.of (x.trans S.gh)).seq h).seq
  refine ⟨fun e => ⟨vs, hq, by rw [k.length, e]; exact Nat.le_refl _⟩, fun d hd => ?_⟩
  obtain ⟨v, hv, hr⟩ := k.get hd
  refine ⟨⟨vs, v, hq, hv⟩, fun w H'' ⟨e, hw⟩ => ?_⟩
  subst e
  have := hw vs hq
  rw [hv] at this
  cases this
  exact ⟨G', Ext.refl _ _, S, Dr.mono (.of x) _ hr⟩
theorem wk_tup {a : Addr} {vs : List V} {ds : List D} (h : G a = some (.tup vs)) (k : DrA K G vs ds) : Wk K G ds (Itt K a) := by
  intro ioa F G' env' σ' H' i x S
  have hq : SqT K H' a vs := SqT.of (S.gh _ _ (x _ _ h))
  refine ⟨fun e => ⟨vs, hq, by rw [k.length, e]; exact Nat.le_refl _⟩, fun d hd => ?_⟩
  obtain ⟨v, hv, hr⟩ := k.get hd
  refine ⟨⟨vs, v, hq, hv⟩, fun w H'' ⟨e, hw⟩ => ?_⟩
  subst e
  have := hw vs hq
  rw [hv] at this
  cases this
  exact ⟨G', Ext.refl _ _, S, Dr.mono (.of x) _ hr⟩
theorem upTo_get {lo : Int} {n i : Nat} {d : D} (h : (upTo lo n)[i]? = some d) : i < n ∧ d = .int (lo + (i : Nat)) := by
  unfold upTo at h
  rw [List.getElem?_map] at h
  cases hi : (List.range n)[i]? with
  | none => rw [hi] at h; cases h
  | some j =>
    rw [hi] at h
    obtain ⟨h1, h2⟩ := List.getElem?_eq_some_iff.mp hi
    rw [List.length_range] at h1
    rw [List.getElem_range] at h2
    subst h2
    cases h
    exact ⟨h1, rfl⟩
theorem wk_rng (lo : Int) (n : Nat) : Wk K G (upTo lo n) (Itr lo n) := by
  intro ioa F G' env' σ' H' i x S
  refine ⟨fun e => ?_, fun d hd => ?_⟩
  · show n ≤ i
    rw [e]
    unfold upTo
    simp
  · obtain ⟨h1, rfl⟩ := upTo_get hd
    refine ⟨h1, fun w H'' ⟨e, hw⟩ => ?_⟩
    subst e hw
    exact ⟨G', Ext.refl _ _, S, .int _⟩
/-- pairs in new tuples -/
theorem zipW_get {α β γ : Type} {f : α → β → γ} {as : List α} {bs : List β} {i : Nat} {x : γ} (h : (as.zipWith f bs)[i]? = some x) : ∃ a b, as[i]? = some a ∧ bs[i]? = some b ∧ f a b = x := by
  rw [List.getElem?_zipWith] at h
  cases ha : as[i]? with
  | none => rw [ha] at h; cases h
  | some a =>
    cases hb : bs[i]? with
    | none => rw [ha, hb] at h; cases h
    | some b =>
      rw [ha, hb] at h
      cases h
      exact ⟨a, b, rfl, rfl, rfl⟩
theorem range_get {n i j : Nat} (h : (List.range n)[i]? = some j) : i < n ∧ j = i := by
  obtain ⟨h1, h2⟩ := List.getElem?_eq_some_iff.mp h
  rw [List.length_range] at h1
  rw [List.getElem_range] at h2
  exact ⟨h1, h2.symm⟩
def enumD (ds : List D) : List D := (List.range ds.length).zipWith (fun i x => .tuple [.int (i : Nat), x]) ds
theorem enumD_len (ds : List D) : (enumD ds).length = ds.length := by unfold enumD; simp
theorem enumD_get {ds : List D} {i : Nat} {x : D} (h : (enumD ds)[i]? = some x) : ∃ d, ds[i]? = some d ∧ x = .tuple [.int (i : Nat), d] := by
  obtain ⟨j, d, h1, h2, h3⟩ := zipW_get h
  obtain ⟨_, rfl⟩ := range_get h1
  exact ⟨d, h2, h3.symm⟩
theorem wk_enum {a : Addr} {vs : List V} {ds : List D} (h : LsX K G a vs) (k : DrA K G vs ds) : Wk K G (enumD ds) (Ite K a) := by
  intro ioa F G' env' σ' H' i x S
  have hq : SqL K H' a vs := ((Mo.of (x.trans S.gh)).seq h).seq
  refine ⟨fun e => ⟨vs, hq, by rw [k.length, e, enumD_len]; exact Nat.le_refl _⟩, fun d hd => ?_⟩
  obtain ⟨d0, h0, rfl⟩ := enumD_get hd
  obtain ⟨v, hv, hr⟩ := k.get h0
  refine ⟨⟨vs, v, hq, hv⟩, fun w H'' ⟨T, y, e1, hT, e2, hw⟩ => ?_⟩
  subst e1 e2
  have := hw vs hq
  rw [hv] at this
  cases this
  obtain ⟨x2, S2, r2⟩ := S.tuple (ds := [.int (i : Nat), d0]) hT (.cons (.int _) (.cons (Dr.mono (.of x) _ hr) .nil))
  exact ⟨_, x2, S2, r2⟩
/-- enumerate over a tuple -/
def IteT (K : PySem.W.Frag) (a : Addr) : It :=
  ⟨fun i H => ∃ (xs : List V) (x : V), SqT K H a xs ∧ xs[i]? = some x, fun i H v H' => ∃ T x, v = .ref T ∧ H T = none ∧ H' = upd H T (.tup [.int (i : Nat), x]) ∧ ∀ xs, SqT K H a xs → xs[i]? = some x, fun i H => ∃ xs : List V, SqT K H a xs ∧ xs.length = i⟩
theorem wk_enumT {a : Addr} {vs : List V} {ds : List D} (h : G a = some (.tup vs)) (k : DrA K G vs ds) : Wk K G (enumD ds) (IteT K a) := by
  intro ioa F G' env' σ' H' i x S
  have hq : SqT K H' a vs := SqT.of (S.gh _ _ (x _ _ h))
  refine ⟨fun e => ⟨vs, hq, by rw [k.length, e, enumD_len]⟩, fun d hd => ?_⟩
  obtain ⟨d0, h0, rfl⟩ := enumD_get hd
  obtain ⟨v, hv, hr⟩ := k.get h0
  refine ⟨⟨vs, v, hq, hv⟩, fun w H'' ⟨T, y, e1, hT, e2, hw⟩ => ?_⟩
  subst e1 e2
  have := hw vs hq
  rw [hv] at this
  cases this
  obtain ⟨x2, S2, r2⟩ := S.tuple (ds := [.int (i : Nat), d0]) hT (.cons (.int _) (.cons (Dr.mono (.of x) _ hr) .nil))
  exact ⟨_, x2, S2, r2⟩
theorem turn_enumT {P : Program} {w : World} {K : PySem.W.Frag} {elts : List Expr} {kk : Nat} {tpos : Pos} (a e it : Addr) :
    Turn P w K (.Tuple elts kk tpos) (IteT K a) [e, it] e (fun i h => (∃ old, IsEnum h e it ((i : Nat) : Int) old) ∧ h.IsTupleIter it a i ∧ e ≠ it) where
  mem := by simp
  obj := fun i h st b hb => by
    obtain ⟨⟨old, he⟩, ⟨o, ho, hc, hd⟩, _⟩ := st
    rcases List.mem_cons.mp hb with z | z
    · rw [z]; exact ⟨_, he, fun v q => nomatch q⟩
    · rw [List.mem_singleton.mp z]; exact ⟨o, ho, fun v q => by rw [hd] at q; cases q⟩
  keep := fun i h h' ⟨⟨old, he⟩, hi, hne⟩ k => ⟨⟨old, k e (by simp) _ he⟩, hi.at fun o q => k it (by simp) o q, hne⟩
  item := by
    intro X hP hw hK hc i pins s σ H E I hf st hg
    subst hP hw hK
    obtain ⟨⟨old, he⟩, hit, hne⟩ := st
    obtain ⟨xs, x, hq, hx⟩ := hg
    obtain ⟨its, rv, p, hz⟩ := I.tuple hq
    obtain ⟨u, hu, ru⟩ := rv.get hx
    have hel : e < s.heap.objs.size := Heap.lt_size he
    have hil : it < s.heap.objs.size := by obtain ⟨_, q, _⟩ := hit; exact Heap.lt_size q
    have hia : a ≠ it := fun z => by
      subst z
      obtain ⟨o1, q1, c1, _⟩ := hit
      obtain ⟨o2, q2, c2, _⟩ := p
      rw [q1] at q2; cases q2
      exact absurd (Value.type.inj (c1.symm.trans c2)) (by decide)
    have hea : e ∉ [it, a] := fun hm => by
      rcases List.mem_cons.mp hm with z | z
      · exact hne z
      · have z := List.mem_singleton.mp z
        subst z
        obtain ⟨o2, q2, c2, _⟩ := p
        rw [he] at q2; cases q2
        exact absurd (Value.type.inj c2) (by decide)
    refine wpAny_pyNext_enum_itemD (Draws.tuple (prog := X.prog) (w := X.w) (A := X.A.in1) (I.ok.hd hc) it a hia its.toArray) he ⟨hit, p⟩ (by
      have := lt_of_get hu
      simpa using this) hne hea fun y h' tk hP' ho hit' hT hsz hk => ?_
    have ey : y = u := by
      have h1 : its[i]? = some y := by simpa using hP'
      rw [hu] at h1
      exact (Option.some.inj h1).symm
    subst ey
    refine ⟨_, rfl, wpAny_letOwnedTupleGo_enum (s := { s with heap := h', toks := tk + 1 }) ho fun h'' he' sb => ?_⟩
    have hT2 : h''.get? s.heap.objs.size = some { cls := .type "tuple", data := .seq #[.int i tk, y] } := (sb.2 _ (Nat.ne_of_gt hel)).trans hT
    have new : ObjOk X.prog X.w (upd H s.heap.objs.size (.tup [.int (i : Nat), x])) h'' s.heap.objs.size (.tup [.int (i : Nat), x]) :=
      ⟨by show 2 ≤ sizeLine; decide, [.int i tk, y], .cons ⟨_, rfl⟩ (.cons ru .nil), ⟨_, hT2, rfl, _, rfl⟩⟩
    have I1 : Inv X pins σ (upd H s.heap.objs.size (.tup [.int (i : Nat), x])) { s with heap := h'', toks := tk + 1 } :=
      I.turnedNew (ch := [e, it]) (fun b ob hb q => (sb.2 b (fun z => hb (by simp [z]))).trans (hk b ob (fun z => hb (by simp [z])) (fun z => hb (by simp [z])) q)) hf (Nat.le_refl _) new
    refine ⟨.ref s.heap.objs.size, _, I1, rfl, ⟨_, x, rfl, I.hok.fresh (Nat.le_refl _), rfl, fun ys hy => by rw [I.tuple_inj hy hq]; exact hx⟩, ⟨⟨y, ?_⟩, hit'.1.at fun o q => (sb.2 it (Ne.symm hne)).trans q, hne⟩, fun b hb => ?_⟩
    · have e1 : ((i + 1 : Nat) : Int) = (i : Int) + 1 := by omega
      rw [e1]; exact he'
    · have hb' : b < s.heap.objs.size := by
        rcases List.mem_cons.mp hb with z | z
        · rw [z]; exact hel
        · rw [List.mem_singleton.mp z]; exact hil
      rw [upd_ne (Nat.ne_of_lt hb')]
      exact (hf b hb).1
  done := by
    intro X hP hw hK hc i pins s σ H E I hf st hg
    subst hP hw hK
    obtain ⟨⟨old, he⟩, hit, hne⟩ := st
    obtain ⟨xs, hq, hx⟩ := hg
    obtain ⟨its, rv, p, hz⟩ := I.tuple hq
    obtain ⟨f0, f1, f2, f3, f4, f5⟩ := hf it (by simp)
    have hl := rv.length
    have hia : a ≠ it := fun z => by
      subst z
      obtain ⟨o1, q1, c1, _⟩ := hit
      obtain ⟨o2, q2, c2, _⟩ := p
      rw [q1] at q2; cases q2
      exact absurd (Value.type.inj (c1.symm.trans c2)) (by decide)
    refine wpAny_pyNext_enum_endD (Draws.tuple (prog := X.prog) (w := X.w) (A := X.A.in1) (I.ok.hd hc) it a hia its.toArray) he ⟨?_, p⟩ fun h' eb => ⟨rfl, I.turned (t' := s.toks) (fun b o hb q => eb b o hb q) f0 f1 f3 f4 f5⟩
    rw [List.size_toArray, ← hl, hx]
    exact hit
  self := fun A i s Q E ⟨⟨_, he⟩, _⟩ h => wpAny_pyIter_enum he h
end
end Rv
end
section
/-! Rv, part 17: iterators by their texts; targets; comprehensions. -/
namespace Rv
open PySem PySem.Spec PyProof.Rows L2
/-! ### slots written -/
section
variable {K : PySem.W.Frag} {ioa : Nat → Addr} {F G : Hp} {env env' : Env} {σ : L2.St} {H : Hp}
theorem putV_eq {i : Nat} {s : Sl} (h : putV i s env = some env') : env' = env.set i (some s) ∧ i < env.length ∧ ∀ d, env[i]? ≠ some (some (.io d)) := by
  unfold putV at h
  split at h
  · cases h
  · rename_i o hno ho
    cases h
    exact ⟨rfl, lt_of_get ho, fun d e => by rw [ho] at e; cases e; exact hno d rfl⟩
  · cases h
theorem Sim.put {i : Nat} {p : Bool × D} {v : V} (S : Sim K ioa F G env σ H) (h : putV i (slOf p) env = some env') (r : RE K F G env σ H p v) : Sim K ioa F G env' (σ.set i (some v)) H := by
  obtain ⟨rfl, hl, hio⟩ := putV_eq h
  have hls : i < σ.length := by rw [← S.len]; exact hl
  unfold RE at r
  refine ⟨by rw [List.length_set, List.length_set]; exact S.len, S.fh, S.gh, fun j s e => ?_, fun j d e => ?_, fun j k a mj mk ej ek => ?_⟩
  · by_cases hj : i = j
    · subst hj
      rw [List.getElem?_set_self hl] at e
      cases e
      refine ⟨v, List.getElem?_set_self hls, ?_⟩
      unfold slOf
      by_cases hp : p.1 = true
      · rw [if_pos hp] at r ⊢
        obtain ⟨a, rfl, f1, g1, o1, _⟩ := r
        exact ⟨a, rfl, f1, g1, o1⟩
      · rw [if_neg hp] at r ⊢
        exact r
    · rw [List.getElem?_set_ne hj] at e ⊢
      exact S.sl j s e
  · by_cases hj : i = j
    · subst hj
      rw [List.getElem?_set_self hl] at e
      unfold slOf at e
      split at e <;> cases e
    · rw [List.getElem?_set_ne hj] at e ⊢
      exact S.io j d e
  · have low : ∀ {k}, mine (env.set i (some (slOf p))) k → k ≠ i → mine env k := fun {k} ⟨s, e, m⟩ hk => ⟨s, by rw [List.getElem?_set_ne (Ne.symm hk)] at e; exact e, m⟩
    have new : ∀ {k}, k = i → mine (env.set i (some (slOf p))) k → Fresh K F G env σ H v p.2 := fun {k} hk ⟨s, e, m⟩ => by
      subst hk
      rw [List.getElem?_set_self hl] at e
      cases e
      unfold slOf at m
      by_cases hp : p.1 = true
      · rw [if_pos hp] at r; exact r
      · rw [if_neg hp] at m; cases m
    by_cases hj : j = i
    · by_cases hk : k = i
      · rw [hj, hk]
      · obtain ⟨b, eb, _, _, _, m1⟩ := new hj mj
        subst hj
        rw [List.getElem?_set_self hls, eb] at ej
        rw [List.getElem?_set_ne (Ne.symm hk)] at ek
        cases ej
        exact absurd ek (m1 k (low mk hk))
    · by_cases hk : k = i
      · obtain ⟨b, eb, _, _, _, m1⟩ := new hk mk
        subst hk
        rw [List.getElem?_set_self hls, eb] at ek
        rw [List.getElem?_set_ne (Ne.symm hj)] at ej
        cases ek
        exact absurd ej (m1 j (low mj hj))
      · rw [List.getElem?_set_ne (Ne.symm hj)] at ej
        rw [List.getElem?_set_ne (Ne.symm hk)] at ek
        exact S.ap j k a (low mj hj) (low mk hk) ej ek
end
section
variable {X : Cx} {xa : XA} {W : WX} {c : Cal} {a b z : Ex} {ea eb ez tg : Expr} {pos : Pos}
/-! ### iterators -/
theorem walk_r1 : ∀ {ds xs : List D}, walk .rng1 ds = some xs → ∃ j, ds = [.int j] ∧ rngOk j = true ∧ xs = upTo 0 j.toNat
  | [], _, h => by cases h
  | d :: d2 :: ds, _, h => by cases d <;> cases h
  | [d], xs, h => by
    cases d with
    | int j =>
      have h : (if rngOk j then some (upTo 0 j.toNat) else none) = some xs := h
      by_cases hz : rngOk j = true
      · rw [if_pos hz] at h; cases h; exact ⟨j, rfl, hz, rfl⟩
      · rw [if_neg hz] at h; cases h
    | _ => cases h
theorem walk_r2 : ∀ {ds xs : List D}, walk .rng2 ds = some xs → ∃ i j, ds = [.int i, .int j] ∧ rngOk i = true ∧ rngOk j = true ∧ xs = upTo i (j - i).toNat
  | [], _, h => by cases h
  | [d], _, h => by cases d <;> cases h
  | d :: d2 :: d3 :: ds, _, h => by cases d <;> cases d2 <;> cases h
  | [d, d2], xs, h => by
    cases d with
    | int i =>
      cases d2 with
      | int j =>
        have h : (if rngOk i && rngOk j then some (upTo i (j - i).toNat) else none) = some xs := h
        by_cases hz : (rngOk i && rngOk j) = true
        · rw [if_pos hz] at h; cases h
          rw [Bool.and_eq_true] at hz
          exact ⟨i, j, rfl, hz.1, hz.2, rfl⟩
        · rw [if_neg hz] at h; cases h
      | _ => cases h
    | _ => cases d2 <;> cases h
theorem walk_en : ∀ {ds xs : List D}, walk .enum ds = some xs → ∃ d ys, ds = [d] ∧ items d = some ys ∧ xs = enumD ys
  | [], _, h => by cases h
  | d :: d2 :: ds, _, h => by cases h
  | [d], xs, h => by
    have h : (items d).map (fun xs => enumD xs) = some xs := h
    cases hi : items d with
    | none => rw [hi] at h; cases h
    | some ys => rw [hi] at h; cases h; exact ⟨d, ys, rfl, hi, rfl⟩
theorem PI.or {e : Expr} {i j : TI} (h : PI X tg e i) (k : PI X tg e j) : PI X tg e (fun σ H R => i σ H R ∨ j σ H R) :=
  ⟨fun pins s σ H R I w => w.elim (h.run pins s σ H R I) (k.run pins s σ H R I)⟩
theorem evs_one (env : Env) : evs c [a] env = (valOf (ev c a env)).bind fun d e1 => .ok [d] e1 := by
  rw [evs]
  congr
theorem src_it (ha : PE X ea (rdE X xa W (ev c a))) : PI X tg ea (iSrc X xa W c .it [a]) := by
  refine PI.imp (PI.or (pi_list (pe_val ha)) (pi_tup (pe_val ha))) fun σ H R ⟨ioa, F, G, env, S, q⟩ => ?_
  have q : oR X.K xa W (RI X.K) ioa F σ ((evs c [a] env).bind fun ws e => Rs.of (walk .it ws) e) G R := q
  rw [evs_one] at q
  cases he : valOf (ev c a env) with
  | no => rw [he] at q; exact q.elim
  | ex x e =>
    rw [he] at q
    refine .inl ⟨ioa, F, G, env, S, ?_⟩
    show oR X.K xa W (RV X.K) ioa F σ (valOf (ev c a env)) G _
    rw [he]
    exact q
  | ok d e =>
    rw [he] at q
    have q : oR X.K xa W (RI X.K) ioa F σ (Rs.of (walk .it [d]) e) G R := q
    cases d with
    | list ds =>
      refine .inl ⟨ioa, F, G, env, S, ?_⟩
      show oR X.K xa W (RV X.K) ioa F σ (valOf (ev c a env)) G _
      rw [he]
      intro v G' H' x S' r
      obtain ⟨ad, vs, rfl, ha', ka⟩ : ∃ ad vs, v = .ref ad ∧ LsX X.K G' ad vs ∧ DrA X.K G' vs ds := by
        have r : Dr X.K G' v (.list ds) := r
        cases r with | lst h k => exact ⟨_, _, rfl, h, k⟩
      exact ⟨ad, rfl, ⟨vs, ((Mo.of S'.gh).seq ha').seq⟩, q _ G' H' x S' (wk_list ha' ka)⟩
    | tuple ds =>
      refine .inr ⟨ioa, F, G, env, S, ?_⟩
      show oR X.K xa W (RV X.K) ioa F σ (valOf (ev c a env)) G _
      rw [he]
      intro v G' H' x S' r
      obtain ⟨ad, vs, rfl, ha', ka⟩ : ∃ ad vs, v = .ref ad ∧ G' ad = some (.tup vs) ∧ DrA X.K G' vs ds := by
        have r : Dr X.K G' v (.tuple ds) := r
        cases r with | tup h k => exact ⟨_, _, rfl, h, k⟩
      exact ⟨ad, rfl, ⟨vs, SqT.of (S'.gh _ _ ha')⟩, q _ G' H' x S' (wk_tup ha' ka)⟩
    | _ => exact q.elim
theorem star1 (h : ∀ e p, ea ≠ .Starred e p) : starEach [ea] X.env = [(false, eval ea X.env)] := no_star h [] X.env
theorem x_pa1 (ha : PE X ea (rdE X xa W (ev c a))) (h : ∀ e p, ea ≠ .Starred e p) : PA X [ea] (tR X.K xa W (RAs X.K) (evs c [a])) := x_cons ha x_nil (no_star h _ _)
theorem x_pa2 (ha : PE X ea (rdE X xa W (ev c a))) (hb : PE X eb (rdE X xa W (ev c b))) (h : ∀ e p, ea ≠ .Starred e p) (h2 : ∀ e p, eb ≠ .Starred e p) : PA X [ea, eb] (tR X.K xa W (RAs X.K) (evs c [a, b])) := x_cons ha (x_pa1 hb h2) (no_star h _ _)
theorem rng_ok {j : Int} (h : rngOk j = true) : -(2 ^ 62) ≤ j ∧ j < 2 ^ 62 := by
  unfold rngOk at h
  simpa using h
theorem src_r1 {p : Pos} (hg : Gl X "range") (hm : X.mg "range" = none) (ha : PE X ea (rdE X xa W (ev c a))) (h : ∀ e p, ea ≠ .Starred e p) : PI X tg (.Call (.Name "range" p) [ea] [] pos) (iSrc X xa W c .rng1 [a]) := by
  refine PI.imp (pi_range1 hg hm (x_pa1 ha h) (star1 h)) fun σ H R ⟨ioa, F, G, env, S, q⟩ => ?_
  refine ⟨ioa, F, G, env, S, oR_bind (Ra := RAs X.K) q fun ds e vs G1 H1 x1 S1 r1 q1 => ?_⟩
  have r1 : DrA X.K G1 vs ds := r1
  cases hw : walk .rng1 ds with
  | none => rw [hw] at q1; exact q1.elim
  | some xs =>
    rw [hw] at q1
    obtain ⟨j, rfl, hz, rfl⟩ := walk_r1 hw
    cases r1 with
    | cons h1 k1 =>
      cases k1
      cases h1
      exact ⟨j, rfl, (rng_ok hz).1, (rng_ok hz).2, q1 _ G1 H1 (Ext.refl _ _) S1 (wk_rng 0 _)⟩
theorem src_r2 {p : Pos} (hg : Gl X "range") (hm : X.mg "range" = none) (ha : PE X ea (rdE X xa W (ev c a))) (hb : PE X eb (rdE X xa W (ev c b))) (h : ∀ e p, ea ≠ .Starred e p) (h2 : ∀ e p, eb ≠ .Starred e p) :
    PI X tg (.Call (.Name "range" p) [ea, eb] [] pos) (iSrc X xa W c .rng2 [a, b]) := by
  refine PI.imp (pi_range2 hg hm (x_pa2 ha hb h h2) (by rw [no_star h, star1 h2]) (star1 h2)) fun σ H R ⟨ioa, F, G, env, S, q⟩ => ?_
  refine ⟨ioa, F, G, env, S, oR_bind (Ra := RAs X.K) q fun ds e vs G1 H1 x1 S1 r1 q1 => ?_⟩
  have r1 : DrA X.K G1 vs ds := r1
  cases hw : walk .rng2 ds with
  | none => rw [hw] at q1; exact q1.elim
  | some xs =>
    rw [hw] at q1
    obtain ⟨i, j, rfl, hi, hj, rfl⟩ := walk_r2 hw
    cases r1 with
    | cons h1 k1 =>
      cases k1 with
      | cons h2 k2 =>
        cases k2
        cases h1
        cases h2
        exact ⟨i, j, rfl, ⟨(rng_ok hi).1, (rng_ok hi).2, (rng_ok hj).1, (rng_ok hj).2⟩, q1 _ G1 H1 (Ext.refl _ _) S1 (wk_rng i _)⟩
/-! enumerate of a tuple: its two new cells -/
set_option maxHeartbeats 1000000 in
theorem meets_enum1 {v : Value} {o : Obj} {Hs : Heap → Prop} (B : Begins v o Hs) :
    Meets (Builtin.«enumerate.__new__» ⟨[.type "enumerate", v], []⟩) (fun _ R s => Hs s.heap ∧
      R (.ok (.ret (.ref (s.heap.push o).objs.size))) { s with heap := (s.heap.push o).push { cls := .type "enumerate", data := .fields #[.none, .bool false, .ref s.heap.objs.size, rawInt 0, .none, .none] } }) :=
  .of_wp fun prog w A R s h => by
    obtain ⟨h0, gg, dd, tt, oo⟩ := s
    obtain ⟨hB, h⟩ := h
    have se := sub_enumerate
    have goes : ∀ {A' : Around} {E' Q' : Value → Shared → Prop}, Q' (.ref h0.objs.size) ⟨h0.push o, gg, dd, tt, oo⟩ → wpAny (model prog w) A' (pyIter v) Q' E' ⟨h0, gg, dd, tt, oo⟩ :=
      fun z => B.iter _ _ _ _ _ _ hB z
    wp_walk using goes
    refine wpAny_stack_any fun _ => wpAny_pure ?_
    split
    · rename_i c _ _ _ _ _
      cases (c == Value.type "enumerate") <;> (wp_walk using goes; exact ⟨_, rfl, h⟩)
    · wp_walk using goes
      exact ⟨_, rfl, h⟩
theorem call_enum1 {prog : Program} {w : World} {A : Around} {E : Value → Shared → Prop} {s : Shared} {v : Value} {o : Obj} {Hs : Heap → Prop} {Q : Value → Shared → Prop} (B : Begins v o Hs) (hB : Hs s.heap)
    (h : ∀ h', IsEnum h' (s.heap.objs.size + 1) s.heap.objs.size 0 .none → h'.get? s.heap.objs.size = some o → (∀ b u, s.heap.get? b = some u → h'.get? b = some u) → Q (.ref (s.heap.objs.size + 1)) { s with heap := h' }) :
    wpAny (model prog w) A (call (.type "enumerate") [v]) Q E s := by
  refine callType_new F.called_enumerate (by decide) (F.typeCall_enumerate_1 _) (F.newCall_enumerate_1 _) (fun _ => F.args_object_init_2 _ _) F.entry_enumerate_new (meets_enum1 B) ⟨hB, ?_⟩
  have e1 : (s.heap.push o).objs.size = s.heap.objs.size + 1 := Heap.size_push ..
  show _ ∧ _
  rw [e1]
  have he : IsEnum ((s.heap.push o).push { cls := .type "enumerate", data := .fields #[.none, .bool false, .ref s.heap.objs.size, rawInt 0, .none, .none] }) (s.heap.objs.size + 1) s.heap.objs.size 0 .none := by
    have z := Heap.get?_push_size (s.heap.push o) (o := { cls := .type "enumerate", data := .fields #[.none, .bool false, .ref s.heap.objs.size, rawInt 0, .none, .none] }) rfl
    rwa [e1] at z
  exact ⟨⟨_, he, rfl⟩, h _ he (Heap.get?_push_of_some _ (Heap.get?_push_size _ B.free)) fun b u z => Heap.get?_push_of_some _ (Heap.get?_push_of_some _ z)⟩
def iEnumT (K : PySem.W.Frag) (ta : TA) : TI := fun σ H R => ta σ H fun vs H1 => ∃ a xs, vs = [.ref a] ∧ SqT K H1 a xs ∧ R (IteT K a) H1
theorem pi_enumT {e : Expr} {ta : TA} {p tpos : Pos} {elts : List Expr} {kk : Nat} (hg : Gl X "enumerate") (hm : X.mg "enumerate" = none) (ha : PA X [e] ta) (hs : starEach [e] X.env = [(false, eval e X.env)]) :
    PI X (.Tuple elts kk tpos) (.Call (.Name "enumerate" p) [e] [] pos) (iEnumT X.K ta) := by
  refine ⟨fun pins s σ H R I h => Call_ (ld_blt I hg hm boot_enumerate (PyProof.Rows.callWith_type1 (thn (ha.run pos pins s σ H _ I h) fun us s1 ⟨vs, H1, I1, r1, q1⟩ => ?_) hs rfl))⟩
  obtain ⟨a, xs, rfl, hq, q⟩ := q1
  obtain ⟨u, rfl, ru⟩ := vals1 r1
  obtain rfl : u = .ref a := ru
  obtain ⟨its, rv, p', hz⟩ := I1.tuple hq
  refine call_enum1 (begins_tuple a its.toArray) p' fun h' he hit hk => wpAny_pyIter_enum he ?_
  have I2 : Inv X pins σ H1 { s1 with heap := h' } := I1.kept (t' := s1.toks) hk
  refine ⟨s1.heap.objs.size + 1, [s1.heap.objs.size + 1, s1.heap.objs.size], _, _, H1, rfl, I2, turn_enumT a (s1.heap.objs.size + 1) s1.heap.objs.size, ⟨⟨.none, he⟩, ⟨_, hit, rfl, rfl⟩, Nat.succ_ne_self _⟩, fun b hb => ?_, q⟩
  have hle : s1.heap.objs.size ≤ b := by
    rcases List.mem_cons.mp hb with z | z
    · rw [z]; exact Nat.le_succ _
    · rw [List.mem_singleton.mp z]; exact Nat.le_refl _
  exact I1.fpOk hle (I1.hok.fresh hle)
theorem src_en {p tpos : Pos} {elts : List Expr} {kk : Nat} (hg : Gl X "enumerate") (hm : X.mg "enumerate" = none) (ha : PE X ea (rdE X xa W (ev c a))) (h : ∀ e p, ea ≠ .Starred e p) :
    PI X (.Tuple elts kk tpos) (.Call (.Name "enumerate" p) [ea] [] pos) (iSrc X xa W c .enum [a]) := by
  refine PI.imp (PI.or (pi_enum hg hm (x_pa1 ha h) (star1 h)) (pi_enumT hg hm (x_pa1 ha h) (star1 h))) fun σ H R ⟨ioa, F, G, env, S, q⟩ => ?_
  have q : oR X.K xa W (RI X.K) ioa F σ ((evs c [a] env).bind fun ws e => Rs.of (walk .enum ws) e) G R := q
  cases he : evs c [a] env with
  | no => rw [he] at q; exact q.elim
  | ex x e =>
    rw [he] at q
    refine .inl ⟨ioa, F, G, env, S, ?_⟩
    show oR X.K xa W (RAs X.K) ioa F σ (evs c [a] env) G _
    rw [he]
    exact q
  | ok ds e =>
    rw [he] at q
    have q : oR X.K xa W (RI X.K) ioa F σ (Rs.of (walk .enum ds) e) G R := q
    cases hw : walk .enum ds with
    | none => rw [hw] at q; exact q.elim
    | some xs =>
      rw [hw] at q
      obtain ⟨d, ys, rfl, hi, rfl⟩ := walk_en hw
      cases d with
      | list ds =>
        cases hi
        refine .inl ⟨ioa, F, G, env, S, ?_⟩
        show oR X.K xa W (RAs X.K) ioa F σ (evs c [a] env) G _
        rw [he]
        intro vs G' H' x S' r
        have r : DrA X.K G' vs [.list ys] := r
        cases r with
        | cons h1 k1 =>
          cases k1
          cases h1 with
          | lst h2 k2 => exact ⟨_, _, rfl, ((Mo.of S'.gh).seq h2).seq, q _ G' H' x S' (wk_enum h2 k2)⟩
      | tuple ds =>
        cases hi
        refine .inr ⟨ioa, F, G, env, S, ?_⟩
        show oR X.K xa W (RAs X.K) ioa F σ (evs c [a] env) G _
        rw [he]
        intro vs G' H' x S' r
        have r : DrA X.K G' vs [.tuple ys] := r
        cases r with
        | cons h1 k1 =>
          cases k1
          cases h1 with
          | tup h2 k2 => exact ⟨_, _, rfl, SqT.of (S'.gh _ _ h2), q _ G' H' x S' (wk_enumT h2 k2)⟩
      | _ => cases hi
/-! ### targets -/
/-- all names but these are left alone -/
def Left (vs : List Nat) (σ σ' : L2.St) : Prop := σ'.length = σ.length ∧ ∀ j, j ∉ vs → σ'[j]? = σ[j]?
mutual
def Tg.vs : Tg → List Nat
  | .v i => [i]
  | .t ts => tvs ts
def tvs : List Tg → List Nat
  | [] => []
  | t :: ts => t.vs ++ tvs ts
end
def tgT (X : Cx) (ns : List Nat) (f : D → Env → Option Env) : TG := fun v σ H Q => ∃ ioa F G env d, Sim X.K ioa F G env σ H ∧ Dr X.K G v d ∧ match f d env with
  | none => False
  | some e => ∀ σ' G' H', Left ns σ σ' → Ext F G G' → Sim X.K ioa F G' e σ' H' → Q σ' H'
def tgTs (X : Cx) (ns : List Nat) (f : List D → Env → Option Env) : TGs := fun vs σ H Q => ∃ ioa F G env ds, Sim X.K ioa F G env σ H ∧ DrA X.K G vs ds ∧ match f ds env with
  | none => False
  | some e => ∀ σ' G' H', Left ns σ σ' → Ext F G G' → Sim X.K ioa F G' e σ' H' → Q σ' H'
theorem PG.imp {t t' : TG} (h : PG X tg t) (k : ∀ v σ H Q, t' v σ H Q → t v σ H Q) : PG X tg t' := ⟨fun pins s σ H v u Q I r w => h.run pins s σ H v u Q I r (k v σ H Q w)⟩
theorem PGs.imp {ts : List Expr} {t t' : TGs} (h : PGs X ts t) (k : ∀ v σ H Q, t' v σ H Q → t v σ H Q) : PGs X ts t' := ⟨fun pins s σ H v u Q I r w => h.run pins s σ H v u Q I r (k v σ H Q w)⟩
theorem g_name {i : Nat} {x : Str} (hN : X.N.Nodup) (hi : X.N[i]? = some x) (hx : Loc X.env.scope x) (hf : X.fn x = true ∨ X.env.scope.names.lookup x = some .local) : PG X (.Name x pos) (tgT X (Tg.v i).vs (asg (.v i))) := by
  refine PG.imp (pg_name hN hi hx hf) fun v σ H Q ⟨ioa, F, G, env, d, S, r, q⟩ => ?_
  rw [asg] at q
  cases hp : putV i (.val d) env with
  | none => rw [hp] at q; exact q.elim
  | some e =>
    rw [hp] at q
    refine q _ G H ⟨List.length_set, fun j hj => ?_⟩ (Ext.refl _ _) (S.put (p := (false, d)) hp r)
    rw [List.getElem?_set_ne (fun e => hj (by rw [e]; simp [Tg.vs]))]
theorem gs_nil : PGs X [] (tgTs X (tvs []) (asgs [])) := by
  refine PGs.imp pgs_nil fun vs σ H Q ⟨ioa, F, G, env, ds, S, r, q⟩ => ?_
  cases r with
  | nil => exact ⟨rfl, q σ G H ⟨rfl, fun _ _ => rfl⟩ (Ext.refl _ _) S⟩
  | cons => exact q.elim
theorem gs_cons {t : Tg} {ts : List Tg} {es : List Expr} (h1 : PG X ea (tgT X t.vs (asg t))) (h2 : PGs X es (tgTs X (tvs ts) (asgs ts))) (hs : (assignEach (ea :: es) X.env).map (·.2) = assign ea X.env :: (assignEach es X.env).map (·.2)) : PGs X (ea :: es) (tgTs X (tvs (t :: ts)) (asgs (t :: ts))) := by
  refine PGs.imp (pgs_cons h1 h2 hs) fun vs σ H Q ⟨ioa, F, G, env, ds, S, r, q⟩ => ?_
  cases r with
  | nil => exact q.elim
  | cons hd kd =>
    rename_i v vs d ds _
    refine ⟨_, _, rfl, ioa, F, G, env, _, S, hd, ?_⟩
    have q : (match (asg t d env).bind (asgs ts ds) with
      | none => False
      | some e => ∀ σ' G' H', Left (tvs (t :: ts)) σ σ' → Ext F G G' → Sim X.K ioa F G' e σ' H' → Q σ' H') := q
    cases ha : asg t d env with
    | none => rw [ha] at q; exact q.elim
    | some e =>
      rw [ha] at q
      intro σ' G' H' l1 x S'
      refine ⟨ioa, F, G', e, ds, S', DrA.mono (.of x.1) _ kd, ?_⟩
      have q : (match asgs ts ds e with
        | none => False
        | some e => ∀ σ' G' H', Left (tvs (t :: ts)) σ σ' → Ext F G G' → Sim X.K ioa F G' e σ' H' → Q σ' H') := q
      cases hb : asgs ts ds e with
      | none => rw [hb] at q; exact q.elim
      | some e2 =>
        rw [hb] at q
        refine fun σ2 G2 H2 l2 x2 S2 => q σ2 G2 H2 ⟨l2.1.trans l1.1, fun j hj => ?_⟩ (x.trans x2) S2
        have hj' : j ∉ t.vs ∧ j ∉ tvs ts := by
          have : j ∉ t.vs ++ tvs ts := by simpa [tvs] using hj
          simpa using this
        rw [l2.2 j hj'.2, l1.2 j hj'.1]
theorem asgs_len : ∀ {ts : List Tg} {ds : List D} {env e : Env}, asgs ts ds env = some e → ts.length = ds.length
  | [], [], _, _, _ => rfl
  | [], _ :: _, _, _, h => by cases h
  | _ :: _, [], _, _, h => by cases h
  | t :: ts, d :: ds, env, e, h => by
    have h : (asg t d env).bind (asgs ts ds) = some e := h
    cases ha : asg t d env with
    | none => rw [ha] at h; cases h
    | some e1 =>
      rw [ha] at h
      exact congrArg (· + 1) (asgs_len (env := e1) (e := e) h)
theorem g_tup {ts : List Tg} {es : List Expr} {k : Nat} (hc : X.calm = true) (h : PGs X es (tgTs X (tvs ts) (asgs ts))) (hn : (assignEach es X.env).length = ts.length) (hst : (assignEach es X.env).findIdx? (·.1) = none) : PG X (.Tuple es k pos) (tgT X (Tg.t ts).vs (asg (.t ts))) := by
  refine PG.imp (pg_tup hc h hn hst) fun v σ H Q ⟨ioa, F, G, env, d, S, r, q⟩ => ?_
  cases d with
  | tuple ds =>
    cases r with
    | tup hG k =>
      have q : (match asgs ts ds env with
        | none => False
        | some e => ∀ σ' G' H', Left (Tg.t ts).vs σ σ' → Ext F G G' → Sim X.K ioa F G' e σ' H' → Q σ' H') := q
      refine ⟨_, _, rfl, SqT.of (S.gh _ _ hG), ?_, ioa, F, G, env, ds, S, k, q⟩
      cases ha : asgs ts ds env with
      | none => rw [ha] at q; exact q.elim
      | some e => rw [k.length]; exact (asgs_len ha).symm
  | _ => exact q.elim
end
end Rv
end
section
/-! Rv, part 18: comprehensions. -/
namespace Rv
open PySem PySem.Spec PyProof.Rows L2
theorem wipe_out {σ : L2.St} : ∀ {vs : List Nat} {j : Nat}, j ∉ vs → (wipe σ vs)[j]? = σ[j]?
  | [], _, _ => rfl
  | v :: vs, j, h => by
    unfold wipe
    rw [List.getElem?_set_ne (fun e => h (by rw [e]; exact List.mem_cons_self)), wipe_out (fun z => h (List.mem_cons_of_mem _ z))]
theorem wipe_in {σ : L2.St} : ∀ {vs : List Nat} {j : Nat}, j ∈ vs → j < σ.length → (wipe σ vs)[j]? = some none
  | v :: vs, j, h, hl => by
    unfold wipe
    by_cases e : v = j
    · subst e
      rw [List.getElem?_set_self (by rw [wipe_length]; exact hl)]
    · rw [List.getElem?_set_ne e]
      rcases List.mem_cons.mp h with z | z
      · exact absurd z.symm e
      · exact wipe_in z hl
theorem wipe_left {σ σ2 : L2.St} {vs ws : List Nat} (h : Left ws (wipe σ vs) σ2) (hw : ∀ i ∈ ws, i ∈ vs) : wipe σ2 vs = wipe σ vs := by
  apply List.ext_getElem?
  intro j
  have hl : σ2.length = σ.length := h.1.trans (wipe_length σ vs)
  by_cases hj : j ∈ vs
  · by_cases hlt : j < σ.length
    · rw [wipe_in hj hlt, wipe_in hj (by rw [hl]; exact hlt)]
    · rw [List.getElem?_eq_none (by rw [wipe_length, hl]; omega), List.getElem?_eq_none (by rw [wipe_length]; omega)]
  · rw [wipe_out hj, h.2 j fun z => hj (hw j z)]
theorem hide_spec : ∀ {own : List Nat} {e e1 : Env}, hide own e = some e1 → e1.length = e.length ∧ ∀ j, (j ∈ own → e1[j]? = some none ∧ ∀ s, e[j]? = some (some s) → s.mine = false) ∧ (j ∉ own → e1[j]? = e[j]?)
  | [], e, e1, h => by cases h; exact ⟨rfl, fun j => ⟨fun z => by simp at z, fun _ => rfl⟩⟩
  | i :: r, e, e1, h => by
    have h : ((hide r e).bind fun e => match e[i]? with
      | some none => some e
      | some (some (.val _)) => some (e.set i none)
      | _ => none) = some e1 := h
    cases h0 : hide r e with
    | none => rw [h0] at h; cases h
    | some e0 =>
      rw [h0] at h
      have h : (match e0[i]? with
        | some none => some e0
        | some (some (.val _)) => some (e0.set i none)
        | _ => none) = some e1 := h
      obtain ⟨l0, s0⟩ := hide_spec h0
      split at h
      · rename_i hi
        cases h
        refine ⟨l0, fun j => ⟨fun hj => ?_, fun hj => (s0 j).2 fun z => hj (List.mem_cons_of_mem _ z)⟩⟩
        by_cases hr : j ∈ r
        · exact (s0 j).1 hr
        · rcases List.mem_cons.mp hj with rfl | hj
          · refine ⟨hi, fun s hs => ?_⟩
            rw [(s0 j).2 hr, hs] at hi
            cases hi
          · exact absurd hj hr
      · rename_i d hi
        cases h
        refine ⟨by rw [List.length_set, l0], fun j => ⟨fun hj => ?_, fun hj => ?_⟩⟩
        · by_cases hij : i = j
          · subst hij
            refine ⟨List.getElem?_set_self (lt_of_get hi), fun s hs => ?_⟩
            by_cases hr : i ∈ r
            · exact ((s0 i).1 hr).2 s hs
            · rw [(s0 i).2 hr, hs] at hi
              cases hi
              rfl
          · rw [List.getElem?_set_ne hij]
            rcases List.mem_cons.mp hj with z | z
            · exact absurd z.symm hij
            · exact (s0 j).1 z
        · rw [List.getElem?_set_ne (fun e => hj (by rw [e]; exact List.mem_cons_self))]
          exact (s0 j).2 fun z => hj (List.mem_cons_of_mem _ z)
      · cases h
theorem unhide_spec : ∀ {own : List Nat} {old env : Env}, (unhide own old env).length = env.length ∧ ∀ j, (j ∈ own → ∀ s, old[j]? = some s → j < env.length → (unhide own old env)[j]? = some s) ∧ (j ∉ own → (unhide own old env)[j]? = env[j]?)
  | [], old, env => ⟨rfl, fun j => ⟨fun z => by simp at z, fun _ => rfl⟩⟩
  | i :: r, old, env => by
    obtain ⟨l0, s0⟩ := @unhide_spec r old env
    have e : unhide (i :: r) old env = match old[i]? with
      | some s => (unhide r old env).set i s
      | none => unhide r old env := rfl
    rw [e]
    cases hi : old[i]? with
    | none =>
      refine ⟨l0, fun j => ⟨fun hj s hs hl => ?_, fun hj => (s0 j).2 fun z => hj (List.mem_cons_of_mem _ z)⟩⟩
      rcases List.mem_cons.mp hj with rfl | hj
      · rw [hi] at hs; cases hs
      · exact (s0 j).1 hj s hs hl
    | some s1 =>
      refine ⟨by show ((unhide r old env).set i s1).length = _; rw [List.length_set, l0], fun j => ⟨fun hj s hs hl => ?_, fun hj => ?_⟩⟩
      · show ((unhide r old env).set i s1)[j]? = _
        by_cases hij : i = j
        · subst hij
          rw [List.getElem?_set_self (by rw [l0]; exact hl)]
          rw [hi] at hs
          exact hs
        · rw [List.getElem?_set_ne hij]
          rcases List.mem_cons.mp hj with z | z
          · exact absurd z.symm hij
          · exact (s0 j).1 z s hs hl
      · show ((unhide r old env).set i s1)[j]? = _
        rw [List.getElem?_set_ne (fun e => hj (by rw [e]; exact List.mem_cons_self))]
        exact (s0 j).2 fun z => hj (List.mem_cons_of_mem _ z)
section
variable {K : PySem.W.Frag} {ioa : Nat → Addr} {F G : Hp} {e e1 : Env} {σ : L2.St} {H : Hp}
theorem Sim.hide {own : List Nat} (S : Sim K ioa F G e σ H) (h : Rv.hide own e = some e1) : Sim K ioa F G e1 (wipe σ own) H := by
  obtain ⟨l, sp⟩ := hide_spec h
  have out : ∀ {j s}, e1[j]? = some (some s) → j ∉ own ∧ e[j]? = some (some s) := fun {j s} z => by
    have hj : j ∉ own := fun hj => by
      rw [((sp j).1 hj).1] at z
      cases z
    exact ⟨hj, by rw [← (sp j).2 hj]; exact z⟩
  refine ⟨by rw [l, wipe_length]; exact S.len, S.fh, S.gh, fun j s z => ?_, fun j d z => ?_, fun j k a ⟨s, z, m⟩ ⟨s', z', m'⟩ ej ek => ?_⟩
  · rw [wipe_out (out z).1]; exact S.sl j s (out z).2
  · rw [wipe_out (out z).1]; exact S.io j d (out z).2
  · rw [wipe_out (out z).1] at ej
    rw [wipe_out (out z').1] at ek
    exact S.ap j k a ⟨s, (out z).2, m⟩ ⟨s', (out z').2, m'⟩ ej ek
theorem Sim.unhide {own : List Nat} {F0 G0 H0 : Hp} {e9 : Env} (S0 : Sim K ioa F0 G0 e σ H0) (h : Rv.hide own e = some e1) (S : Sim K ioa F G e9 (wipe σ own) H) (m : Same G0 G) : Sim K ioa F G (Rv.unhide own e e9) σ H := by
  obtain ⟨l, sp⟩ := hide_spec h
  obtain ⟨l9, s9⟩ := @unhide_spec own e e9
  have hl : e9.length = σ.length := S.len.trans (wipe_length σ own)
  have cs : ∀ {j s}, (Rv.unhide own e e9)[j]? = some (some s) → (j ∈ own ∧ e[j]? = some (some s) ∧ s.mine = false) ∨ (j ∉ own ∧ e9[j]? = some (some s)) := fun {j s} z => by
    by_cases hj : j ∈ own
    · have hlt : j < e9.length := by rw [← l9]; exact lt_of_get z
      have hle : j < e.length := by rw [S0.len, ← hl]; exact hlt
      have z2 := (s9 j).1 hj _ (List.getElem?_eq_getElem hle) hlt
      rw [z2] at z
      have z3 : e[j]? = some (some s) := by rw [List.getElem?_eq_getElem hle]; exact z
      exact .inl ⟨hj, z3, ((sp j).1 hj).2 s z3⟩
    · exact .inr ⟨hj, by rw [← (s9 j).2 hj]; exact z⟩
  refine ⟨by rw [l9]; exact hl, S.fh, S.gh, fun j s z => ?_, fun j d z => ?_, fun j k a ⟨s, z, mm⟩ ⟨s', z', mm'⟩ ej ek => ?_⟩
  · rcases cs z with ⟨hj, z2, z3⟩ | ⟨hj, z2⟩
    · obtain ⟨v, h1, h2⟩ := S0.sl j s z2
      refine ⟨v, h1, ?_⟩
      cases s with
      | val d => exact Dr.mono (.of m) _ h2
      | own d => cases z3
      | io d => cases z3
    · have := S.sl j s z2
      rw [wipe_out hj] at this
      exact this
  · rcases cs z with ⟨hj, z2, z3⟩ | ⟨hj, z2⟩
    · cases z3
    · have := S.io j d z2
      rw [wipe_out hj] at this
      exact this
  · rcases cs z with ⟨hj, z2, z3⟩ | ⟨hj, z2⟩
    · rw [mm] at z3; cases z3
    · rcases cs z' with ⟨hj', z2', z3'⟩ | ⟨hj', z2'⟩
      · rw [mm'] at z3'; cases z3'
      · exact S.ap j k a ⟨s, z2, mm⟩ ⟨s', z2', mm'⟩ (by rw [wipe_out hj]; exact ej) (by rw [wipe_out hj']; exact ek)
/-- the guarded object changes -/
theorem Sim.reguard {D : Addr} {o o' : HO} (hF : F D = none) (hG : G D = none) (S : Sim K ioa (upd F D o) G e σ H) : Sim K ioa (upd F D o') G e σ (upd H D o') := by
  refine ⟨S.len, fun b u h => ?_, fun b u h => ?_, fun j s z => ?_, S.io, S.ap⟩
  · by_cases hb : b = D
    · subst hb; rw [upd_same] at h ⊢; exact h
    · rw [upd_ne hb] at h ⊢; exact S.fh b u (by rw [upd_ne hb]; exact h)
  · rw [upd_ne (fun z => by subst z; rw [hG] at h; cases h)]; exact S.gh b u h
  · obtain ⟨v, h1, h2⟩ := S.sl j s z
    refine ⟨v, h1, ?_⟩
    cases hs : s.mine with
    | false =>
      cases s with
      | val d => exact h2
      | own _ => cases hs
      | io _ => cases hs
    | true =>
      obtain ⟨a, rfl, f1, g1, o1, ho1, t1⟩ := (SlOk.own hs).mp h2
      obtain ⟨f2, ne⟩ := upd_none f1
      exact (SlOk.own hs).mpr ⟨a, rfl, by rw [upd_ne ne]; exact f2, g1, o1, by rw [upd_ne ne]; exact ho1, t1⟩
end
theorem turns_cons {f : D → Env → Rs (Option D)} {d : D} {ds r : List D} {e e9 : Env} (h : turns f (d :: ds) e = .ok r e9) : ∃ o e1 r', f d e = .ok o e1 ∧ turns f ds e1 = .ok r' e9 ∧ r = o.toList ++ r' := by
  have h : (match f d e with
    | .ok o e1 => match turns f ds e1 with
      | .ok r e2 => .ok (o.toList ++ r) e2
      | _ => .no
    | _ => .no) = Rs.ok r e9 := h
  cases h1 : f d e with
  | no => rw [h1] at h; cases h
  | ex x e => rw [h1] at h; cases h
  | ok o e1 =>
    rw [h1] at h
    have h : (match turns f ds e1 with
      | .ok r e2 => .ok (o.toList ++ r) e2
      | _ => .no) = Rs.ok r e9 := h
    cases h2 : turns f ds e1 with
    | no => rw [h2] at h; cases h
    | ex x e => rw [h2] at h; cases h
    | ok r' e2 =>
      rw [h2] at h
      cases h
      exact ⟨o, e1, r', rfl, h2, rfl⟩
theorem cTurn_ok {own : List Nat} {tg : Tg} {body : Env → Rs (Option D)} {x : D} {e e4 : Env} {o : Option D} (h : cTurn own tg body x e = .ok o e4) : ∃ e1 e3, asg tg x e = some e1 ∧ body e1 = .ok o e3 ∧ hide own e3 = some e4 := by
  unfold cTurn at h
  split at h
  · rename_i e1 h1
    obtain ⟨o', e3, h2, h3⟩ := Rs.bind_ok h
    unfold turnEnd at h3
    split at h3
    · rename_i e' h4
      cases h3
      exact ⟨e1, e3, h1, h2, h4⟩
    · cases h3
  · cases h
section
variable {X : Cx} {xa : XA} {W : WX} {c : Cal}
/-- a turn's body, by its reading -/
def BodyOk (K : PySem.W.Frag) (body : Env → Rs (Option D)) (tt : TT) (te : TE) : Prop := ∀ ioa F G e1 σ2 H2 e3 o (P : Hp → Prop) (P' : V → Hp → Prop), Sim K ioa F G e1 σ2 H2 → body e1 = .ok o e3 →
  (∀ H3 G3, Ext F G G3 → Sim K ioa F G3 e3 σ2 H3 → (o = none → P H3) ∧ ∀ y d, o = some d → Dr K G3 y d → P' y H3) → tt σ2 H2 fun b H3 => if b = true then te σ2 H3 P' else P H3
theorem comp_core {s : Src} {it : List Ex} {own : List Nat} {tg : Tg} {body : Env → Rs (Option D)} {tt : TT} {te : TE} (hv : ∀ i ∈ tg.vs, i ∈ own) (hb : BodyOk X.K body tt te) {σ : L2.St} {H : Hp} {Q : VK}
    (q : rdE X xa W (fun env => (evs c it env).bind fun ws e => runComp own (cTurn own tg body) (walk s ws) e) σ H Q) : tLc (iSrc X xa W c s it) (tgT X tg.vs (asg tg)) tt te own σ H Q := by
  obtain ⟨ioa, F, G, env, S, q⟩ := q
  refine ⟨ioa, F, G, env, S, ?_⟩
  have q : oR X.K xa W (RE X.K) ioa F σ ((evs c it env).bind fun ws e => runComp own (cTurn own tg body) (walk s ws) e) G Q := q
  show oR X.K xa W (RI X.K) ioa F σ ((evs c it env).bind fun ws e => Rs.of (walk s ws) e) G _
  revert q
  cases evs c it env with
  | no => exact fun q => q
  | ex x e => exact fun q => q
  | ok ws e =>
    intro q
    have q : oR X.K xa W (RE X.K) ioa F σ (runComp own (cTurn own tg body) (walk s ws) e) G Q := q
    show oR X.K xa W (RI X.K) ioa F σ (Rs.of (walk s ws) e) G _
    cases hw : walk s ws with
    | none =>
      rw [hw] at q
      exact q
    | some xs =>
      rw [hw] at q
      cases hh : hide own e with
      | none =>
        have : runComp own (cTurn own tg body) (some xs) e = .no := by unfold runComp; rw [hh]
        rw [this] at q
        exact q.elim
      | some e1 =>
        have hr : runComp own (cTurn own tg body) (some xs) e = (turns (cTurn own tg body) xs e1).bind fun ys e9 => if small ys.length then .ok (true, .list ys) (unhide own e e9) else .no := by unfold runComp; rw [hh]
        rw [hr] at q
        cases ht : turns (cTurn own tg body) xs e1 with
        | no => rw [ht] at q; exact q.elim
        | ex x e' => exact absurd ht (by
            clear q ht hr
            revert e1
            induction xs with
            | nil => intro e1 _ h; cases h
            | cons d ds ih =>
              intro e1 _ h
              have h : (match cTurn own tg body d e1 with
                | .ok o e1 => match turns (cTurn own tg body) ds e1 with
                  | .ok r e2 => .ok (o.toList ++ r) e2
                  | _ => .no
                | _ => .no) = Rs.ex x e' := h
              split at h
              · split at h <;> cases h
              · cases h)
        | ok ys e9 =>
          rw [ht] at q
          have q : oR X.K xa W (RE X.K) ioa F σ (if small ys.length then .ok (true, .list ys) (unhide own e e9) else .no) G Q := q
          by_cases hz : small ys.length = true
          · rw [if_pos hz] at q
            intro J G1 H1 x1 S1 wk D hD
            have wk : Wk X.K G1 xs J := wk
            obtain ⟨fF, fG, fm⟩ := S1.free hD
            -- the invariant
            refine ⟨fun i m H' => m = xs.length - i ∧ i ≤ xs.length ∧ ∃ G' env' acc ds r, Sim X.K ioa (upd F D (.lst acc)) G' env' (wipe σ own) H' ∧ Ext F G1 G' ∧ G' D = none ∧ DrA X.K G' acc ds ∧ turns (cTurn own tg body) (xs.drop i) env' = .ok r e9 ∧ ys = ds ++ r, ⟨xs.length, ?_⟩, ?_⟩
            · refine ⟨by omega, Nat.zero_le _, G1, e1, [], [], ys, ?_, Ext.refl _ _, fG, .nil, ht, rfl⟩
              have Sh : Sim X.K ioa F G1 e1 (wipe σ own) (upd H1 D (.lst [])) := (S1.new (o := .lst []) hD).hide hh
              refine Sh.guard fF upd_same fun i ⟨s, z, m⟩ hs => ?_
              obtain ⟨l, sp⟩ := hide_spec hh
              have hj : i ∉ own := fun hj => by rw [((sp i).1 hj).1] at z; cases z
              rw [wipe_out hj] at hs
              exact fm i ⟨s, by rw [← (sp i).2 hj]; exact z, m⟩ hs
            · rintro i m H' ⟨hm, hi, G', env', acc, ds, r, S', x', gD, kd, htr, hys⟩
              have hw' := wk ioa _ G' env' (wipe σ own) H' i x'.1 S'
              by_cases he : i = xs.length
              · left
                refine ⟨hw'.1 he, ?_⟩
                rw [he, List.drop_length] at htr
                cases htr
                rw [List.append_nil] at hys
                subst hys
                obtain ⟨Su, hHD, hmD⟩ := S'.unguard fF
                have S9 := Sim.unhide S1 hh Su x'.1
                refine q _ G' H' (x1.trans x') S9 ?_
                show Fresh X.K F G' _ σ H' (.ref D) _
                refine ⟨D, rfl, fF, gD, ⟨.lst acc, hHD, .lst kd⟩, fun j ⟨s, z, mm⟩ hs => ?_⟩
                obtain ⟨v, h1, h2⟩ := S9.sl j s z
                rw [hs] at h1
                cases h1
                have hj : j ∉ own := fun hj => by
                  obtain ⟨l, sp⟩ := hide_spec hh
                  have hlt : j < e9.length := by
                    have := lt_of_get z
                    rw [(@unhide_spec own e e9).1] at this
                    exact this
                  have hle : j < e.length := by
                    rw [S1.len]
                    have := S'.len
                    rw [wipe_length] at this
                    omega
                  have z2 := ((@unhide_spec own e e9).2 j).1 hj _ (List.getElem?_eq_getElem hle) hlt
                  rw [z2] at z
                  have := ((sp j).1 hj).2 s (by rw [List.getElem?_eq_getElem hle]; exact z)
                  rw [mm] at this
                  cases this
                have z3 : e9[j]? = some (some s) := by rw [← ((@unhide_spec own e e9).2 j).2 hj]; exact z
                exact hmD j ⟨s, z3, mm⟩ (by rw [wipe_out hj]; exact hs)
              · right
                have hlt : i < xs.length := by omega
                have hx : xs[i]? = some xs[i] := List.getElem?_eq_getElem hlt
                have hdrop : xs.drop i = xs[i] :: xs.drop (i + 1) := List.drop_eq_getElem_cons hlt
                rw [hdrop] at htr
                obtain ⟨o, e4, r', h1, h2, h3⟩ := turns_cons htr
                obtain ⟨ea, e3, ha, hbd, hhd⟩ := cTurn_ok h1
                obtain ⟨go, yl⟩ := hw'.2 _ hx
                refine ⟨go, fun H'' => ∃ m', m' < m ∧ m' = xs.length - (i + 1) ∧ i + 1 ≤ xs.length ∧ ∃ G' env' acc ds r, Sim X.K ioa (upd F D (.lst acc)) G' env' (wipe σ own) H'' ∧ Ext F G1 G' ∧ G' D = none ∧ DrA X.K G' acc ds ∧ turns (cTurn own tg body) (xs.drop (i + 1)) env' = .ok r e9 ∧ ys = ds ++ r,
                  fun H'' ⟨m', z1, z2⟩ => ⟨m', z1, z2⟩, fun v H'' hy => ?_⟩
                obtain ⟨G2, x2, S2, r2⟩ := yl v H'' hy
                refine ⟨ioa, _, G2, env', _, S2, r2, ?_⟩
                rw [ha]
                intro σ3 G3 H3 left x3 S3
                have hwl := wipe_left left hv
                refine ⟨hwl, hb ioa _ G3 ea σ3 H3 e3 o _ _ S3 hbd fun H4 G4 x4 S4 => ?_⟩
                have x34 : Ext (upd F D (.lst acc)) G' G4 := (x2.trans x3).trans x4
                have gD4 : G4 D = none := by
                  rcases x34.2 D (by rw [upd_same]; simp) with z | ⟨zs, z⟩
                  · rw [z]; exact gD
                  · have := S4.gh D _ z
                    rw [S4.fh D _ upd_same] at this
                    cases this
                have xF : Ext F G1 G4 := x'.trans (x34.unguard fF)
                have Sh : Sim X.K ioa (upd F D (.lst acc)) G4 e4 (wipe σ own) H4 := by
                  have := S4.hide hhd
                  rw [hwl] at this
                  exact this
                refine ⟨fun ho => ?_, fun y d ho hyd => ?_⟩
                · subst ho
                  exact ⟨_, by omega, rfl, hlt, G4, e4, acc, ds, r', Sh, xF, gD4, DrA.mono (.of x34.1) _ kd, h2, by rw [hys, h3]; rfl⟩
                · subst ho
                  have hlen : ys.length = ds.length + (1 + r'.length) := by rw [hys, h3]; simp; omega
                  have hzl := small_le hz
                  refine ⟨acc, S4.fh D _ upd_same, by rw [kd.length]; omega, _, by omega, rfl, hlt, G4, e4, acc ++ [y], ds ++ [d], r', Sh.reguard fF gD4, xF, gD4, (DrA.mono (.of x34.1) _ kd).append (.cons hyd .nil), h2, by rw [hys, h3]; simp⟩
          · rw [if_neg hz] at q; exact q.elim
/-- the element alone -/
theorem body1 {elt : Ex} : BodyOk X.K (bodyOf (ev c elt)) tYes (tR X.K xa W0 (RV X.K) fun env => valOf (ev c elt env)) := by
  intro ioa F G e1 σ2 H2 e3 o P P' S hb hq
  show tR X.K xa W0 (RV X.K) (fun env => valOf (ev c elt env)) σ2 H2 P'
  refine ⟨ioa, F, G, e1, S, ?_⟩
  show oR X.K xa W0 (RV X.K) ioa F σ2 (valOf (ev c elt e1)) G P'
  unfold bodyOf at hb
  obtain ⟨y, e2, h1, h2⟩ := Rs.bind_ok hb
  cases h2
  rw [h1]
  exact fun v G' H' x S' r => (hq H' G' x S').2 v y rfl r
/-- .. behind a test -/
theorem body2 {cond elt : Ex} : BodyOk X.K (bodyIf (brw cond (ev c cond)) (ev c elt)) (tTr X xa W0 fun env => brw cond (ev c cond) env) (tR X.K xa W0 (RV X.K) fun env => valOf (ev c elt env)) := by
  intro ioa F G e1 σ2 H2 e3 o P P' S hb hq
  refine ⟨ioa, F, G, e1, S, ?_⟩
  show oR X.K xa W0 RK ioa F σ2 (tst (brw cond (ev c cond) e1)) G _
  unfold bodyIf at hb
  obtain ⟨b, e2, h1, h2⟩ := Rs.bind_ok hb
  rw [h1]
  show oR X.K xa W0 RK ioa F σ2 (Rs.of (tru b) e2) G _
  cases ht : tru b with
  | none => rw [ht] at h2; cases h2
  | some k =>
    rw [ht] at h2
    intro k' G' H' x S' r
    have r : k' = k := r
    subst r
    cases k' with
    | false =>
      cases h2
      exact (hq H' G' x S').1 rfl
    | true =>
      obtain ⟨y, e4, h4, h5⟩ := Rs.bind_ok h2
      cases h5
      refine ⟨ioa, F, G', e2, S', ?_⟩
      show oR X.K xa W0 (RV X.K) ioa F σ2 (valOf (ev c elt e2)) G' P'
      rw [h4]
      exact fun v G2 H2 x2 S2 r2 => (hq H2 G2 (x.trans x2) S2).2 v y rfl r2
theorem x_comp {s : Src} {it : List Ex} {elt : Ex} {tg : Tg} {own : List (Str × Nat)} {eelt etg iter : Expr} {scope : Scope} {pos : Pos} (hc : X.calm = true) (hN : X.N.Nodup) (hi : PI X etg iter (iSrc X xa W c s it)) (ok : BlkOk X.N X.env.scope scope own)
    (hv : ∀ i ∈ tg.vs, i ∈ own.map (·.2)) (hg : ∀ (s : Shared) (H : Hp) (C : Addr) (cl : List (Str × Addr)) (fp : List Addr), PG (X.blk s H scope (compEnvC scope cl C X.env) fp) etg (tgT X tg.vs (asg tg)))
    (he : ∀ (s : Shared) (H : Hp) (C : Addr) (cl : List (Str × Addr)) (fp : List Addr), PE (X.blk s H scope (compEnvC scope cl C X.env) fp) eelt (rdE X xa W0 (ev c elt))) (hs : ∀ x, foldedSetIterable iter X.env x = pure x) :
    PE X (.ListComp eelt [⟨etg, iter, [], 0⟩] scope pos) (rdE X xa W (ev c (.comp (own.map (·.2)) tg s it elt))) := by
  refine PE.imp (pe_lc (te := tR X.K xa W0 (RV X.K) fun env => valOf (ev c elt env)) hc hN hi ok hg (fun _ _ _ _ _ => pts_nil) (fun s H C cl fp => pe_val (he s H C cl fp)) hs) fun σ H Q ⟨ioa, F, G, env, S, q⟩ => ?_
  rw [ev] at q
  exact comp_core hv (body1 (xa := xa)) ⟨ioa, F, G, env, S, q⟩
theorem x_compIf {s : Src} {it : List Ex} {elt cond : Ex} {tg : Tg} {own : List (Str × Nat)} {eelt etg iter econd : Expr} {scope : Scope} {pos : Pos} (hc : X.calm = true) (hN : X.N.Nodup) (hi : PI X etg iter (iSrc X xa W c s it)) (ok : BlkOk X.N X.env.scope scope own)
    (hv : ∀ i ∈ tg.vs, i ∈ own.map (·.2)) (hg : ∀ (s : Shared) (H : Hp) (C : Addr) (cl : List (Str × Addr)) (fp : List Addr), PG (X.blk s H scope (compEnvC scope cl C X.env) fp) etg (tgT X tg.vs (asg tg)))
    (ht : ∀ (s : Shared) (H : Hp) (C : Addr) (cl : List (Str × Addr)) (fp : List Addr), PT (X.blk s H scope (compEnvC scope cl C X.env) fp) econd (tTr X xa W0 fun env => brw cond (ev c cond) env))
    (he : ∀ (s : Shared) (H : Hp) (C : Addr) (cl : List (Str × Addr)) (fp : List Addr), PE (X.blk s H scope (compEnvC scope cl C X.env) fp) eelt (rdE X xa W0 (ev c elt))) (hs : ∀ x, foldedSetIterable iter X.env x = pure x) :
    PE X (.ListComp eelt [⟨etg, iter, [econd], 0⟩] scope pos) (rdE X xa W (ev c (.compIf (own.map (·.2)) tg s it cond elt))) := by
  refine PE.imp (pe_lc (te := tR X.K xa W0 (RV X.K) fun env => valOf (ev c elt env)) hc hN hi ok hg (fun s H C cl fp => pts_one (ht s H C cl fp)) (fun s H C cl fp => pe_val (he s H C cl fp)) hs) fun σ H Q ⟨ioa, F, G, env, S, q⟩ => ?_
  rw [ev] at q
  exact comp_core hv (body2 (xa := xa)) ⟨ioa, F, G, env, S, q⟩
/-- name = [..] on one line -/
theorem s_comp {i : Nat} {y : Str} {py : Pos} {s : Src} {it : List Ex} {elt : Ex} {tg : Tg} {own : List (Str × Nat)} {eelt etg iter : Expr} {scope : Scope} {pos spos : Pos} (hc : X.calm = true) (hN : X.N.Nodup) (hy : X.N[i]? = some y) (hyl : X.env.scope.names.lookup y = some .local)
    (hsw : swapsWith (.ListComp eelt [⟨etg, iter, [], 0⟩] scope pos) (some (.Name y py)) spos.line X.env = pure true) (hi : PI X etg iter (iSrc X xa W c s it)) (ok : BlkOk X.N X.env.scope scope own)
    (hv : ∀ i ∈ tg.vs, i ∈ own.map (·.2)) (hg : ∀ (s : Shared) (H : Hp) (C : Addr) (cl : List (Str × Addr)) (fp : List Addr), PG (X.blk s H scope (compEnvC scope cl C X.env) fp) etg (tgT X tg.vs (asg tg)))
    (he : ∀ (s : Shared) (H : Hp) (C : Addr) (cl : List (Str × Addr)) (fp : List Addr), PE (X.blk s H scope (compEnvC scope cl C X.env) fp) eelt (rdE X xa W0 (ev c elt))) (hs : ∀ x, foldedSetIterable iter X.env x = pure x) :
    PS X (.Assign [.Name y py] (.ListComp eelt [⟨etg, iter, [], 0⟩] scope pos) spos) (tAsg (rdE X xa W (ev c (.comp (own.map (·.2)) tg s it elt))) (gName i)) := by
  refine PS.imp (ps_setLc (te := tR X.K xa W0 (RV X.K) fun env => valOf (ev c elt env)) hc hN hy hyl hsw hi ok hg (fun _ _ _ _ _ => pts_nil) (fun s H C cl fp => pe_val (he s H C cl fp)) hs) fun D σ H ⟨ioa, F, G, env, S, q⟩ => ?_
  rw [ev] at q
  exact comp_core hv (body1 (xa := xa)) ⟨ioa, F, G, env, S, q⟩
theorem s_compIf {i : Nat} {y : Str} {py : Pos} {s : Src} {it : List Ex} {elt cond : Ex} {tg : Tg} {own : List (Str × Nat)} {eelt etg iter econd : Expr} {scope : Scope} {pos spos : Pos} (hc : X.calm = true) (hN : X.N.Nodup) (hy : X.N[i]? = some y) (hyl : X.env.scope.names.lookup y = some .local)
    (hsw : swapsWith (.ListComp eelt [⟨etg, iter, [econd], 0⟩] scope pos) (some (.Name y py)) spos.line X.env = pure true) (hi : PI X etg iter (iSrc X xa W c s it)) (ok : BlkOk X.N X.env.scope scope own)
    (hv : ∀ i ∈ tg.vs, i ∈ own.map (·.2)) (hg : ∀ (s : Shared) (H : Hp) (C : Addr) (cl : List (Str × Addr)) (fp : List Addr), PG (X.blk s H scope (compEnvC scope cl C X.env) fp) etg (tgT X tg.vs (asg tg)))
    (ht : ∀ (s : Shared) (H : Hp) (C : Addr) (cl : List (Str × Addr)) (fp : List Addr), PT (X.blk s H scope (compEnvC scope cl C X.env) fp) econd (tTr X xa W0 fun env => brw cond (ev c cond) env))
    (he : ∀ (s : Shared) (H : Hp) (C : Addr) (cl : List (Str × Addr)) (fp : List Addr), PE (X.blk s H scope (compEnvC scope cl C X.env) fp) eelt (rdE X xa W0 (ev c elt))) (hs : ∀ x, foldedSetIterable iter X.env x = pure x) :
    PS X (.Assign [.Name y py] (.ListComp eelt [⟨etg, iter, [econd], 0⟩] scope pos) spos) (tAsg (rdE X xa W (ev c (.compIf (own.map (·.2)) tg s it cond elt))) (gName i)) := by
  refine PS.imp (ps_setLc (te := tR X.K xa W0 (RV X.K) fun env => valOf (ev c elt env)) hc hN hy hyl hsw hi ok hg (fun s H C cl fp => pts_one (ht s H C cl fp)) (fun s H C cl fp => pe_val (he s H C cl fp)) hs) fun D σ H ⟨ioa, F, G, env, S, q⟩ => ?_
  rw [ev] at q
  exact comp_core hv (body2 (xa := xa)) ⟨ioa, F, G, env, S, q⟩
end
end Rv
end
section
/-! Rv, part 19: statements. -/
namespace Rv
open PySem PySem.Spec PyProof.Rows L2
section
variable (K : PySem.W.Frag) (xa : XA) (W : WX)
def oS (ioa : Nat → Addr) (F : Hp) (o : Ou) (G : Hp) (D : Ends) : Prop :=
  match o with
  | .no => False
  | .nx e => ∀ σ' G' H', Ext F G G' → Sim K ioa F G' e σ' H' → D.nx σ' H'
  | .rt d e => ∀ v σ' G' H', Ext F G G' → Sim K ioa F G' e σ' H' → Dr K G' v d → D.rt v H'
  | .ex x e => ∀ cl dd σ' G' H', Ext F G G' → Sim K ioa F G' e σ' H' → xa G' H' x cl dd → W cl dd σ' H'
/-- the reading of statements -/
def tS (f : Env → Ou) : TS := fun D σ H => ∃ ioa F G env, Sim K ioa F G env σ H ∧ oS K xa W ioa F (f env) G D
end
section
variable {K : PySem.W.Frag} {xa : XA} {W : WX} {ioa : Nat → Addr} {F G G' : Hp} {env : Env} {σ : L2.St} {H : Hp} {D : Ends}
theorem oS_ext {o : Ou} (x : Ext F G G') (h : oS K xa W ioa F o G D) : oS K xa W ioa F o G' D := by
  cases o with
  | no => exact h
  | nx e => exact fun σ2 G2 H2 x2 => h σ2 G2 H2 (x.trans x2)
  | rt d e => exact fun v σ2 G2 H2 x2 => h v σ2 G2 H2 (x.trans x2)
  | ex y e => exact fun cl dd σ2 G2 H2 x2 => h cl dd σ2 G2 H2 (x.trans x2)
theorem oS_bind {α γ : Type} {Ra : Rk α γ} {r : Rs α} {k : α → Env → Ou} {R : γ → Hp → Prop} (q : oS K xa W ioa F (r.ou k) G D)
    (h : ∀ p e v G' H', Ext F G G' → Sim K ioa F G' e σ H' → Ra F G' e σ H' p v → oS K xa W ioa F (k p e) G' D → R v H') : oR K xa W Ra ioa F σ r G R := by
  cases r with
  | no => exact q
  | ex x e => exact fun cl dd G' H' xx S' xz => q cl dd σ G' H' xx S' xz
  | ok p e => exact fun v G' H' x S r => h p e v G' H' x S r (oS_ext x q)
theorem oS_nx {e : Env} (q : oS K xa W ioa F (.nx e) G D) (S : Sim K ioa F G e σ H) : D.nx σ H := q σ G H (Ext.refl _ _) S
/-- one after another -/
theorem oS_nxt {o : Ou} {f : Env → Ou} {N : L2.St → Hp → Prop} {bk ct : L2.St → Hp → Prop} (q : oS K xa W ioa F (o.nxt f) G D) (h : ∀ e σ' G' H', Ext F G G' → Sim K ioa F G' e σ' H' → oS K xa W ioa F (f e) G' D → N σ' H') :
    oS K xa W ioa F o G { nx := N, rt := D.rt, bk := bk, ct := ct } := by
  cases o with
  | no => exact q
  | nx e => exact fun σ' G' H' x S => h e σ' G' H' x S (oS_ext x q)
  | rt d e => exact q
  | ex x e => exact q
end
section
variable {X : Cx} {xa : XA} {W : WX} {c : Cal} {a b z : Ex} {ea eb ez : Expr} {pos : Pos}
abbrev rdS (X : Cx) (xa : XA) (W : WX) (f : Env → Ou) : TS := tS X.K xa W f
theorem ss_nil : PSs X [] (rdS X xa W (exs c [])) := by
  refine PSs.imp pss_nil fun D σ H ⟨ioa, F, G, env, S, q⟩ => ?_
  rw [exs] at q
  exact oS_nx q S
theorem ss_cons {s : Sm} {ss : List Sm} {st : Stmt} {sts : List Stmt} (h1 : PS X st (rdS X xa W (ex1 c s))) (h2 : PSs X sts (rdS X xa W (exs c ss))) : PSs X (st :: sts) (rdS X xa W (exs c (s :: ss))) := by
  refine PSs.imp (pss_cons h1 h2) fun D σ H ⟨ioa, F, G, env, S, q⟩ => ?_
  rw [exs] at q
  exact ⟨ioa, F, G, env, S, oS_nxt q fun e σ' G' H' x S' q' => ⟨ioa, F, G', e, S', q'⟩⟩
theorem s_pass : PS X (.Pass pos) (rdS X xa W (ex1 c .pass)) := by
  refine PS.imp ps_pass fun D σ H ⟨ioa, F, G, env, S, q⟩ => ?_
  rw [ex1] at q
  exact oS_nx q S
theorem s_ret (ha : PE X ea (rdE X xa W (ev c a))) : PS X (.Return (some ea) pos) (rdS X xa W (ex1 c (.ret a))) := by
  refine PS.imp (ps_ret (pe_val ha)) fun D σ H ⟨ioa, F, G, env, S, q⟩ => ?_
  rw [ex1] at q
  exact ⟨ioa, F, G, env, S, oS_bind (Ra := RV X.K) q fun d e v G' H' x S' r q' => q' v σ G' H' (Ext.refl _ _) S' r⟩
theorem s_expr (ha : PE X ea (rdE X xa W (ev c a))) (hs : swapsWith ea none pos.line X.env = pure false) : PS X (.Expr ea pos) (rdS X xa W (ex1 c (.expr a))) := by
  refine PS.imp (ps_expr (pe_val ha) hs) fun D σ H ⟨ioa, F, G, env, S, q⟩ => ?_
  rw [ex1] at q
  exact ⟨ioa, F, G, env, S, oS_bind (Ra := RV X.K) q fun d e v G' H' x S' r q' => oS_nx q' S'⟩
theorem set_imp {i : Nat} {D : Ends} {σ : L2.St} {H : Hp} (q : rdS X xa W (ex1 c (.set i a)) D σ H) : tAsg (rdE X xa W (ev c a)) (gName i) D σ H := by
  obtain ⟨ioa, F, G, env, S, q⟩ := q
  rw [ex1] at q
  refine ⟨ioa, F, G, env, S, oS_bind (Ra := RE X.K) q fun p e v G' H' x S' r q' => ?_⟩
  cases hp : putV i (slOf p) e with
  | none => rw [hp] at q'; exact q'.elim
  | some e2 =>
    rw [hp] at q'
    exact oS_nx (e := e2) q' (S'.put hp r)
theorem s_set {i : Nat} {x : Str} {p' : Pos} (hN : X.N.Nodup) (hi : X.N[i]? = some x) (hx : Loc X.env.scope x) (hf : X.fn x = true ∨ X.env.scope.names.lookup x = some .local) (ha : PE X ea (rdE X xa W (ev c a)))
    (hs : swapsWith ea (some (.Name x p')) pos.line X.env = pure false) : PS X (.Assign [.Name x p'] ea pos) (rdS X xa W (ex1 c (.set i a))) :=
  PS.imp (ps_set hN hi hx ha hs hf) fun D σ H q => set_imp q
theorem s_setLc {i : Nat} {st : Stmt} (h : PS X st (tAsg (rdE X xa W (ev c a)) (gName i))) : PS X st (rdS X xa W (ex1 c (.set i a))) := PS.imp h fun D σ H q => set_imp q
theorem s_unp {tg : Tg} {et : Expr} (ha : PE X ea (rdE X xa W (ev c a))) (hg : PG X et (tgT X tg.vs (asg tg))) (hs : swapsWithSole [et] ea pos.line X.env = pure false) (hw : swappedStores [et] ea X.env = pure none)
    (h1 : (assignEach [et] X.env).map (·.2) = [assign et X.env]) : PS X (.Assign [et] ea pos) (rdS X xa W (ex1 c (.unp tg a))) := by
  refine PS.imp (ps_asg (pe_val ha) hg hs hw h1) fun D σ H ⟨ioa, F, G, env, S, q⟩ => ?_
  rw [ex1] at q
  refine ⟨ioa, F, G, env, S, oS_bind (Ra := RV X.K) q fun d e v G' H' x S' r q' => ⟨ioa, F, G', e, d, S', r, ?_⟩⟩
  cases hp : asg tg d e with
  | none => rw [hp] at q'; exact q'.elim
  | some e2 =>
    rw [hp] at q'
    exact fun σ2 G2 H2 _ x2 S2 => q' σ2 G2 H2 x2 S2
/-! ### a, b = x, y -/
theorem x_evL1 (ha : PE X ea (rdE X xa W (ev c a))) (h : ∀ e p, ea ≠ .Starred e p) : PA X [ea] (tR X.K xa W (RL X.K) (evL c [a])) := by
  refine PA.imp (pa_cons ha pa_nil (no_star h _ _)) fun σ H Q ⟨ioa, F, G, env, S, q⟩ => ?_
  have q : oR X.K xa W (RL X.K) ioa F σ ((ev c a env).bind fun p e1 => (evL c [] e1).bind fun ps e2 => .ok (p :: ps) e2) G Q := q
  exact ⟨ioa, F, G, env, S, oR_bind (Ra := RE X.K) q fun p e v G' H' x S' r q' => oR_ok (p := [p]) q' S' (.cons r .nil fun _ j q hq => by simp at hq)⟩
theorem x_evL {es : List Ex} {eas : List Expr} (ha : PE X ea (rdE X xa W (ev c a))) (hr : PA X eas (tR X.K xa W (RL X.K) (evL c es))) (h : ∀ e p, ea ≠ .Starred e p) : PA X (ea :: eas) (tR X.K xa W (RL X.K) (evL c (a :: es))) := by
  refine PA.imp (pa_cons ha hr (no_star h _ _)) fun σ H Q q => ?_
  refine tR_held (Rq := RL X.K) (Rr := RL X.K) (mk := fun p ps => p :: ps) (cons := fun v vs => v :: vs) q (fun F G env H p ps v vs r rr gd => .cons r rr fun hp j q hq hq1 hv => ?_) (fun F G env H a o ps vs hF r => r.unguard.1)
  rcases gd with gd | ⟨a, o, rfl, hF, gd⟩
  · rw [hp] at gd; cases gd
  · exact gd.unguard.2 j q hq hq1 hv
theorem put2 {K : PySem.W.Frag} {ioa : Nat → Addr} {F G : Hp} {e2 : Env} {H : Hp} : ∀ {ps : List (Bool × D)} {vs : List V} {is : List Nat} {env : Env} {σ : L2.St}, Sim K ioa F G env σ H → RL K F G env σ H ps vs → putL is ps env = some e2 →
    Sim K ioa F G e2 ((is.zip vs).foldl (fun σ iv => σ.set iv.1 (some iv.2)) σ) H
  | [], [], is, env, σ, S, _, h => by
    cases is with
    | nil => cases h; exact S
    | cons => cases h
  | p :: ps, v :: vs, is, env, σ, S, r, h => by
    cases is with
    | nil => cases h
    | cons i is =>
      have h : (putV i (slOf p) env).bind (putL is ps) = some e2 := h
      cases hp : putV i (slOf p) env with
      | none => rw [hp] at h; cases h
      | some e1 =>
        rw [hp] at h
        cases r with
        | cons r1 r2 n =>
          have S1 := S.put hp r1
          refine put2 (is := is) (env := e1) (σ := σ.set i (some v)) S1 ?_ h
          -- the others are still new
          obtain ⟨rfl, hl, hio⟩ := putV_eq hp
          have hls : i < σ.length := by rw [← S.len]; exact hl
          have key : ∀ {ps : List (Bool × D)} {vs : List V}, RL K F G env σ H ps vs → (p.1 = true → ∀ (j : Nat) (q : Bool × D), ps[j]? = some q → q.1 = true → vs[j]? ≠ some v) →
              RL K F G (env.set i (some (slOf p))) (σ.set i (some v)) H ps vs := by
            intro ps vs r n
            induction r with
            | nil => exact .nil
            | @cons p' v' ps' vs' h' k' n' ih =>
              refine .cons ?_ (ih fun hp j q hq => by simpa using n hp (j + 1) q (by simpa using hq)) n'
              unfold RE at h' ⊢
              by_cases hp' : p'.1 = true
              · rw [if_pos hp'] at h' ⊢
                obtain ⟨b, rfl, f1, g1, o1, m1⟩ := h'
                refine ⟨b, rfl, f1, g1, o1, fun k ⟨s, e, m⟩ hk => ?_⟩
                by_cases hki : i = k
                · subst hki
                  rw [List.getElem?_set_self hl] at e
                  cases e
                  rw [List.getElem?_set_self hls] at hk
                  have hpt : p.1 = true := by
                    unfold slOf at m
                    by_cases z : p.1 = true
                    · exact z
                    · rw [if_neg z] at m; cases m
                  exact n hpt 0 p' rfl hp' (Option.some.inj hk ▸ rfl)
                · rw [List.getElem?_set_ne hki] at e hk
                  exact m1 k ⟨s, e, m⟩ hk
              · rw [if_neg hp'] at h' ⊢
                exact h'
          exact key r2 n
  | [], _ :: _, _, _, _, _, r, _ => by cases r
  | _ :: _, [], _, _, _, _, r, _ => by cases r
theorem s_par2 {i j : Nat} {x y : Str} {px py pt : Pos} {kt k2 pt2} (hc : X.calm = true) (hN : X.N.Nodup) (hi : X.N[i]? = some x) (hj : X.N[j]? = some y) (hij : i ≠ j)
    (hx : X.env.scope.names.lookup x = some .local) (hy : X.env.scope.names.lookup y = some .local) (ha : PE X ea (rdE X xa W (ev c a))) (hb : PE X eb (rdE X xa W (ev c b))) (h1 : ∀ e p, ea ≠ .Starred e p) (h2 : ∀ e p, eb ≠ .Starred e p)
    (hw : swappedStores [.Tuple [.Name x px, .Name y py] kt pt] (.Tuple [ea, eb] k2 pt2) X.env = pure (some [x, y])) :
    PS X (.Assign [.Tuple [.Name x px, .Name y py] kt pt] (.Tuple [ea, eb] k2 pt2) pos) (rdS X xa W (ex1 c (.par [i, j] [a, b]))) := by
  refine PS.imp (ps_par hc hN hi hj hij hx hy (x_evL ha (x_evL1 hb h2) h1) hw rfl) fun D σ H ⟨ioa, F, G, env, S, q⟩ => ?_
  rw [ex1] at q
  refine ⟨ioa, F, G, env, S, oS_bind (Ra := RL X.K) q fun ps e vs G' H' x S' r q' => ?_⟩
  cases hp : putL [i, j] ps e with
  | none => rw [hp] at q'; exact q'.elim
  | some e2 =>
    rw [hp] at q'
    have S2 := put2 (F := F) (is := [i, j]) S' r hp
    have r : RL X.K F G' e σ H' ps vs := r
    cases r with
    | nil => cases hp
    | cons r1 r2 n =>
      cases r2 with
      | nil =>
        exfalso
        have hp : (putV i (slOf _) e).bind (putL [j] []) = some e2 := hp
        revert hp
        cases putV i _ e with
        | none => intro h; cases h
        | some e3 => intro h; cases h
      | cons r3 r4 n2 =>
        cases r4 with
        | nil => exact ⟨_, _, rfl, oS_nx (e := e2) q' S2⟩
        | cons r5 r6 n3 =>
          exfalso
          have hp : (putV i (slOf _) e).bind (fun e => (putV j (slOf _) e).bind (putL [] _)) = some e2 := hp
          revert hp
          cases putV i _ e with
          | none => intro h; cases h
          | some e3 =>
            intro h
            have h : (putV j (slOf _) e3).bind (putL [] _) = some e2 := h
            revert h
            cases putV j _ e3 with
            | none => intro h; cases h
            | some e4 => intro h; cases h
/-! ### if, while, for -/
theorem s_go {f : Env → Rs D} {g : Bool → Env → Ou} {D : Ends} {ioa : Nat → Addr} {F G : Hp} {env : Env} {σ : L2.St} {H : Hp} (S : Sim X.K ioa F G env σ H) (q : oS X.K xa W ioa F ((f env).ou fun x e => match tru x with | some true => g true e | some false => g false e | none => .no) G D) {R : Bool → Hp → Prop}
    (h : ∀ k e G' H', Ext F G G' → Sim X.K ioa F G' e σ H' → oS X.K xa W ioa F (g k e) G' D → R k H') : tTr X xa W f σ H R := by
  refine ⟨ioa, F, G, env, S, ?_⟩
  show oR X.K xa W RK ioa F σ (tst (f env)) G R
  revert q
  cases f env with
  | no => exact fun q => q
  | ex x e => exact fun q cl dd G' H' xx S' xz => q cl dd σ G' H' xx S' xz
  | ok x e =>
    show oS X.K xa W ioa F (match tru x with | some true => g true e | some false => g false e | none => .no) G D → oR X.K xa W RK ioa F σ (Rs.of (tru x) e) G R
    cases tru x with
    | none => exact fun q => q
    | some k =>
      intro q k' G' H' xx S' r
      have r : k' = k := r
      subst r
      refine h k' e G' H' xx S' (oS_ext xx ?_)
      cases k' with
      | true => exact q
      | false => exact q
theorem s_ite {sa sb : List Sm} {ta tb : List Stmt} (hz : PT X ez (tTr X xa W fun env => brw z (ev c z) env)) (ha : PSs X ta (rdS X xa W (exs c sa))) (hb : PSs X tb (rdS X xa W (exs c sb))) : PS X (.If ez ta tb pos) (rdS X xa W (ex1 c (.ite z sa sb))) := by
  refine PS.imp (ps_if hz ha hb) fun D σ H ⟨ioa, F, G, env, S, q⟩ => ?_
  rw [ex1] at q
  refine s_go (g := fun k => if k = true then exs c sa else exs c sb) S q fun k e G' H' x S' q' => ?_
  cases k with
  | true => exact ⟨ioa, F, G', e, S', q'⟩
  | false => exact ⟨ioa, F, G', e, S', q'⟩
theorem s_whl {sb : List Sm} {tb : List Stmt} (hp : PassesOwn (model X.prog X.w) X.A X.env X.xe) (hz : PT X ez (tTr X xa W fun env => brw z (ev c z) env)) (hb : PSs X tb (rdS X xa W (exs c sb))) : PS X (.While ez tb [] pos) (rdS X xa W (ex1 c (.whl z sb))) := by
  refine PS.imp (ps_while hp hz hb) fun D σ H ⟨ioa, F, G, env, S, q⟩ => ?_
  rw [ex1] at q
  unfold whil at q
  by_cases he : ∃ n, (iter (brw z (ev c z)) (exs c sb) n env).isNo = false
  · rw [dif_pos he] at q
    refine ⟨fun m σ H => ∃ G' env', Sim X.K ioa F G' env' σ H ∧ Ext F G G' ∧ oS X.K xa W ioa F (iter (brw z (ev c z)) (exs c sb) m env') G' D, ⟨_, G, env, S, Ext.refl _ _, q⟩, ?_⟩
    rintro m σ H ⟨G', env', S', x', q'⟩
    cases m with
    | zero => exact q'.elim
    | succ m =>
      rw [iter] at q'
      refine s_go (g := fun k e => if k = true then (exs c sb e).nxt (iter (brw z (ev c z)) (exs c sb) m) else .nx e) S' q' fun k e G2 H2 x2 S2 q2 => ?_
      cases k with
      | false => exact oS_nx (e := e) q2 S2
      | true =>
        refine ⟨fun σ' H' => ∃ m', m' < m + 1 ∧ ∃ G' env', Sim X.K ioa F G' env' σ' H' ∧ Ext F G G' ∧ oS X.K xa W ioa F (iter (brw z (ev c z)) (exs c sb) m' env') G' D, fun σ' H' h => h, ioa, F, G2, e, S2, ?_⟩
        exact oS_nxt (f := iter (brw z (ev c z)) (exs c sb) m) q2 fun e3 σ3 G3 H3 x3 S3 q3 => ⟨m, Nat.lt_succ_self _, G3, e3, S3, (x'.trans x2).trans x3, q3⟩
  · rw [dif_neg he] at q
    exact q.elim
theorem s_for {s : Src} {it : List Ex} {tg : Tg} {sb : List Sm} {tb : List Stmt} {et iter : Expr} (hp : PassesOwn (model X.prog X.w) X.A X.env X.xe) (hc : X.calm = true) (hi : PI X et iter (iSrc X xa W c s it)) (hg : PG X et (tgT X tg.vs (asg tg)))
    (hb : PSs X tb (rdS X xa W (exs c sb))) (hs : ∀ x, foldedSetIterable iter X.env x = pure x) : PS X (.For et iter tb [] pos) (rdS X xa W (ex1 c (.for_ tg s it sb))) := by
  refine PS.imp (ps_for hp hc hi hg hb hs) fun D σ H ⟨ioa, F, G, env, S, q⟩ => ?_
  rw [ex1] at q
  refine ⟨ioa, F, G, env, S, ?_⟩
  show oR X.K xa W (RI X.K) ioa F σ ((evs c it env).bind fun ws e => Rs.of (walk s ws) e) G _
  revert q
  cases evs c it env with
  | no => exact fun q => q
  | ex x e => exact fun q cl dd G' H' xx S' xz => q cl dd σ G' H' xx S' xz
  | ok ws e1 =>
    intro q
    show oR X.K xa W (RI X.K) ioa F σ (Rs.of (walk s ws) e1) G _
    have q : oS X.K xa W ioa F (match walk s ws with
      | some xs => loop (fun x e2 => match asg tg x e2 with
          | some e3 => exs c sb e3
          | none => .no) xs e1
      | none => .no) G D := q
    cases hw : walk s ws with
    | none => rw [hw] at q; exact q.elim
    | some xs =>
      rw [hw] at q
      intro J G1 H1 x1 S1 wk
      have wk : Wk X.K G1 xs J := wk
      refine ⟨fun i m σ H => m = xs.length - i ∧ i ≤ xs.length ∧ ∃ G' env', Sim X.K ioa F G' env' σ H ∧ Ext F G1 G' ∧ oS X.K xa W ioa F (loop (fun x e2 => match asg tg x e2 with
          | some e3 => exs c sb e3
          | none => .no) (xs.drop i) env') G' D, ⟨xs.length, by omega, Nat.zero_le _, G1, e1, S1, Ext.refl _ _, oS_ext x1 q⟩, ?_⟩
      rintro i m σ2 H2 ⟨hm, hi', G', env', S', x', q'⟩
      have hw' := wk ioa F G' env' σ2 H2 i x'.1 S'
      by_cases he : i = xs.length
      · left
        rw [he, List.drop_length] at q'
        exact ⟨hw'.1 he, oS_nx (e := env') q' S'⟩
      · right
        have hlt : i < xs.length := by omega
        have hx : xs[i]? = some xs[i] := List.getElem?_eq_getElem hlt
        rw [List.drop_eq_getElem_cons hlt] at q'
        obtain ⟨go, yl⟩ := hw'.2 _ hx
        refine ⟨go, fun σ' H' => ∃ m', m' < m ∧ m' = xs.length - (i + 1) ∧ i + 1 ≤ xs.length ∧ ∃ G' env', Sim X.K ioa F G' env' σ' H' ∧ Ext F G1 G' ∧ oS X.K xa W ioa F (loop (fun x e2 => match asg tg x e2 with
          | some e3 => exs c sb e3
          | none => .no) (xs.drop (i + 1)) env') G' D, fun σ' H' ⟨m', z1, z2⟩ => ⟨m', z1, z2⟩, fun v H3 hy => ?_⟩
        obtain ⟨G3, x3, S3, r3⟩ := yl v H3 hy
        refine ⟨ioa, F, G3, env', xs[i], S3, r3, ?_⟩
        have q' : oS X.K xa W ioa F ((match asg tg xs[i] env' with
          | some e3 => exs c sb e3
          | none => .no).nxt (loop (fun x e2 => match asg tg x e2 with
          | some e3 => exs c sb e3
          | none => .no) (xs.drop (i + 1)))) G' D := q'
        cases ha : asg tg xs[i] env' with
        | none => rw [ha] at q'; exact q'.elim
        | some e3 =>
          rw [ha] at q'
          intro σ4 G4 H4 _ x4 S4
          refine ⟨ioa, F, G4, e3, S4, ?_⟩
          exact oS_nxt (oS_ext (x3.trans x4) q') fun e5 σ5 G5 H5 x5 S5 q5 => ⟨_, by omega, rfl, hlt, G5, e5, S5, ((x'.trans x3).trans x4).trans x5, q5⟩
end
end Rv
end
section
/-! Rv, part 20: x[k] = v, append, extend. -/
namespace Rv
open PySem PySem.Spec PyProof.Rows L2
section
variable {X : Cx} {xa : XA} {W : WX} {c : Cal} {a b z : Ex} {ea eb ez : Expr} {pos : Pos}
theorem chg_cases {i : Nat} {f : D → Option D} {env : Env} {D : Ends} {K : PySem.W.Frag} {ioa : Nat → Addr} {F G : Hp} (q : oS K xa W ioa F (chg i f env) G D) :
    ∃ s d s', env[i]? = some (some s) ∧ f s.d = some d ∧ upSl d s = some s' ∧ oS K xa W ioa F (.nx (env.set i (some s'))) G D := by
  unfold chg at q
  split at q
  · rename_i s hs
    cases hf : f s.d with
    | none =>
      have q : oS K xa W ioa F (match (f s.d).bind fun d => upSl d s with | some s' => .nx (env.set i (some s')) | none => .no) G D := q
      rw [hf] at q
      exact q.elim
    | some d =>
      have q : oS K xa W ioa F (match (f s.d).bind fun d => upSl d s with | some s' => .nx (env.set i (some s')) | none => .no) G D := q
      rw [hf] at q
      have q : oS K xa W ioa F (match upSl d s with | some s' => .nx (env.set i (some s')) | none => .no) G D := q
      cases hu : upSl d s with
      | none => rw [hu] at q; exact q.elim
      | some s' => rw [hu] at q; exact ⟨s, d, s', hs, hf, hu, q⟩
  · exact q.elim
theorem up_mine {d : D} {s s' : Sl} (h : upSl d s = some s') : s.mine = true := by
  cases s with
  | val d => cases h
  | own d => rfl
  | io d => rfl
theorem putIx_cases {x k v d : D} (h : putIx x k v = some d) : (∃ xs i j, x = .list xs ∧ k = .int i ∧ ixN xs.length i = some j ∧ d = .list (xs.set j v)) ∨ ∃ kvs, x = .dict kvs ∧ kfit kvs k = true ∧ small (kvs.length + 1) = true ∧ d = .dict (dput kvs k v) := by
  unfold putIx at h
  split at h
  · rename_i xs i
    cases hj : ixN xs.length i with
    | none => rw [hj] at h; cases h
    | some j => rw [hj] at h; cases h; exact .inl ⟨xs, i, j, rfl, rfl, hj, rfl⟩
  · rename_i kvs
    split at h
    · rename_i hz
      cases h
      rw [Bool.and_eq_true] at hz
      exact .inr ⟨kvs, rfl, hz.1, hz.2, rfl⟩
    · cases h
  · cases h
/-- an own dict or list written at a key -/
theorem put_at (hu : X.A.units + 66 < cLine) {pins : List (Addr × Obj)} {s : Shared} {σ0 σ : L2.St} {G H : Hp} {ad : Addr} {y w : V} {x k v d : D} {u iv r : Value} {Q : Hp → Prop} (I : Inv X pins σ0 H s) (m : Same G H) (ho : Own X.K G H ad x) (hy : Dr X.K G y k) (hv : Dr X.K G w v) (ru : RelV (.ref ad) u) (ry : RelV y iv) (rw' : RelV w r)
    (hp : putIx x k v = some d) (q : ∀ o, Top X.K G o d → Q (upd H ad o)) : wpAny (model X.prog X.w) X.A (setItem u iv r) (fun _ s' => ∃ H', Inv X pins σ0 H' s' ∧ Q H') X.xe s := by
  obtain rfl : u = Value.ref ad := ru
  rcases putIx_cases hp with ⟨xs, i, j, rfl, rfl, hj, rfl⟩ | ⟨kvs, rfl, hk, hz, rfl⟩
  · obtain ⟨o, hH, t⟩ := ho
    cases t with
    | lst ka =>
      rename_i vs
      cases hy
      refine set_list pins s σ0 H (.ref ad) (.int i) w _ iv r Q I rfl ry rw' ⟨ad, vs, i, j, rfl, rfl, hH, by rw [ka.length]; exact hj, q _ (.lst (ka.set j hv))⟩
  · unfold kfit at hk
    simp only [Bool.and_eq_true, List.all_eq_true, beq_iff_eq, bne_iff_ne] at hk
    obtain ⟨h0, hk⟩ := hk
    have hzl := small_le hz
    obtain ⟨o, hH, t⟩ := ho
    cases t with
    | dk kd =>
      rename_i ws
      have hl := kd.length
      rcases kin_le k with h | h | h
      · exact absurd h h0
      · obtain ⟨zk, rfl⟩ := kin1 h
        obtain rfl := dr_key hy
        exact d_setItem (by omega) I (.inl ⟨ws, zk, hH, rfl, by omega, rfl⟩) ry rw' fun s' I' => ⟨_, I', q _ (.dk (kd.put zk hv))⟩
      · obtain ⟨zk, rfl⟩ := kin2 h
        cases kd with
        | cons h1 t1 =>
          have := hk _ List.mem_cons_self
          rw [kin_keyD, h] at this
          cases this
        | nil =>
          cases hy with
          | tup hb kb =>
            rename_i b xs
            obtain rfl := dr_keys kb
            have hb2 : upd H ad (.dT []) b = some (.tup (zk.map kV)) := by rw [upd_ne (fun z => by subst z; rw [m _ _ hb] at hH; cases hH)]; exact m _ _ hb
            refine d_setItem (by omega) (toT I hH) (.inr ⟨[], zk, b, upd_same, rfl, hb2, by simp; exact Nat.lt_of_lt_of_le Nat.zero_lt_one hzl, rfl⟩) ry rw' fun s' I' => ⟨_, I', ?_⟩
            rw [upd_upd]
            exact q _ (.dt (DrT.put (ws := []) (kvs := []) zk .nil hv))
    | dt kd =>
      rename_i ws
      have hl := kd.length
      rcases kin_le k with h | h | h
      · exact absurd h h0
      · obtain ⟨zk, rfl⟩ := kin1 h
        cases kd with
        | cons h1 t1 =>
          have := hk _ List.mem_cons_self
          rw [kin_tup, h] at this
          cases this
        | nil =>
          obtain rfl := dr_key hy
          refine d_setItem (by omega) (toK I hH) (.inl ⟨[], zk, upd_same, rfl, by simp; exact Nat.lt_of_lt_of_le Nat.zero_lt_one hzl, rfl⟩) ry rw' fun s' I' => ⟨_, I', ?_⟩
          rw [upd_upd]
          exact q _ (.dk (DrK.put (ws := []) (kvs := []) zk .nil hv))
      · obtain ⟨zk, rfl⟩ := kin2 h
        cases hy with
        | tup hb kb =>
          rename_i b xs
          obtain rfl := dr_keys kb
          exact d_setItem (by omega) I (.inr ⟨ws, zk, b, hH, rfl, m _ _ hb, by omega, rfl⟩) ry rw' fun s' I' => ⟨_, I', q _ (.dt (kd.put zk hv))⟩
theorem recv_own {β : Type} {K : PySem.W.Frag} {p : D → Bool} {i : Nat} {k : Option D → Env → Ou} {fa : Env → Rs (Bool × D)} {ioa : Nat → Addr} {F G : Hp} {env : Env} {σ : L2.St} {H : Hp} {D : Ends} (S : Sim K ioa F G env σ H) (q : oS K xa W ioa F ((recv p (.var i) fa env).ou k) G D) :
    ∃ v d0, σ[i]? = some (some v) ∧ DrB K G H v d0 ∧ p d0 = true ∧ oS K xa W ioa F (k none env) G D := by
  have q : oS K xa W ioa F (((Rs.of (rd i env) env).bind fun d e => if p d then .ok none e else .no).ou k) G D := q
  cases h0 : rd i env with
  | none => rw [h0] at q; exact q.elim
  | some d0 =>
    rw [h0] at q
    have q : oS K xa W ioa F ((if p d0 then Rs.ok (none : Option Rv.D) env else .no).ou k) G D := q
    obtain ⟨v, hσ, r0⟩ := S.rd h0
    by_cases hp : p d0 = true
    · rw [if_pos hp] at q
      exact ⟨v, d0, hσ, r0, hp, q⟩
    · rw [if_neg hp] at q; exact q.elim
theorem s_put {i : Nat} {x : Str} {p p' : Pos} (hu : X.A.units + 66 < cLine) (hx : PE X (.Name x p) (tVar i)) (hk : PE X eb (rdE X xa W (ev c b))) (hv : PE X ea (rdE X xa W (ev c a)))
    (hs : swapsWith ea (some (.Subscript (.Name x p) eb p')) pos.line X.env = pure false) : PS X (.Assign [.Subscript (.Name x p) eb p'] ea pos) (rdS X xa W (ex1 c (.put i b a))) := by
  refine ⟨fun pins s σ H D I ⟨ioa, F, G, env, S, q⟩ => ?_⟩
  rw [ex1] at q
  have q1 : rdE X xa W (ev c a) σ H fun v H1 => ∃ ioa F G e1 d, Sim X.K ioa F G e1 σ H1 ∧ Dr X.K G v d ∧ oS X.K xa W ioa F ((recv (fun _ => true) (.var i) (ev c (.var i)) e1).ou fun _ e2 => (valOf (ev c b e2)).ou fun kd e3 => chg i (fun x => putIx x kd d) e3) G D :=
    tR_val ⟨ioa, F, G, env, S, oS_bind (Ra := RV X.K) q fun d e v G' H' x S' r q' => ⟨ioa, F, G', e, d, S', r, q'⟩⟩
  refine wpAny_Assign_Subscript (thn (hv.run pins s σ H _ I q1) fun r s1 ⟨w, H1, I1, rw', ioa, F, G1, e1, d, S1, r1, q2⟩ => ?_) hs
  obtain ⟨v0, d0, hσ, _, _, q2⟩ := recv_own (β := Unit) S1 q2
  have q3 : rdE X xa W (ev c b) σ H1 fun y H2 => ∃ kd e2 G2 ad s0 dd s1', v0 = .ref ad ∧ Sim X.K ioa F G2 e2 σ H2 ∧ Ext F G1 G2 ∧ Dr X.K G2 y kd ∧ e2[i]? = some (some s0) ∧ putIx s0.d kd d = some dd ∧ upSl dd s0 = some s1' ∧ oS X.K xa W ioa F (.nx (e2.set i (some s1'))) G2 D :=
    tR_val ⟨ioa, F, G1, e1, S1, oS_bind (Ra := RV X.K) q2 fun kd e2 y G2 H2 x2 S2 r2 q2' => by
      obtain ⟨s0, dd, s1', h1, h2, h3, h4⟩ := chg_cases q2'
      obtain ⟨v1, h5, h6⟩ := S2.sl i s0 h1
      rw [hσ] at h5
      cases h5
      obtain ⟨ad, rfl, _⟩ := (SlOk.own (up_mine h3)).mp h6
      exact ⟨kd, e2, G2, ad, s0, dd, s1', rfl, S2, x2, r2, h1, h2, h3, h4⟩⟩
  refine thn (hx.run pins s1 σ H1 (fun x0 H2 => x0 = v0 ∧ H2 = H1) I1 ⟨_, hσ, rfl, rfl⟩) fun u s2 ⟨x0, H2, I2, rx, e0, e2⟩ => ?_
  subst e0 e2
  refine thn (hk.run pins s2 σ H2 _ I2 q3) fun iv s3 ⟨y, H3, I3, ry, kd, e2, G2, ad, s0, dd, s1', ead, S2, x2, r2, h1, h2, h3, h5⟩ => ?_
  subst ead
  obtain ⟨v1, h6, h7⟩ := S2.sl i s0 h1
  rw [hσ] at h6
  cases h6
  obtain ⟨ad', ea', f1, g1, own⟩ := (SlOk.own (up_mine h3)).mp h7
  cases ea'
  exact thn (put_at (σ := σ) hu I3 S2.gh own r2 (Dr.mono (.of x2.1) _ r1) rx ry rw' h2 (Q := fun H' => D.nx σ H') fun o t => h5 _ _ _ (Ext.refl _ _) (S2.write h1 hσ h3 t)) fun _ s4 ⟨H4, I4, q4⟩ => ⟨σ, H4, I4, q4⟩
/-! ### append, extend -/
theorem mt_extX : MtR X "list.extend" (fun x vs H Q => ∃ l b xs zs, x = .ref l ∧ vs = [.ref b] ∧ H l = some (.lst xs) ∧ LsX X.K H b zs ∧ xs.length + zs.length ≤ sizeLine ∧ Q .non (upd H l (.lst (xs ++ zs)))) := by
  rintro pins s σ H x vs v us Q I rx rv ⟨l, b, xs, zs, rfl, rfl, hH, hB, hz, q⟩
  obtain rfl : v = .ref l := rx
  obtain ⟨u, rfl, ru⟩ := rv.one
  obtain rfl : u = .ref b := ru
  obtain ⟨z1, its, n, r, hl, e⟩ := I.lstM hH
  obtain ⟨z2, its2, n2, r2, hl2, e2⟩ := lsx_at I hB
  have hsum : its.toArray.size + its2.toArray.size ≤ sizeLine := by simp only [List.size_toArray]; omega
  have hno : ¬ (!its.toArray.isEmpty && Builtin.List.listTooLong (its.toArray.size + its2.toArray.size)) = true := by
    simp only [notLongL hsum, Bool.and_false]
    exact Bool.false_ne_true
  exact call_meets F.slot_list_extend ⟨_, e, rfl⟩ F.entry_list_extend (F.args_list_extend_2 _ _) (AutoSeq1.list_extend_list_list_0 l its.toArray n b its2.toArray n2 hno (by simp only [List.size_toArray]; omega) (by omega))
    ⟨e, e2, .non, _, I.lset (its' := its ++ its2) hH e (by simp) (r.append r2) (by rw [List.length_append]; omega), rfl, q⟩
theorem s_app {i : Nat} {x : Str} {p apos cpos : Pos} (hx : PE X (.Name x p) (tVar i)) (ha : PE X ea (rdE X xa W (ev c a))) (hs : ∀ y p, ea ≠ .Starred y p) (hl : (apos.endLine == cpos.line) = true) :
    PS X (.Expr (.Call (.Attribute (.Name x p) "append" apos) [ea] [] cpos) pos) (rdS X xa W (ex1 c (.app i a))) := by
  refine PS.imp (ps_expr (pe_mt PySem.F.plainAttrs_list PySem.F.slot_list_append PySem.F.type_list_append (show MtR X "list.append" rAppend from mt_append) hx (pa_cons (pe_val ha) pa_nil (no_star hs _ _)) (mth1 rfl hs hl) (no_star hs _ _) rfl) rfl) fun D σ H ⟨ioa, F, G, env, S, q⟩ => ?_
  rw [ex1] at q
  obtain ⟨v, d0, hσ, r0, hp, q⟩ := recv_own (β := Unit) S q
  refine ⟨v, hσ, isT_ls S.gh r0 hp, ioa, F, G, env, S, oS_bind (Ra := RV X.K) q fun d e w G' H' x' S' r q' => ?_⟩
  obtain ⟨s0, dd, s1, h1, h2, h3, h4⟩ := chg_cases q'
  obtain ⟨v0, h5, h6⟩ := S'.sl i s0 h1
  rw [hσ] at h5
  cases h5
  obtain ⟨ad, rfl, f1, g1, o, ho, t⟩ := (SlOk.own (up_mine h3)).mp h6
  revert h2
  cases hd : s0.d with
  | list xs =>
    rw [hd] at t
    cases t with
    | lst ka =>
      rename_i vs
      intro h2
      have h2 : (if small (xs.length + 1) then some (PyData.list (xs ++ [d])) else none) = some dd := h2
      by_cases hz : small (xs.length + 1) = true
      · rw [if_pos hz] at h2
        cases h2
        have := small_le hz
        exact ⟨ad, vs, w, rfl, rfl, ho, by rw [ka.length]; omega, h4 _ _ _ (Ext.refl _ _) (S'.write h1 hσ h3 (.lst (ka.append (.cons r .nil))))⟩
      · rw [if_neg hz] at h2; cases h2
  | _ => intro h2; cases h2
theorem s_ext {i : Nat} {x : Str} {p apos cpos : Pos} (hx : PE X (.Name x p) (tVar i)) (ha : PE X ea (rdE X xa W (ev c a))) (hs : ∀ y p, ea ≠ .Starred y p) (hl : (apos.endLine == cpos.line) = true) :
    PS X (.Expr (.Call (.Attribute (.Name x p) "extend" apos) [ea] [] cpos) pos) (rdS X xa W (ex1 c (.ext i a))) := by
  refine PS.imp (ps_expr (pe_mt PySem.F.plainAttrs_list PySem.F.slot_list_extend PySem.F.type_list_extend mt_extX hx (pa_cons (pe_val ha) pa_nil (no_star hs _ _)) (mth1 rfl hs hl) (no_star hs _ _) rfl) rfl) fun D σ H ⟨ioa, F, G, env, S, q⟩ => ?_
  rw [ex1] at q
  obtain ⟨v, d0, hσ, r0, hp, q⟩ := recv_own (β := Unit) S q
  refine ⟨v, hσ, isT_ls S.gh r0 hp, ioa, F, G, env, S, oS_bind (Ra := RV X.K) q fun d e w G' H' x' S' r q' => ?_⟩
  obtain ⟨s0, dd, s1, h1, h2, h3, h4⟩ := chg_cases q'
  obtain ⟨v0, h5, h6⟩ := S'.sl i s0 h1
  rw [hσ] at h5
  cases h5
  obtain ⟨ad, rfl, f1, g1, o, ho, t⟩ := (SlOk.own (up_mine h3)).mp h6
  revert h2
  cases hd : s0.d with
  | list xs =>
    rw [hd] at t
    cases t with
    | lst ka =>
      rename_i vs
      cases d with
      | list ys =>
        intro h2
        have h2 : (if small (xs.length + ys.length) then some (PyData.list (xs ++ ys)) else none) = some dd := h2
        by_cases hz : small (xs.length + ys.length) = true
        · rw [if_pos hz] at h2
          cases h2
          have hzl := small_le hz
          have r : Dr X.K G' w (.list ys) := r
          cases r with
          | lst hb kb =>
            exact ⟨ad, _, vs, _, rfl, rfl, ho, (Mo.of S'.gh).seq hb, by rw [ka.length, kb.length]; exact hzl, h4 _ _ _ (Ext.refl _ _) (S'.write h1 hσ h3 (.lst (ka.append kb)))⟩
        · rw [if_neg hz] at h2; cases h2
      | _ => intro h2; cases h2
  | _ => intro h2; cases h2
end
end Rv
end
section
/-! Rv, part 21: for k in d, d a dict. -/
namespace Rv
open PySem PySem.Spec PyProof.Rows L2
section
variable {K : PySem.W.Frag} {ioa : Nat → Addr} {F G : Hp} {env : Env} {σ : L2.St} {H : Hp} {d : Addr} {u : HO} {od : Obj}
theorem notE_nofr {u : HO} (h : notE u) : nofr u := by cases u <;> first | trivial | cases h
theorem rd_nofr {a : Addr} {w : HO} (hw : nofr w) (h : Rd G a w) (hG : G a = some u) (hu : nofr u) : w = u := by
  rcases h with h | ⟨o, h⟩
  · rw [h] at hG; exact Option.some.inj hG
  · rw [h] at hG; cases hG; exact hu.elim
theorem rd_fr {a : Addr} {w : HO} (hw : nofr w) (h : Rd G a w) (hG : G a = some (.frz od u)) : w = u := by
  rcases h with h | ⟨o, h⟩
  · rw [h] at hG; cases hG; exact hw.elim
  · rw [h] at hG; cases hG; rfl
theorem Mo.lock (hG : G d = some u) (hu : notE u) : Mo G (upd G d (.frz od u)) := by
  refine ⟨fun a xs h => ?_, fun a w hw h => ?_, fun a w hw h => ?_⟩
  · rw [upd_ne (fun z => by subst z; rw [hG] at h; cases h; cases hu)]; exact h
  · by_cases e : a = d
    · subst e
      rw [rd_nofr hw h hG (notE_nofr hu)]
      exact .inr ⟨od, upd_same⟩
    · unfold Rd at h ⊢; rw [upd_ne e]; exact h
  · by_cases e : a = d
    · subst e
      rw [rd_nofr hw h.rd hG (notE_nofr hu)]
      exact .inr ⟨hu, od, upd_same⟩
    · unfold RdN at h ⊢; rw [upd_ne e]; exact h
theorem Mo.unlock (hG : G d = some (.frz od u)) (hu : notE u) : Mo G (upd G d u) := by
  refine ⟨fun a xs h => ?_, fun a w hw h => ?_, fun a w hw h => ?_⟩
  · rw [upd_ne (fun z => by subst z; rw [hG] at h; cases h)]; exact h
  · by_cases e : a = d
    · subst e
      rw [rd_fr hw h hG]
      exact .inl upd_same
    · unfold Rd at h ⊢; rw [upd_ne e]; exact h
  · by_cases e : a = d
    · subst e
      rw [rd_fr hw h.rd hG]
      exact .inl upd_same
    · unfold RdN at h ⊢; rw [upd_ne e]; exact h
/-- what must stay, with d locked -/
def lockF (F : Hp) (d : Addr) (o : HO) : Hp := fun b => if b = d then (F d).map fun _ => o else F b
theorem lockF_ne {b : Addr} {o : HO} (h : b ≠ d) : lockF F d o b = F b := by unfold lockF; rw [if_neg h]
theorem lockF_none {b : Addr} {o : HO} : lockF F d o b = none ↔ F b = none := by
  by_cases h : b = d
  · subst h
    unfold lockF
    rw [if_pos rfl]
    cases F b <;> simp
  · rw [lockF_ne h]
theorem Sim.moved {F2 G2 H2 : Hp} (S : Sim K ioa F G env σ H) (m : Mo G G2) (fh : Same F2 H2) (gh : Same G2 H2) (hf : ∀ b, F b = none → F2 b = none) (hs : ∀ a, G a = none → F a = none → (∃ o, H a = some o) → G2 a = none ∧ H2 a = H a) : Sim K ioa F2 G2 env σ H2 := by
  refine ⟨S.len, fh, gh, fun i s e => ?_, S.io, S.ap⟩
  obtain ⟨v, h1, h2⟩ := S.sl i s e
  refine ⟨v, h1, ?_⟩
  cases hm : s.mine with
  | false =>
    cases s with
    | val d => exact Dr.mono m _ h2
    | own _ => cases hm
    | io _ => cases hm
  | true =>
    obtain ⟨a, rfl, f1, g1, o, ho, t⟩ := (SlOk.own hm).mp h2
    obtain ⟨g2, h3⟩ := hs a g1 f1 ⟨o, ho⟩
    exact (SlOk.own hm).mpr ⟨a, rfl, hf a f1, g2, o, h3.trans ho, t.mono m⟩
theorem Sim.lock (S : Sim K ioa F G env σ H) (hG : G d = some u) (hu : notE u) : Sim K ioa (lockF F d (.frz od u)) (upd G d (.frz od u)) env σ (upd H d (.frz od u)) := by
  refine S.moved (Mo.lock hG hu) (fun b w h => ?_) (fun b w h => ?_) (fun b h => lockF_none.mpr h) fun a g f ⟨o, ho⟩ => ?_
  · by_cases e : b = d
    · subst e
      unfold lockF at h
      rw [if_pos rfl] at h
      cases hF : F b with
      | none => rw [hF] at h; cases h
      | some x => rw [hF] at h; rw [upd_same]; exact h
    · rw [lockF_ne e] at h; rw [upd_ne e]; exact S.fh b w h
  · by_cases e : b = d
    · subst e; rw [upd_same] at h ⊢; exact h
    · rw [upd_ne e] at h ⊢; exact S.gh b w h
  · have e : a ≠ d := fun z => by subst z; rw [hG] at g; cases g
    exact ⟨by rw [upd_ne e]; exact g, upd_ne e⟩
theorem Sim.unlock {G0 : Hp} (S : Sim K ioa (lockF F d (.frz od u)) G env σ H) (hF : ∀ w, F d = some w → w = u) (hG : G d = some (.frz od u)) (hu : notE u) : Sim K ioa F (upd G d u) env σ (upd H d u) := by
  refine S.moved (Mo.unlock hG hu) (fun b w h => ?_) (fun b w h => ?_) (fun b h => lockF_none.mp h) fun a g f ⟨o, ho⟩ => ?_
  · by_cases e : b = d
    · subst e; rw [upd_same, hF w h]
    · rw [upd_ne e]; exact S.fh b w (by rw [lockF_ne e]; exact h)
  · by_cases e : b = d
    · subst e; rw [upd_same] at h ⊢; exact h
    · rw [upd_ne e] at h ⊢; exact S.gh b w h
  · have e : a ≠ d := fun z => by subst z; rw [hG] at g; cases g
    exact ⟨by rw [upd_ne e]; exact g, upd_ne e⟩
theorem Ext.unlock {G2 : Hp} (x : Ext (lockF F d (.frz od u)) (upd G d (.frz od u)) G2) (hG : G d = some u) : Ext F G (upd G2 d u) := by
  refine ⟨fun b w h => ?_, fun b hb => ?_⟩
  · by_cases e : b = d
    · subst e; rw [upd_same, ← hG]; exact h
    · rw [upd_ne e]; exact x.1 b w (by rw [upd_ne e]; exact h)
  · by_cases e : b = d
    · subst e; rw [upd_same, hG]; exact .inl rfl
    · rw [upd_ne e]
      rcases x.2 b (fun z => hb (lockF_none.mp z)) with z | z
      · rw [upd_ne e] at z; exact .inl z
      · exact .inr z
theorem wk_keys {ws : List (Key × V)} {kvs : List (D × D)} (hG : G d = some (.frz od (.dK ws))) (k : DrK K G ws kvs) : Wk K G (kvs.map (·.1)) (Itk d od ws) := by
  intro ioa F G' env' σ' H' i x S
  have hH : H' d = some (.frz od (.dK ws)) := S.gh _ _ (x _ _ hG)
  have hl := k.length
  refine ⟨fun e => ⟨hH, by rw [e, List.length_map]; omega⟩, fun y hy => ?_⟩
  have hlt : i < kvs.length := by have := lt_of_get hy; rwa [List.length_map] at this
  refine ⟨⟨hH, by omega⟩, fun v H'' ⟨e, kk, vv, h1, h2⟩ => ?_⟩
  subst e h2
  have hk := dr_keysK (K := K) (G := G') (DrK.mono (.of x) _ k)
  obtain ⟨v', h3, h4⟩ := hk.get hy
  rw [List.getElem?_map, h1] at h3
  cases h3
  exact ⟨G', Ext.refl _ _, S, h4⟩
theorem drt_key : ∀ {ws : List (List Key × V)} {kvs : List (D × D)} {i : Nat} {k : List Key} {v : V}, DrT K G ws kvs → ws[i]? = some (k, v) → (kvs.map (·.1))[i]? = some (.tuple (k.map keyD))
  | _, _, _, _, _, .nil, h => by simp at h
  | _, _, 0, _, _, .cons _ _, h => by cases Option.some.inj h; rfl
  | _, _, i + 1, _, _, .cons _ t, h => by simpa using drt_key (i := i) t (by simpa using h)
theorem wk_keysT {ws : List (List Key × V)} {kvs : List (D × D)} (hG : G d = some (.frz od (.dT ws))) (k : DrT K G ws kvs) : Wk K G (kvs.map (·.1)) (Itkt d od ws) := by
  intro ioa F G' env' σ' H' i x S
  have hH : H' d = some (.frz od (.dT ws)) := S.gh _ _ (x _ _ hG)
  have hl := k.length
  refine ⟨fun e => ⟨hH, by rw [e, List.length_map]; omega⟩, fun y hy => ?_⟩
  have hlt : i < kvs.length := by have := lt_of_get hy; rwa [List.length_map] at this
  refine ⟨⟨hH, by omega⟩, fun v H'' ⟨e, kk, vv, q, h1, h2, h3⟩ => ?_⟩
  subst e h2
  rw [drt_key k h1] at hy
  cases hy
  obtain ⟨x2, S2⟩ := S.addT h3
  exact ⟨_, x2, S2, .tup upd_same (dra_kV _)⟩
end
section
variable {X : Cx} {xa : XA} {W : WX} {c : Cal}
theorem noX_nxt {K : PySem.W.Frag} {ioa : Nat → Addr} {F G : Hp} {o : Ou} {D : Ends} (q : oS K xa W ioa F o.noX G D) (W' : WX) : oS K xa W' ioa F o.noX G D := by
  cases o with
  | no => exact q
  | nx e => exact q
  | rt d e => exact q
  | ex x e => exact q
theorem noX_back {K : PySem.W.Frag} {ioa : Nat → Addr} {F G : Hp} {o : Ou} {D : Ends} (q : oS K xa W ioa F o.noX G D) : oS K xa W ioa F o G D := by
  cases o with
  | no => exact q
  | nx e => exact q
  | rt d e => exact q
  | ex x e => exact q.elim
/-- the loop over an iterator that is there -/
theorem loop_core {tg : Tg} {sb : List Sm} {K : PySem.W.Frag} {ioa : Nat → Addr} {F G1 : Hp} {e1 : Env} {σ : L2.St} {H1 : Hp} {D : Ends} {xs : List Rv.D} {J : It} (hK : K = X.K) (S1 : Sim K ioa F G1 e1 σ H1) (wk : Wk K G1 xs J)
    (q : oS K xa W ioa F (loop (fun x e2 => match asg tg x e2 with
          | some e3 => exs c sb e3
          | none => .no) xs e1) G1 D) :
    ∃ Wv : Nat → Nat → L2.St → Hp → Prop, (∃ m, Wv 0 m σ H1) ∧ ∀ i m σ H, Wv i m σ H →
      (J.stop i H ∧ D.nx σ H) ∨ (J.go i H ∧ ∃ N : L2.St → Hp → Prop, (∀ σ' H', N σ' H' → ∃ m', m' < m ∧ Wv (i + 1) m' σ' H') ∧ ∀ x H', J.yld i H x H' → tgT X tg.vs (asg tg) x σ H' fun σ2 H2 => rdS X xa W (exs c sb) { D with nx := N, ct := N, bk := D.nx } σ2 H2) := by
  subst hK
  refine ⟨fun i m σ H => m = xs.length - i ∧ i ≤ xs.length ∧ ∃ G' env', Sim X.K ioa F G' env' σ H ∧ Ext F G1 G' ∧ oS X.K xa W ioa F (loop (fun x e2 => match asg tg x e2 with
      | some e3 => exs c sb e3
      | none => .no) (xs.drop i) env') G' D, ⟨xs.length, by omega, Nat.zero_le _, G1, e1, S1, Ext.refl _ _, q⟩, ?_⟩
  rintro i m σ2 H2 ⟨hm, hi', G', env', S', x', q'⟩
  have hw' := wk ioa F G' env' σ2 H2 i x'.1 S'
  by_cases he : i = xs.length
  · left
    rw [he, List.drop_length] at q'
    exact ⟨hw'.1 he, oS_nx (e := env') q' S'⟩
  · right
    have hlt : i < xs.length := by omega
    have hx : xs[i]? = some xs[i] := List.getElem?_eq_getElem hlt
    rw [List.drop_eq_getElem_cons hlt] at q'
    obtain ⟨go, yl⟩ := hw'.2 _ hx
    refine ⟨go, fun σ' H' => ∃ m', m' < m ∧ m' = xs.length - (i + 1) ∧ i + 1 ≤ xs.length ∧ ∃ G' env', Sim X.K ioa F G' env' σ' H' ∧ Ext F G1 G' ∧ oS X.K xa W ioa F (loop (fun x e2 => match asg tg x e2 with
      | some e3 => exs c sb e3
      | none => .no) (xs.drop (i + 1)) env') G' D, fun σ' H' ⟨m', z1, z2⟩ => ⟨m', z1, z2⟩, fun v H3 hy => ?_⟩
    obtain ⟨G3, x3, S3, r3⟩ := yl v H3 hy
    refine ⟨ioa, F, G3, env', xs[i], S3, r3, ?_⟩
    have q' : oS X.K xa W ioa F ((match asg tg xs[i] env' with
      | some e3 => exs c sb e3
      | none => .no).nxt (loop (fun x e2 => match asg tg x e2 with
      | some e3 => exs c sb e3
      | none => .no) (xs.drop (i + 1)))) G' D := q'
    cases ha : asg tg xs[i] env' with
    | none => rw [ha] at q'; exact q'.elim
    | some e3 =>
      rw [ha] at q'
      intro σ4 G4 H4 _ x4 S4
      refine ⟨ioa, F, G4, e3, S4, ?_⟩
      exact oS_nxt (oS_ext (x3.trans x4) q') fun e5 σ5 G5 H5 x5 S5 q5 => ⟨_, by omega, rfl, hlt, G5, e5, S5, ((x'.trans x3).trans x4).trans x5, q5⟩
theorem mut_dk {ws : List (Key × V)} : Mut (some (.dK ws)) := True.intro
theorem mut_dt {ws : List (List Key × V)} : Mut (some (.dT ws)) := True.intro
theorem oS_lock {ioa : Nat → Addr} {F G : Hp} {d : Addr} {u : HO} {od : Obj} {o : Ou} {D : Ends} (hF : ∀ w, F d = some w → w = u) (hG : G d = some u) (hu : notE u) (q : oS X.K xa W ioa F o.noX G D) :
    oS X.K xa W ioa (lockF F d (.frz od u)) o.noX (upd G d (.frz od u)) ⟨fun σ' H' => H' d = some (.frz od u) ∧ D.nx σ' (upd H' d u), fun v H' => H' d = some (.frz od u) ∧ D.rt v (upd H' d u), fun σ' H' => H' d = some (.frz od u) ∧ D.bk σ' (upd H' d u), fun σ' H' => H' d = some (.frz od u) ∧ D.ct σ' (upd H' d u)⟩ := by
  cases o with
  | no => exact q
  | ex x e => exact q
  | nx e =>
    intro σ' G' H' x S'
    have hG' : G' d = some (.frz od u) := x.1 _ _ upd_same
    exact ⟨S'.gh _ _ hG', q σ' _ _ (x.unlock hG) (S'.unlock (G0 := G) hF hG' hu)⟩
  | rt v0 e =>
    intro v σ' G' H' x S' r
    have hG' : G' d = some (.frz od u) := x.1 _ _ upd_same
    exact ⟨S'.gh _ _ hG', q v σ' _ _ (x.unlock hG) (S'.unlock (G0 := G) hF hG' hu) (Dr.mono (Mo.unlock hG' hu) _ r)⟩
theorem s_forK {i : Nat} {x : Str} {p : Pos} {tg : Tg} {sb : List Sm} {tb : List Stmt} {et : Expr} {pos : Pos} (hp : PassesOwn (model X.prog X.w) X.A X.env X.xe) (hc : X.calm = true) (hx : PE X (.Name x p) (tVar i)) (hg : PG X et (tgT X tg.vs (asg tg)))
    (hb : PSs X tb (rdS X xa W (exs c sb))) : PS X (.For et (.Name x p) tb [] pos) (rdS X xa W (ex1 c (.forK tg i sb))) := by
  have base := ps_for (pos := pos) hp hc (pi_keys (tg := et) hx) hg hb (fun _ => rfl)
  have both : PS X (.For et (.Name x p) tb [] pos) (fun D σ H => tFor (iKeys (tVar i)) (tgT X tg.vs (asg tg)) (rdS X xa W (exs c sb)) D σ H ∨ tLock (tFor (iKeys (tVar i)) (tgT X tg.vs (asg tg)) (rdS X xa W (exs c sb))) D σ H) :=
    ⟨fun pins s σ H D I h => h.elim (base.run pins s σ H D I) ((ps_lock base).run pins s σ H D I)⟩
  refine PS.imp both fun D σ H ⟨ioa, F, G, env, S, q⟩ => ?_
  rw [ex1] at q
  cases e : frz i env with
  | no => rw [e] at q; exact q.elim
  | ex x e' => unfold frz at e; split at e <;> cases e
  | ok dd e1 =>
    rw [e] at q
    obtain ⟨v, G1, hσ, x1, S1, r1⟩ := S.frz e
    have q := oS_ext x1 q
    cases dd with
    | dict kvs =>
      have q : oS X.K xa W ioa F (loop (fun x e2 => match asg tg x e2 with
          | some e3 => exs c sb e3
          | none => .no) (kvs.map (·.1)) e1).noX G1 D := q
      -- the dict not locked yet
      have fresh : ∀ {d : Addr} {u : HO}, v = .ref d → G1 d = some u → notE u ∧ (Mut (some u)) → (∀ od : Obj, ∃ J, (∀ (R : It → Hp → Prop), R J (upd H d (.frz od u)) → iKeys (tVar i) σ (upd H d (.frz od u)) R) ∧ Wk X.K (upd G1 d (.frz od u)) (kvs.map (·.1)) J) →
          tLock (tFor (iKeys (tVar i)) (tgT X tg.vs (asg tg)) (rdS X xa W (exs c sb))) D σ H := by
        intro d u ev hG hu hJ
        have hH := S1.gh _ _ hG
        refine ⟨d, u, hH, hu.2, fun od => ?_⟩
        obtain ⟨J, h1, h2⟩ := hJ od
        refine h1 _ (loop_core rfl (S1.lock hG hu.1) h2 (noX_back (oS_lock (fun w hw => ?_) hG hu.1 q)))
        have := S1.fh _ _ hw
        rw [hH] at this
        exact (Option.some.inj this).symm
      -- an empty one
      have empty : ∀ {d : Addr} {u : HO}, v = .ref d → G1 d = some u → Mut (some u) → kvs = [] → (∀ od : Obj, ∃ J, (∀ (R : It → Hp → Prop), R J (upd H d (.frz od u)) → iKeys (tVar i) σ (upd H d (.frz od u)) R) ∧ J.stop 0 (upd H d (.frz od u))) →
          tLock (tFor (iKeys (tVar i)) (tgT X tg.vs (asg tg)) (rdS X xa W (exs c sb))) D σ H := by
        intro d u ev hG hu hk hJ
        have hH := S1.gh _ _ hG
        subst hk
        refine ⟨d, u, hH, hu, fun od => ?_⟩
        obtain ⟨J, h1, h2⟩ := hJ od
        refine h1 _ ⟨fun i m σ' H' => i = 0 ∧ σ' = σ ∧ H' = upd H d (.frz od u), ⟨0, rfl, rfl, rfl⟩, ?_⟩
        rintro i m σ' H' ⟨rfl, rfl, rfl⟩
        refine .inl ⟨h2, upd_same, ?_⟩
        rw [back_upd hH]
        exact oS_nx (e := e1) q S1
      have r1 : Dr X.K G1 v (.dict kvs) := r1
      cases r1 with
      | dk h k =>
        rename_i d ws
        rcases h with h | ⟨hn, o, h⟩
        · right
          cases k with
          | nil => exact empty rfl h mut_dk rfl fun od => ⟨Itk d od [], fun R hR => ⟨_, hσ, d, od, rfl, .inl ⟨[], upd_same, hR⟩⟩, upd_same, Nat.le_refl _⟩
          | cons h1 k1 => exact fresh rfl h ⟨List.cons_ne_nil _ _, mut_dk⟩ fun od => ⟨Itk d od _, fun R hR => ⟨_, hσ, d, od, rfl, .inl ⟨_, upd_same, hR⟩⟩, wk_keys upd_same (DrK.mono (Mo.lock h (List.cons_ne_nil _ _)) _ (.cons h1 k1))⟩
        · left
          exact ⟨_, hσ, d, o, rfl, .inl ⟨ws, S1.gh _ _ h, loop_core rfl S1 (wk_keys h k) (noX_back q)⟩⟩
      | dt h k =>
        rename_i d ws
        rcases h with h | ⟨hn, o, h⟩
        · right
          cases k with
          | nil => exact empty rfl h mut_dt rfl fun od => ⟨Itkt d od [], fun R hR => ⟨_, hσ, d, od, rfl, .inr ⟨[], upd_same, hR⟩⟩, upd_same, Nat.le_refl _⟩
          | cons h1 k1 => exact fresh rfl h ⟨List.cons_ne_nil _ _, mut_dt⟩ fun od => ⟨Itkt d od _, fun R hR => ⟨_, hσ, d, od, rfl, .inr ⟨_, upd_same, hR⟩⟩, wk_keysT upd_same (DrT.mono (Mo.lock h (List.cons_ne_nil _ _)) _ (.cons h1 k1))⟩
        · left
          exact ⟨_, hσ, d, o, rfl, .inr ⟨ws, S1.gh _ _ h, loop_core rfl S1 (wk_keysT h k) (noX_back q)⟩⟩
    | _ => exact q.elim
end
end Rv
end
section
/-! Rv, part 21a: sorted(set(..)) of ints. -/
namespace Rv
open PySem PySem.Spec PySem.Calls PyProof.Rows L2
abbrev noSet (w : World) : Obj := { cls := .type "set", dict := none, data := .set #[] 0 (.fresh 0 0 (!w.params.followText "set-order")) }
def SI (w : World) (p : Addr) (ns : List Int) : HO := .ext fun h => ∃ c, SetR w h p (fun j => decide (j ∈ ns)) c
section
variable {P : Program} {w : World} {A : Around} {E : Value → Shared → Prop} {s : Shared}
theorem nat_ne_of {a b c : Nat} (h : a < b) (e : c = b) : a ≠ c := by omega
/-- set.__init__ of a new set, by a list of ints -/
theorem set_init_ints {l S : Addr} {items : Array Value} (ns : List Int) {R : PySem.Fin → Shared → Prop} {E : Value → Shared → Prop} (hh : A.handled = none) (hS : s.heap.get? S = some (noSet w)) (hl : s.heap.IsList l items) (hne : S ≠ l)
    (hit : IntsAre items.toList ns) (hb : ns.length + 1 < scanBound)
    (h : ∀ (h' : Heap) (tk c : Nat), SetR w h' S (fun j => decide (j ∈ ns)) c → (∀ b o, b ≠ S → s.heap.get? b = some o → h'.get? b = some o) → R (.done (.ret .none)) { s with heap := h', toks := tk }) :
    wpAny (model P w) A.in1 (Builtin.«set.__init__» ⟨[.ref S, .ref l], []⟩) R E s := by
  have n1 : items.size = ns.length := by
    have := IntsAre.length hit
    simpa using this
  obtain ⟨⟨cl, dd, dt, sl⟩, ho, hcl, m, hdt⟩ := id hl
  simp only at hcl hdt
  subst hcl hdt
  have f1 := F.sub_list_set
  have f2 := F.sub_list_frozenset
  have f3 : (Value.type "list" == Value.type "dict") = false := by decide
  have hT : s.TypeIs (.ref S) "set" := ⟨_, hS, rfl⟩
  unfold Builtin.«set.__init__» noKeywords Builtin.Frozenset.updateFrom
  generalize hit' : pyIter = go
  wp_walk
  subst hit'
  refine wpAny_pyIter_list hl (wpAny_bind (wpAny_runValue ?_))
  have nI : ∀ {b : Addr} {o : Obj}, s.heap.get? b = some o → b ≠ s.heap.objs.size := fun e => Nat.ne_of_lt (Heap.lt_size e)
  have up : ∀ {b : Addr} {o : Obj} (u : Obj), s.heap.get? b = some o → (s.heap.push u).get? b = some o := fun u e => Heap.get?_push_of_some _ e
  have W := (Walks.list (prog := P) (w := w) (A := A.in1.in1) (by simp [hh]) s.heap.objs.size l (nI ho) items).toS
  have at0 : SetR w (s.heap.push { cls := .type "list_iterator", data := .fields #[.ref l, .int 0 0] }) S (fun j => decide (j ∈ ns.take 0)) 0 := setR_new_at (up _ hS)
  refine set_update_ints W S (fun z => ?_) ns n1 hb (fun i v hv => ?_) items.size 0 _ (Nat.sub_zero _) (Nat.zero_le _) ⟨⟨_, Heap.get?_push_size _ rfl, rfl, rfl⟩, ⟨_, up _ ho, rfl, m, rfl⟩⟩ ⟨0, Nat.le_refl 0, at0⟩ fun s' c mv _ hR => ?_
  · rcases List.mem_cons.mp z with z | z
    · exact nI hS z
    · exact hne (List.mem_singleton.mp z)
  · have hi : i < ns.length := n1 ▸ (Array.getElem?_eq_some_iff.mp hv).1
    obtain ⟨t, e⟩ := PyProof.Rows.IntsAre.int_at hit i v (by rw [Array.getElem?_toList]; exact hv)
    exact ⟨ns[i], t, List.getElem?_eq_getElem hi, by rw [e]; simp [List.getD_eq_getElem?_getD, List.getElem?_eq_getElem hi]⟩
  · obtain ⟨hp', gn', dr', tk', os'⟩ := s'
    obtain rfl : gn' = s.gens := mv.gens
    obtain rfl : dr' = s.drawn := mv.drawn
    obtain rfl : os' = s.os := mv.os
    refine wpAny_pure (wpAny_pure (h hp' tk' c hR fun b o hbS e => mv.heap b o (fun z => ?_) (up _ e)))
    rcases List.mem_cons.mp z with z | z
    · exact hbS z
    · exact nI e (List.mem_singleton.mp z)
/-- set(xs), xs a list of ints: what is a member is known, and its table can be walked -/
theorem call_set_ints {l : Addr} {items : Array Value} (ns : List Int) {Q : Value → Shared → Prop} (hh : A.handled = none) (hl : s.heap.IsList l items) (hit : IntsAre items.toList ns) (hb : ns.length + 1 < scanBound)
    (h : ∀ (h' : Heap) (tk c : Nat), SetR w h' s.heap.objs.size (fun j => decide (j ∈ ns)) c → (∀ b o, s.heap.get? b = some o → h'.get? b = some o) → Q (.ref s.heap.objs.size) { s with heap := h', toks := tk }) :
    wpAny (model P w) A (call (.type "set") [.ref l]) Q E s := by
  have lt : l < s.heap.objs.size := by
    obtain ⟨o, ho, _⟩ := id hl
    exact Heap.lt_size ho
  have c1 := F.called_set.mro
  have c2 := F.called_set.made
  have c3 := F.called_set.sub
  have c4 := F.called_set.notType
  have c5 := F.called_set.canCreate
  have c6 := F.typeCall_set_1 (.ref l)
  obtain ⟨c0, tl, c1⟩ := c1
  refine wpAny_call (codeAny_of_tree (wpAny_pure ⟨Code.quiet_builtin _ (by decide +kernel), codeAny_builtin F.entry_type_call ?_⟩))
  rw [Around.under_plain (weight_type_call_type "set" [.ref l] []) rfl]
  repeat (any_goals (first | assumption | wp_step))
  refine codeAny_mono (code_set_led1 (.ref l) (E := E) (Q₁ := fun v t => v = .ref s.heap.objs.size ∧ t = { s with heap := s.heap.push (noSet w) }) ⟨rfl, rfl⟩) fun r t hr => ?_
  match r, hr with
  | .error e, hr => exact hr
  | .ok .next, hr => exact hr.elim
  | .ok .brk, hr => exact hr.elim
  | .ok .cont, hr => exact hr.elim
  | .ok (.ret v), ⟨e1, e2⟩ =>
    subst e1 e2
    have up : ∀ {b : Addr} {o : Obj}, s.heap.get? b = some o → (s.heap.push (noSet w)).get? b = some o := fun e => Heap.get?_push_of_some _ e
    have g0 : (s.heap.push (noSet w)).get? s.heap.objs.size = some (noSet w) := Heap.get?_push_size _ rfl
    have hT : Shared.TypeIs { s with heap := s.heap.push (noSet w) } (.ref s.heap.objs.size) "set" := ⟨_, g0, rfl⟩
    have c7 := F.called_set.init.lookup
    have c8 := F.called_set.init.bind (.ref s.heap.objs.size)
    repeat (any_goals (first | assumption | wp_step))
    have hl' : (s.heap.push (noSet w)).IsList l items := by
      obtain ⟨o, ho, z⟩ := hl
      exact ⟨o, up ho, z⟩
    refine codeAny_mono (codeAny_call_builtin (R := wants (fun r t => r = .none ∧ Q (.ref s.heap.objs.size) t) E) F.called_set.init.plain F.entry_set_init (check_set_init_1 hT
      (set_init_ints ns (by simp [hh]) g0 hl' (Nat.ne_of_gt lt) hit hb fun h' tk c hR k => ⟨rfl, h h' tk c hR fun b o e => k b o (Nat.ne_of_lt (Heap.lt_size e)) (up e)⟩))) fun r2 t2 hr2 => ?_
    match r2, hr2 with
    | .error e, hr2 => exact hr2
    | .ok .next, hr2 => exact hr2.elim
    | .ok .brk, hr2 => exact hr2.elim
    | .ok .cont, hr2 => exact hr2.elim
    | .ok (.ret v), ⟨e1, hq⟩ =>
      subst e1
      repeat (any_goals (first | assumption | wp_step))
end
/-! ### what is met once -/
theorem intsOf_eq : ∀ {ds : List D} {ns : List Int}, intsOf ds = some ns → ds = ns.map PyData.int
  | [], ns, h => by cases h; rfl
  | .int i :: ds, ns, h => by
    have h : (intsOf ds).map (i :: ·) = some ns := h
    cases e : intsOf ds with
    | none => rw [e] at h; cases h
    | some ms => rw [e] at h; cases h; rw [intsOf_eq e]; rfl
  | .none :: _, _, h => nomatch h
  | .bool _ :: _, _, h => nomatch h
  | .str _ :: _, _, h => nomatch h
  | .list _ :: _, _, h => nomatch h
  | .tuple _ :: _, _, h => nomatch h
  | .dict _ :: _, _, h => nomatch h
theorem eqv_int (i j : Int) : PyData.eqv (.int i) (.int j) = decide (i = j) := by
  by_cases h : i = j
  · subst h; simp [PyData.eqv]
  · simp [PyData.eqv, h]
theorem once_ints : ∀ (ns seen : List Int), ∃ ms : List Int, once (seen.map PyData.int) (ns.map PyData.int) = ms.map PyData.int ∧ ms.Nodup ∧ ∀ k, k ∈ ms ↔ k ∈ ns ∧ k ∉ seen
  | [], seen => ⟨[], rfl, List.Pairwise.nil, fun k => by simp⟩
  | n :: ns, seen => by
    have e : (seen.map PyData.int).any (fun z => PyData.eqv z (.int n)) = decide (n ∈ seen) := by
      rw [List.any_map]
      have : ((fun z => PyData.eqv z (.int n)) ∘ PyData.int) = fun j : Int => decide (j = n) := funext fun j => eqv_int j n
      rw [this]
      by_cases h : n ∈ seen
      · rw [decide_eq_true h, List.any_eq_true]
        exact ⟨n, h, decide_eq_true rfl⟩
      · rw [decide_eq_false h, List.any_eq_false]
        intro j hj z
        exact h (of_decide_eq_true z ▸ hj)
    rw [List.map_cons, once, e]
    by_cases h : n ∈ seen
    · obtain ⟨ms, h1, h2, h3⟩ := once_ints ns seen
      rw [decide_eq_true h, if_pos rfl]
      refine ⟨ms, h1, h2, fun k => ?_⟩
      rw [h3, List.mem_cons]
      constructor
      · exact fun ⟨a, b⟩ => ⟨.inr a, b⟩
      · rintro ⟨rfl | a, b⟩
        · exact absurd h b
        · exact ⟨a, b⟩
    · obtain ⟨ms, h1, h2, h3⟩ := once_ints ns (seen ++ [n])
      rw [decide_eq_false h, if_neg Bool.false_ne_true]
      rw [List.map_append, List.map_singleton] at h1
      refine ⟨n :: ms, by rw [h1]; rfl, List.nodup_cons.mpr ⟨fun z => ((h3 n).mp z).2 (by simp), h2⟩, fun k => ?_⟩
      rw [List.mem_cons, h3, List.mem_append, List.mem_singleton, List.mem_cons]
      constructor
      · rintro (rfl | ⟨a, b⟩)
        · exact ⟨.inl rfl, h⟩
        · exact ⟨.inr a, fun z => b (.inl z)⟩
      · rintro ⟨a, b⟩
        by_cases hk : k = n
        · exact .inl hk
        · exact .inr ⟨a.resolve_left hk, fun z => z.elim b hk⟩
theorem dle_int (i j : Int) : dle (.int i) (.int j) = decide (i ≤ j) := by
  unfold dle
  rw [PySem.W.dataLt_int]
  by_cases h : i ≤ j
  · rw [decide_eq_true h, decide_eq_false (by omega)]; rfl
  · rw [decide_eq_false h, decide_eq_true (by omega)]; rfl
theorem sort_map (ns : List Int) : (ns.map PyData.int).mergeSort dle = (ns.mergeSort fun a b => decide (a ≤ b)).map PyData.int :=
  (List.map_mergeSort (f := PyData.int) (fun a _ b _ => (dle_int a b).symm)).symm
theorem sort_perm {ns ms : List Int} (h : ns.Perm ms) : (ns.map PyData.int).mergeSort dle = (ms.map PyData.int).mergeSort dle := by
  rw [sort_map, sort_map]
  congr 1
  have s1 := List.pairwise_mergeSort (le := fun a b : Int => decide (a ≤ b)) (by intro a b c; simp; omega) (by intro a b; simp; omega) ns
  have s2 := List.pairwise_mergeSort (le := fun a b : Int => decide (a ≤ b)) (by intro a b c; simp; omega) (by intro a b; simp; omega) ms
  refine List.Perm.eq_of_pairwise (le := fun a b : Int => decide (a ≤ b) = true) (fun a b _ _ h1 h2 => ?_) s1 s2 ((List.mergeSort_perm _ _).trans (h.trans (List.mergeSort_perm _ _).symm))
  have := of_decide_eq_true h1
  have := of_decide_eq_true h2
  omega
theorem sortable_ints (ns : List Int) : sortable (ns.map PyData.int) = true := by
  unfold sortable
  simp only [Bool.and_eq_true, Bool.or_eq_true, List.all_eq_true, List.mem_map]
  refine ⟨⟨?_, .inr ?_⟩, ?_⟩
  · rintro _ ⟨i, _, rfl⟩ _ ⟨j, _, rfl⟩
    simp [PySem.W.alike]
  · rintro _ ⟨i, _, rfl⟩
    rfl
  · rintro _ ⟨i, _, rfl⟩
    simp [SeqAt.shaped, PyData.canLay0, PyData.depth]
section
variable {X : Cx} {xa : XA} {W : WX} {c : Cal} {a : Ex} {ea : Expr} {pos : Pos}
theorem drs_ints {K : PySem.W.Frag} {G : Hp} : ∀ {ns : List Int} {xs : List V}, DrA K G xs (ns.map PyData.int) → xs = ns.map V.int
  | [], _, h => by cases h; rfl
  | n :: ns, _, h => by
    cases h with
    | cons h k =>
      cases h
      rw [drs_ints k]
      rfl
theorem ints_drs {K : PySem.W.Frag} {G : Hp} : ∀ (ns : List Int), DrA K G (ns.map V.int) (ns.map PyData.int)
  | [] => .nil
  | n :: ns => .cons (.int n) (ints_drs ns)
def rSI (K : PySem.W.Frag) (w : World) : List V → Hp → VK → Prop := fun xs H Q => ∃ a ns, xs = [.ref a] ∧ LsX K H a (ns.map V.int) ∧ ns.length < 4000 ∧ ∀ p, H p = none → Q (.ref p) (upd H p (SI w p ns))
theorem cr_setI (hc : X.calm = true) : CallR X (.type "set") (rSI X.K X.w) := by
  rintro pins s σ H xs us Q I r ⟨a, ns, rfl, hl, hn, q⟩
  obtain ⟨u, rfl, rx⟩ := vals1 r
  obtain rfl : u = .ref a := rx
  obtain ⟨_, its, n, rv, _, ho⟩ := lsx_at I hl
  refine call_set_ints ns (I.ok.hd hc) (s := s) ⟨_, ho, rfl, n, rfl⟩ (ints_of_vals (by simpa using rv)) (by unfold scanBound; omega) fun h' tk cc hR k => ?_
  have hp := I.hok.fresh (Nat.le_refl s.heap.objs.size)
  obtain ⟨o, _, _, _, ho', _⟩ := id hR
  exact ⟨.ref s.heap.objs.size, upd H s.heap.objs.size (SI X.w s.heap.objs.size ns), I.laid (t' := tk) k (Nat.le_refl _) ⟨⟨cc, hR⟩, ⟨o, ho'⟩, fun h1 h2 ⟨c1, z⟩ k2 => ⟨c1, z.at k2⟩⟩, rfl, q _ hp⟩
def rSS (K : PySem.W.Frag) (w : World) : List V → Hp → VK → Prop := fun xs H Q => ∃ p ns G, xs = [.ref p] ∧ H p = some (SI w p ns) ∧ Same G H ∧ ns.length < 4000 ∧ ∀ out q, H q = none → DrA K G out ((once [] (ns.map PyData.int)).mergeSort dle) → Q (.ref q) (upd H q (.lst out))
theorem cr_sortedSI (hc : X.calm = true) (hu : X.A.units + 70 < cLine) : CallR X (.builtin "sorted") (rSS X.K X.w) := by
  rintro pins s σ H xs us Q I r ⟨p, ns, G, rfl, hp, hG, hn, q⟩
  obtain ⟨u, rfl, rx⟩ := vals1 r
  obtain rfl : u = .ref p := rx
  obtain ⟨⟨cc, o, es, ep, t, ho, hex, hd, g, nd, hm, hb, hf, hsz, hr, hl⟩, _⟩ := I.hok p _ hp
  obtain ⟨ms, m1, m2, m3⟩ := once_ints ns []
  have m1 : once [] (ns.map PyData.int) = ms.map PyData.int := m1
  refine sorted_any (G := G) (fun ys fs => ∃ ks : List Int, ys = ks.map V.int ∧ fs = ks.map PyData.int ∧ ks.Perm ms ∧ ys.length ≤ sizeLine) hG hu (fun R hR => ?_) ?_
  · refine collect_set (A := X.A.in1) (I.ok.hd hc) ⟨o, ho, hex.1, hd⟩ hf hb hr hl fun s1 vs k1 hz g1 o1 pm => ?_
    have hv : ∀ v ∈ vs, ∃ k tk, v = Value.int k tk := fun v hv => by
      obtain ⟨e, he, ev⟩ := List.mem_map.mp (pm.mem_iff.mp hv)
      obtain ⟨k, tk, e2, _⟩ := g e he
      exact ⟨k, tk, ev.symm.trans e2⟩
    have pk : (vs.map L2.vInt).Perm (es.toList.map L2.keyOf) := by
      have z := pm.map L2.vInt
      rw [List.map_map] at z
      rw [show es.toList.map L2.keyOf = es.toList.map (L2.vInt ∘ fun x => x.2) from List.map_congr_left fun e _ => key_vInt e]
      exact z
    have ms' : (vs.map L2.vInt).Perm ms := by
      refine (List.perm_ext_iff_of_nodup (pk.nodup_iff.mpr nd) m2).mpr fun k => ?_
      rw [pk.mem_iff, ← hm k, decide_eq_true_eq, m3]
      simp
    have rv : Vals ((vs.map L2.vInt).map V.int) vs := by
      clear pm pk ms'
      induction vs with
      | nil => exact .nil
      | cons v vs ih =>
        obtain ⟨k, tk, rfl⟩ := hv v List.mem_cons_self
        exact .cons ⟨tk, rfl⟩ (ih fun u hu => hv u (List.mem_cons_of_mem _ hu))
    refine hR s1 vs _ _ (I.call' (ch := []) o1 (Un.kept k1) (I.hok.kept k1) (by rw [g1]; exact I.bare) fun _ z => nomatch z) rv ⟨_, rfl, rfl, ms', ?_⟩
    rw [rv.length, pm.length_eq, List.length_map, Array.length_toList]
    exact fits_of_scanBound hb
  · rintro _ _ ⟨ks, rfl, rfl, pk, hz⟩
    exact ⟨ints_drs ks, sortable_ints ks, hz, fun out q' hq' d => q out q' hq' (by rw [m1, ← sort_perm pk]; exact d)⟩
end
end Rv
end
section
/-! Rv, part 21b: sets of tuples of numbers, nested to any form: how they are filled. -/
namespace Rv
open PySem PySem.Spec PySem.Calls PyProof.Rows L2
/-! ### keys of numbers alone -/
mutual
def numK : NestedKey → Bool
  | .num _ => true
  | .tup ks => numKs ks
  | .none => false
  | .text _ => false
def numKs : List NestedKey → Bool
  | [] => true
  | k :: ks => numK k && numKs ks
end
/-- the tuple at a is the key k -/
structure NK (h : Heap) (k : NestedKey) (a : Addr) : Prop where
  is : NestedIs h k (.ref a)
  dp : k.depth ≤ 8
  nm : numK k = true
/-- a part of a key -/
structure Pt (h : Heap) (n : Nat) (v : Value) : Prop where
  ex : ∃ k, NestedIs h k v ∧ k.depth ≤ n ∧ numK k = true
theorem parts {h : Heap} {n : Nat} : ∀ {ks : List NestedKey} {vs : List Value}, NestedAll h ks vs → NestedKey.depthAll ks ≤ n → numKs ks = true → ∀ v ∈ vs, Pt h n v
  | [], _, x, _, _, v, hv => by cases x; cases hv
  | k :: ks, _, x, hd, hn, v, hv => by
    cases x with
    | cons x1 x2 =>
      rw [NestedKey.depthAll] at hd
      rw [numKs, Bool.and_eq_true] at hn
      rcases List.mem_cons.mp hv with rfl | hv
      · exact ⟨k, x1, by omega, hn.1⟩
      · exact parts x2 (by omega) hn.2 v hv
section
variable {P : Program} {w : World} {A : Around} {E : Value → Shared → Prop} {s : Shared}
theorem no_class : ∀ (n : Nat) (v : Value), Pt s.heap n v → ∀ (Q : Bool → Shared → Prop), Q false s → wpAny (model P w) A (ofAClassStatement n v) Q E s := by
  intro n
  induction n with
  | zero =>
    rintro v ⟨k, x, hd, hn⟩ Q h
    cases x with
    | tup _ _ _ _ => simp [NestedKey.depth] at hd
    | _ => exact wpAny_pure h
  | succ n ih =>
    rintro v ⟨k, x, hd, hn⟩ Q h
    cases x with
    | tup ho hc hdt hall =>
      rw [NestedKey.depth] at hd
      rw [numK] at hn
      have pt := parts hall (n := n) (by omega) hn
      unfold ofAClassStatement
      refine wpAny_bind (wpAny_typeOf ⟨_, ho, hc⟩ ?_)
      dsimp only
      rw [show (("tuple" : String) == "tuple") = true from by decide]
      simp only [if_true, Bool.not_true, Bool.false_eq_true, if_false]
      refine wpAny_bind (wpAny_pure ?_)
      refine wpAny_bind (wpAny_seqItems ho hdt ?_)
      refine wpAny_bind ?_
      show wpAny _ _ (forIn _ _ _) _ _ s
      rw [← Array.forIn_toList]
      refine wpAny_forIn_list _ (fun rest r s' => r.1 = none ∧ s' = s ∧ ∀ v ∈ rest, Pt s.heap n v) _ ?_ ?_ _ _ ⟨rfl, rfl, pt⟩
      · rintro v rest r s' ⟨hr, rfl, hp⟩
        refine wpAny_bind (ih v (hp v List.mem_cons_self) _ ?_)
        simp only [Bool.false_eq_true, if_false]
        exact wpAny_pure ⟨rfl, rfl, fun u hu => hp u (List.mem_cons_of_mem _ hu)⟩
      · rintro ⟨r1, r2⟩ s' ⟨hr, rfl, _⟩
        dsimp only at hr
        rw [hr]
        exact wpAny_pure h
    | _ => exact wpAny_pure h
theorem by_value : ∀ (n : Nat) (v : Value), Pt s.heap n v → ∀ (Q : Bool → Shared → Prop), Q true s → wpAny (model P w) A (hashByValue n v) Q E s := by
  intro n
  induction n with
  | zero =>
    rintro v ⟨k, x, hd, hn⟩ Q h
    cases x with
    | tup _ _ _ _ => simp [NestedKey.depth] at hd
    | none => cases hn
    | text => cases hn
    | _ => exact wpAny_pure h
  | succ n ih =>
    rintro v ⟨k, x, hd, hn⟩ Q h
    cases x with
    | none => cases hn
    | text => cases hn
    | tup ho hc hdt hall =>
      rw [NestedKey.depth] at hd
      rw [numK] at hn
      have pt := parts hall (n := n) (by omega) hn
      unfold hashByValue
      refine wpAny_bind (wpAny_specialOf ⟨_, ho, hc⟩ F.slot_tuple_hash.lookup ?_)
      show wpAny _ _ (seqItems? _ >>= _) _ _ s
      refine wpAny_bind (wpAny_seqItems ho hdt ?_)
      refine wpAny_bind ?_
      show wpAny _ _ (forIn _ _ _) _ _ s
      rw [← Array.forIn_toList]
      refine wpAny_forIn_list _ (fun rest r s' => r.1 = none ∧ s' = s ∧ ∀ v ∈ rest, Pt s.heap n v) _ ?_ ?_ _ _ ⟨rfl, rfl, pt⟩
      · rintro v rest r s' ⟨hr, rfl, hp⟩
        refine wpAny_bind (ih v (hp v List.mem_cons_self) _ ?_)
        simp only [Bool.not_true, Bool.false_eq_true, if_false]
        exact wpAny_pure ⟨rfl, rfl, fun u hu => hp u (List.mem_cons_of_mem _ hu)⟩
      · rintro ⟨r1, r2⟩ s' ⟨hr, rfl, _⟩
        dsimp only at hr
        rw [hr]
        exact wpAny_pure h
    | _ => exact wpAny_pure h
theorem NK.pt {h : Heap} {k : NestedKey} {a : Addr} (x : NK h k a) : Pt h 8 (.ref a) := ⟨k, x.is, x.dp, x.nm⟩
/-- a search among keys shows nothing -/
theorem unseen {k : NestedKey} {x : Addr} {ys : List Value} {Q : Bool → Shared → Prop} (hx : NK s.heap k x) (hy : ∀ y ∈ ys, ∃ k' c, y = Value.ref c ∧ NK s.heap k' c) (h : Q false s) : wpAny (model P w) A (searchCouldBeSeen (.ref x) ys) Q E s := by
  unfold searchCouldBeSeen
  refine wpAny_bind ?_
  refine wpAny_forIn_list _ (fun rest r s' => r.1 = none ∧ s' = s ∧ ∀ y ∈ rest, ∃ k' c, y = Value.ref c ∧ NK s.heap k' c) _ ?_ ?_ _ _ ⟨rfl, rfl, hy⟩
  · rintro v rest r s' ⟨hr, rfl, hp⟩
    obtain ⟨k', c, rfl, hc⟩ := hp v List.mem_cons_self
    have next := fun u hu => hp u (List.mem_cons_of_mem (Value.ref c) hu)
    dsimp only
    by_cases same : (x == c || (carriedByValue (.ref x) && carriedByValue (.ref c))) = true
    · exact wp_if_pos same (wpAny_pure ⟨rfl, rfl, next⟩)
    · refine wp_if_neg same (wpAny_bind (quiet_key _ _ 8 s' hx.is hx.dp A E _ ?_))
      simp only [Bool.not_true, Bool.false_eq_true, if_false]
      refine wpAny_bind (quiet_key _ _ 8 s' hc.is hc.dp A E _ ?_)
      simp only [Bool.not_true, Bool.false_eq_true, if_false]
      refine wpAny_bind (no_class 8 _ hx.pt _ ?_)
      simp only [Bool.false_eq_true, if_false]
      refine wpAny_bind (no_class 8 _ hc.pt _ ?_)
      simp only [Bool.false_eq_true, if_false]
      exact wpAny_pure ⟨rfl, rfl, next⟩
  · rintro ⟨r1, r2⟩ s' ⟨hr, rfl, _⟩
    dsimp only at hr
    rw [hr]
    exact wpAny_pure h
end
/-! ### the set -/
abbrev KL := List (Addr × NestedKey)
def hk (w : World) (p : Addr × NestedKey) : Int := p.2.hash w
def rowK (w : World) (p : Addr × NestedKey) : Int × Value := (hk w p, .ref p.1)
/-- the set at a has the keys L, laid out as es in the table t -/
structure SetN (w : World) (h : Heap) (a : Addr) (L : KL) (es : Array (Int × Value)) (ep : Nat) (t : SetTable) : Prop where
  ob : ∃ o, h.get? a = some o ∧ o.ExactSet ∧ o.data = .set es ep t
  rows : es.toList = L.map (rowK w)
  tab : TabOk t (L.map (hk w))
  nd : (L.map (·.2)).Nodup
  el : ∀ p ∈ L, NK h p.2 p.1
  plain : t.plain = true
  led : w.params.followText "set-order" = true ∨ t.led = true
  room : L.length * 5 < t.mask * 3
  few : L.length < 64
section
variable {w : World} {h h' : Heap} {a : Addr} {L : KL} {es : Array (Int × Value)} {ep : Nat} {t : SetTable}
theorem SetN.size (R : SetN w h a L es ep t) : es.size = L.length := by
  rw [← Array.length_toList, R.rows, List.length_map]
theorem fits_of {n : Nat} (h1 : t.place.size = n) (h2 : t.dummies = #[]) (h3 : n ≤ t.mask) : t.fits n = true := by
  unfold SetTable.fits SetTable.fill
  rw [h2, h1]
  simp
  exact h3
theorem SetN.fits (R : SetN w h a L es ep t) : t.fits es.size = true := by
  have h1 := R.tab.sz
  have h2 := R.room
  have h3 := R.size
  rw [List.length_map] at h1
  exact fits_of (by omega) R.tab.dm (by omega)
theorem SetN.entry (R : SetN w h a L es ep t) {i : Nat} {p : Addr × NestedKey} (e : L[i]? = some p) : es[i]? = some (rowK w p) := by
  rw [← Array.getElem?_toList, R.rows, List.getElem?_map, e, Option.map_some]
theorem SetN.gw (R : SetN w h a L es ep t) : ¬ t.gaveWay = true := by
  rw [show t.gaveWay = (t.mask % 2 == 0) from rfl, mask_odd R.tab.mok]
  simp
theorem SetN.place (R : SetN w h a L es ep t) {i : Nat} (hi : i < t.place.toList.length) : i < L.length := by
  have h1 := R.tab.sz
  rw [List.length_map] at h1
  rw [Array.length_toList] at hi
  omega
theorem NK.keep {k : NestedKey} {b : Addr} (x : NK h k b) (e : ∀ c o, h.get? c = some o → h'.get? c = some o) : NK h' k b :=
  ⟨NestedIs.at (fun c o _ _ hc _ => e c o hc) k _ x.is, x.dp, x.nm⟩
theorem NK.other {k : NestedKey} {b : Addr} {o : Obj} (x : NK h k b) (ho : h.get? a = some o) (hd : o.data = .set es ep t) (sb : Heap.SameBut a h h') : NK h' k b :=
  ⟨NestedIs.at (fun c ob vs n hc hs => (sb.2 c (fun z => by
    subst z
    rw [ho] at hc
    cases hc
    rw [hd] at hs
    cases hs)).trans hc) k _ x.is, x.dp, x.nm⟩
theorem SetN.keep (R : SetN w h a L es ep t) (ha : ∀ o, h.get? a = some o → h'.get? a = some o) (hl : ∀ p ∈ L, NK h' p.2 p.1) : SetN w h' a L es ep t := by
  obtain ⟨o, ho, r⟩ := R.ob
  exact ⟨⟨o, ha o ho, r⟩, R.rows, R.tab, R.nd, hl, R.plain, R.led, R.room, R.few⟩
end
section
variable {P : Program} {w : World} {A : Around} {E : Value → Shared → Prop} {s : Shared} {a : Addr} {L : KL} {es : Array (Int × Value)} {ep : Nat} {t : SetTable}
/-- from the c-th step of the way on -/
theorem seek (R : SetN w s.heap a L es ep t) {x : Addr} {k : NestedKey} (hx : NK s.heap k x) (hu : A.units + 8 < cLine) {z : Int} (hz : k.hash w = z) {K : Nat} (hKf : K < 10 * SetTable.turns t.mask) (hK : way t.mask z K ∉ t.place.toList) (hKb : ∀ c, c < K → way t.mask z c ∈ t.place.toList)
    {Q : SetFound → Shared → Prop} (hin : k ∈ L.map (·.2) → Q (.there none) s) (hout : k ∉ L.map (·.2) → Q (.free (way t.mask z K) false) s) :
    ∀ (f c : Nat) (st : Option SetTable.Probe), st.getD (t.probeStart z) = nth t.mask (runAt t.mask (SetTable.bits z % (t.mask + 1)) (SetTable.bits z)) c → c ≤ K → K - c < f →
      (∀ (i : Nat) p, L[i]? = some p → p.2 = k → ∃ d, c ≤ d ∧ d < K ∧ t.place.toList[i]? = some (way t.mask z d)) → wpAny (model P w) A (setSearchFrom a (.ref x) z true f st) Q E s := by
  intro f
  induction f with
  | zero => intro c st _ _ hf; omega
  | succ f ih =>
    intro c st hst hc hf hre
    obtain ⟨o, ho, hex, hd⟩ := R.ob
    rw [setSearchFrom_succ]
    refine wpAny_bind (wpAny_setState_of ho hd R.fits ?_)
    dsimp only
    refine wp_if_neg R.gw (wpAny_bind (wpAny_pure ?_))
    have nodum : ∀ (n : Nat) (p : SetTable.Probe), p.dummy = none → (nth t.mask p n).dummy = none := by
      intro n
      induction n with
      | zero => exact fun p hp => hp
      | succ n ihn =>
        intro p hp
        refine ihn (adv t.mask p) ?_
        unfold adv
        split <;> exact hp
    obtain ⟨B, hB⟩ : ∃ B, B = runAt t.mask (SetTable.bits z % (t.mask + 1)) (SetTable.bits z) := ⟨_, rfl⟩
    have wy : ∀ n, (nth t.mask B n).j = way t.mask z n := fun n => by rw [hB]
    rw [← hB] at hst
    have jq : ∀ q, (nth t.mask (nth t.mask B c) q).j = way t.mask z (c + q) := fun q => by rw [← nth_add, wy]
    have rest : c + (K - c) = K := by omega
    have hashAt : ∀ (i : Nat) p, L[i]? = some p → (es[i]?.map (·.1)).getD 0 = hk w p := fun i p hp => by
      rw [R.entry hp]
      rfl
    -- whoever has the hash and stands on the way
    have nopass : ∀ (i : Nat) p d, L[i]? = some p → p.2 = k → c ≤ d → t.place.toList[i]? = some (way t.mask z d) → ∀ m, d < c + m → (∀ (q i' : Nat), q < m → t.place.toList[i']? = some (nth t.mask (nth t.mask B c) q).j → (es[i']?.map (·.1)).getD 0 ≠ z) → False := by
      intro i p d hp hpk hcd hpl m hm hno
      refine hno (d - c) i (by omega) (by rw [jq, show c + (d - c) = d by omega]; exact hpl) ?_
      rw [hashAt i p hp, ← hz, ← hpk]
      rfl
    rcases go_spec t R.tab.ris R.tab.dm (fun i => (es[i]?.map (·.1)).getD 0) z (10 * SetTable.turns t.mask) (K - c) (nth t.mask B c) (nodum c B (by rw [hB]; rfl)) (by omega)
      (fun q hq => by rw [jq]; exact hKb _ (by omega)) (by rw [jq, rest]; exact hK) with ⟨q, i, hq, hi, hh, hno, hpr⟩ | ⟨hno, hpr⟩
    · have pr : t.probe (fun i => (es[i]?.map (·.1)).getD 0) z (st.getD (t.probeStart z)) = some (.candidate (way t.mask z (c + q)) i (nth t.mask B (c + (q + 1)))) := by
        rw [hst, ← jq q, nth_add t.mask c B (q + 1)]
        exact hpr
      rw [pr]
      dsimp only
      rw [jq] at hi
      have hil := R.place (lt_of_get hi)
      obtain ⟨p, hp⟩ : ∃ p, L[i]? = some p := ⟨_, List.getElem?_eq_getElem hil⟩
      have hpm := List.mem_of_getElem? hp
      have hpe := R.el p hpm
      have more : wpAny (model P w) A (searchRest a (.ref x) z true f es t (way t.mask z (c + q)) i (nth t.mask B (c + (q + 1)))) Q E s := by
        unfold searchRest
        rw [R.entry hp]
        dsimp only [rowK]
        refine wpAny_bind (wpAny_holding ((nestedKind P w).eqBool (x := p.2) (y := k) (a := p.1) (b := x) hu ⟨hpe.is, hpe.dp⟩ ⟨hx.is, hx.dp⟩ ?_))
        refine wpAny_bind (wpAny_setState_of ho hd R.fits ?_)
        dsimp only
        by_cases e : p.2 = k
        · refine wp_if_pos (by simp [e]) (wpAny_pure (hin (List.mem_map.mpr ⟨p, hpm, e⟩)))
        · refine wp_if_neg (by simp [e]) (wpAny_bind (wpAny_pure ?_))
          rw [sameMem]
          dsimp only
          have live := slot_live R.tab.ris hi
          simp only [if_true, live, R.entry hp]
          refine wpAny_bind (wpAny_isSame_ref_self (wpAny_bind (wpAny_pure ?_)))
          simp only [if_true]
          refine wp_if_neg (by simp [e]) ?_
          refine ih (c + (q + 1)) _ (by rw [← hB]; rfl) (by omega) (by omega) fun i0 p0 h0 hk0 => ?_
          obtain ⟨d, d1, d2, d3⟩ := hre i0 p0 h0 hk0
          refine ⟨d, ?_, d2, d3⟩
          rcases Nat.lt_trichotomy d (c + q) with y | y | y
          · exact (nopass i0 p0 d h0 hk0 d1 d3 q y hno).elim
          · rw [y] at d3
            have l2 := slot_live R.tab.ris d3
            rw [live] at l2
            injection l2 with l2
            rw [← l2, hp] at h0
            cases h0
            exact absurd hk0 e
          · omega
      by_cases hl : t.led = true
      · exact wp_if_neg (by simp [hl]) (wpAny_bind (wpAny_pure more))
      · refine wp_if_pos (by simp [hl]) (wpAny_bind (unseen hx (fun y hy => ?_) (wp_if_neg (by decide) (wpAny_bind (wpAny_pure more)))))
        obtain ⟨e, he, rfl⟩ := List.mem_map.mp hy
        have he : e ∈ es.toList := by
          have : e ∈ es ∧ e.1 = z := by simpa using he
          simpa using this.1
        rw [R.rows] at he
        obtain ⟨p2, hp2, rfl⟩ := List.mem_map.mp he
        exact ⟨p2.2, p2.1, rfl, R.el p2 hp2⟩
    · have pr : t.probe (fun i => (es[i]?.map (·.1)).getD 0) z (st.getD (t.probeStart z)) = some (.empty (way t.mask z K) none) := by
        have := jq (K - c)
        rw [rest] at this
        rw [hst, ← this]
        exact hpr
      rw [pr]
      dsimp only
      refine wpAny_pure (hout fun hm => ?_)
      obtain ⟨p0, h0, hk0⟩ := List.mem_map.mp hm
      obtain ⟨i0, hi0⟩ := List.mem_iff_getElem?.mp h0
      obtain ⟨d, d1, d2, d3⟩ := hre i0 p0 hi0 hk0
      exact nopass i0 p0 d hi0 hk0 d1 d3 (K - c) (by omega) hno
/-- the whole search -/
theorem sought (R : SetN w s.heap a L es ep t) {x : Addr} {k : NestedKey} (hx : NK s.heap k x) (hu : A.units + 8 < cLine) {Q : SetFound → Shared → Prop} (hin : k ∈ L.map (·.2) → Q (.there none) s)
    (hout : ∀ K, k ∉ L.map (·.2) → way t.mask (k.hash w) K ∉ t.place.toList → (∀ c, c < K → way t.mask (k.hash w) c ∈ t.place.toList) → Q (.free (way t.mask (k.hash w) K) false) s) :
    wpAny (model P w) A (setSearch a (.ref x) (k.hash w) true) Q E s := by
  have hroom := R.room
  obtain ⟨K, hKf, hK, hKb⟩ := R.tab.first (by rw [List.length_map]; omega) (k.hash w)
  have turns : 10 * SetTable.turns t.mask ≤ 1420 := by
    unfold SetTable.turns
    rcases R.tab.mok with e | e | e <;> omega
  refine seek R hx hu rfl hKf hK hKb hin (fun hn => hout K hn hK hKb) 100000 0 none rfl (Nat.zero_le _) (by omega) fun i p hp hpk => ?_
  have h1 : (L.map (hk w))[i]? = some (k.hash w) := by
    rw [List.getElem?_map, hp, ← hpk]
    rfl
  have hil : i < t.place.toList.length := by
    have h2 := lt_of_get hp
    have h3 := R.tab.sz
    rw [List.length_map] at h3
    rw [Array.length_toList]
    omega
  obtain ⟨d, d1, d2⟩ := R.tab.before hK h1 (List.getElem?_eq_getElem hil)
  exact ⟨d, Nat.zero_le _, d1, by rw [List.getElem?_eq_getElem hil, d2]⟩
end
/-! ### laid anew -/
theorem fm_range {α : Type} : ∀ l : List α, (List.range l.length).filterMap (fun i => l[i]?) = l
  | [] => rfl
  | x :: l => by
    rw [List.length_cons, List.range_succ_eq_map, List.filterMap_cons_some (f := fun i => (x :: l)[i]?) (b := x) rfl, List.filterMap_map]
    exact congrArg (x :: ·) (fm_range l)
theorem laid_rows {w : World} {L : KL} {es : Array (Int × Value)} {order : Array Nat} (hr : es.toList = L.map (rowK w)) (hp : order.toList.Perm (List.range L.length)) :
    ∃ L2 : KL, (order.filterMap (es[·]?)).toList = L2.map (rowK w) ∧ L2.Perm L ∧ L2.map (hk w) = order.toList.map fun i => (es.map (·.1)).getD i 0 := by
  have at_ : ∀ i : Nat, es[i]? = (L[i]?).map (rowK w) := fun i => by rw [← Array.getElem?_toList, hr, List.getElem?_map]
  refine ⟨order.toList.filterMap fun i => L[i]?, ?_, ?_, ?_⟩
  · rw [Array.toList_filterMap, List.map_filterMap]
    congr 1
    funext i
    exact at_ i
  · have := hp.filterMap fun i => L[i]?
    rwa [fm_range] at this
  · have key : ∀ l : List Nat, (∀ i ∈ l, i < L.length) → (l.filterMap fun i => L[i]?).map (hk w) = l.map fun i => (es.map (·.1)).getD i 0 := by
      intro l
      induction l with
      | nil => intro _; rfl
      | cons i l ih =>
        intro hl
        have hi := hl i List.mem_cons_self
        have e1 := List.getElem?_eq_getElem hi
        have e2 : (es.map (·.1)).getD i 0 = hk w L[i] := by
          rw [Array.getD_eq_getD_getElem?, Array.getElem?_map, at_, e1]
          rfl
        rw [List.filterMap_cons_some e1, List.map_cons, List.map_cons, ih fun j hj => hl j (List.mem_cons_of_mem _ hj), e2]
    exact key _ fun i hi => List.mem_range.mp (hp.mem_iff.mp hi)
section
variable {P : Program} {w : World} {A : Around} {E : Value → Shared → Prop} {s : Shared} {a : Addr} {L : KL} {es : Array (Int × Value)} {ep : Nat} {t : SetTable}
/-- what stands ahead of a table that is laid anew, or that is done -/
structure PreN (w : World) (h : Heap) (a : Addr) (L : KL) (es : Array (Int × Value)) (ep : Nat) (t : SetTable) : Prop where
  ob : ∃ o, h.get? a = some o ∧ o.ExactSet ∧ o.data = .set es ep t
  rows : es.toList = L.map (rowK w)
  tab : TabOk t (L.map (hk w))
  nd : (L.map (·.2)).Nodup
  el : ∀ p ∈ L, NK h p.2 p.1
  plain : t.plain = true
  led : w.params.followText "set-order" = true ∨ t.led = true
  few : L.length < 64
  fit : L.length ≤ t.mask
theorem relaid (R : PreN w s.heap a L es ep t) {n M : Nat} (hn : SetTable.sizeAbove n = M + 1) (hM : MaskOk M) (hM2 : M < 128) (hroom : L.length * 5 < M * 3) {Q : Unit → Shared → Prop}
    (hQ : ∀ h' L' es' ep' t', Heap.SameBut a s.heap h' → SetN w h' a L' es' ep' t' → L'.Perm L → Q () { s with heap := h' }) : wpAny (model P w) A (setRelay a n) Q E s := by
  obtain ⟨o, ho, hex, hd⟩ := R.ob
  have few := R.few
  have esz : es.size = L.length := by rw [← Array.length_toList, R.rows, List.length_map]
  have psz := R.tab.sz
  rw [List.length_map] at psz
  obtain ⟨t', order, e, hp, T, em, el, epl, _⟩ := relaid_ok t (hs := es.map (·.1)) (wanted := n) (M := M) (by omega) hM (by rw [Array.size_map]; omega)
  rw [Array.size_map, esz] at hp
  obtain ⟨L2, r1, r2, r3⟩ := laid_rows R.rows hp
  rw [← r3] at T
  have sz2 : (order.filterMap (es[·]?)).size = es.size := by rw [← Array.length_toList, r1, List.length_map, r2.length_eq, esz]
  rw [setRelay_eq]
  refine wpAny_bind (wpAny_setState_of ho hd (fits_of (by omega) R.tab.dm (by have := R.fit; omega)) ?_)
  dsimp only
  refine wp_if_neg (by rw [sizeLine_eq]; omega) ?_
  try refine wpAny_bind (wpAny_pure ?_)
  rw [e]
  dsimp only
  refine wpAny_bind (wp_if_neg (by rw [sz2]; simp) ?_)
  try refine wpAny_bind (wpAny_pure ?_)
  refine wpAny_pure ?_
  dsimp only
  refine wpAny_storeSet_of ho hd ?_ (by rw [sz2, esz, sizeLine_eq]; omega)
  have sb : Heap.SameBut a s.heap (s.heap.update a (Obj.putSet (order.filterMap (es[·]?)) t')) := Heap.SameBut.update ..
  refine hQ _ L2 (order.filterMap (es[·]?)) (ep + 1) t' sb ⟨⟨_, store_at ho hd, ⟨hex.1, hex.2.1, hex.2.2⟩, rfl⟩, r1, T, (r2.map (·.2)).nodup_iff.mpr R.nd, fun p hpm => (R.el p (r2.mem_iff.mp hpm)).other ho hd sb, by rw [epl]; exact R.plain, by rw [el]; exact R.led, ?_, ?_⟩ r2
  · rw [r2.length_eq, em]; exact hroom
  · rw [r2.length_eq]; exact few
/-- a key put in -/
theorem put_in (R : SetN w s.heap a L es ep t) {x : Addr} {k : NestedKey} (hx : NK s.heap k x) (hu : A.units + 8 < cLine) (hfew : L.length + 1 < 64) {Q : Bool → Shared → Prop}
    (hQ : ∀ b h' L' es' ep' t', Heap.SameBut a s.heap h' → SetN w h' a L' es' ep' t' → (k ∈ L.map (·.2) → L' = L) → (k ∉ L.map (·.2) → L'.Perm ((x, k) :: L)) → Q b { s with heap := h' }) :
    wpAny (model P w) A (setAddHashed a (.ref x) (k.hash w)) Q E s := by
  obtain ⟨o, ho, hex, hd⟩ := R.ob
  have esz := R.size
  have room := R.room
  unfold setAddHashed
  refine wpAny_holding ?_
  rw [show (100000 : Nat) = 99999 + 1 from rfl, setAddHashedIn_succ]
  refine wpAny_bind (wpAny_setState_of ho hd R.fits ?_)
  dsimp only
  refine wp_if_neg (by simp [byScan, Value.scannable]) ?_
  try refine wpAny_bind (wpAny_pure ?_)
  refine wpAny_bind (sought R hx hu (fun hm => ?_) fun K hm hK hb => ?_)
  · exact wpAny_pure (hQ false s.heap L es ep t (Heap.SameBut.refl a s.heap) R (fun _ => rfl) fun z => absurd hm z)
  · dsimp only
    refine wpAny_bind (wpAny_setState_of ho hd R.fits ?_)
    dsimp only
    obtain ⟨c1, c2, T, c4, c5, c6, _, _, c9⟩ := R.tab.put hK hb
    have pl : (t.put (way t.mask (k.hash w) K)).1.plain = true := by rw [c6]; exact R.plain
    generalize t.put (way t.mask (k.hash w) K) = tp at c1 T c4 c5 c6 c9 pl ⊢
    obtain ⟨t1, p⟩ := tp
    dsimp only at c1 T c4 c5 c6 c9 pl ⊢
    rw [← c1] at c2 T
    rw [if_pos pl]
    refine wpAny_bind (by_value 8 _ hx.pt _ ?_)
    simp only [if_true]
    rw [List.length_map] at c2 c9
    obtain ⟨L1, hL1⟩ : ∃ L1 : KL, L1 = L.take p ++ (x, k) :: L.drop p := ⟨_, rfl⟩
    have pm : L1.Perm ((x, k) :: L) := by
      rw [hL1]
      exact put_perm L p (x, k)
    have len1 : L1.length = L.length + 1 := pm.length_eq
    have rows1 : (SetTable.insertAt es p (k.hash w, Value.ref x)).toList = L1.map (rowK w) := by
      rw [SetTable.toList_insertAt, R.rows, hL1, List.map_append, List.map_cons, List.map_take, List.map_drop]
      rfl
    have T1 : TabOk t1 (L1.map (hk w)) := by
      rw [hL1, List.map_append, List.map_cons, List.map_take, List.map_drop]
      exact T
    have nd1 : (L1.map (·.2)).Nodup := (pm.map (·.2)).nodup_iff.mpr (List.nodup_cons.mpr ⟨hm, R.nd⟩)
    generalize SetTable.insertAt es p (k.hash w, Value.ref x) = es1 at rows1 ⊢
    have esz1 : es1.size = L.length + 1 := by rw [← Array.length_toList, rows1, List.length_map, len1]
    refine wpAny_bind (wpAny_storeSet_of ho hd ?_ (by rw [esz1, sizeLine_eq]; omega))
    have sb : Heap.SameBut a s.heap (s.heap.update a (Obj.putSet es1 t1)) := Heap.SameBut.update ..
    have ho1 := store_at (es' := es1) (t' := t1) ho hd
    generalize s.heap.update a (Obj.putSet es1 t1) = h1 at sb ho1 ⊢
    have el1 : ∀ p ∈ L1, NK h1 p.2 p.1 := fun p hp => by
      rcases List.mem_cons.mp (pm.mem_iff.mp hp) with e | hp
      · rw [e]; exact hx.other ho hd sb
      · exact (R.el p hp).other ho hd sb
    have ld1 : w.params.followText "set-order" = true ∨ t1.led = true := by rw [c5]; exact R.led
    have pre1 : PreN w h1 a L1 es1 (ep + 1) t1 := ⟨⟨_, ho1, ⟨hex.1, hex.2.1, hex.2.2⟩, rfl⟩, rows1, T1, nd1, el1, pl, ld1, by omega, by rw [c4]; omega⟩
    have full : t1.tooFull = decide (t1.fill * 5 ≥ t1.mask * 3) := rfl
    rw [c9, c4] at full
    by_cases hf : (L.length + 1) * 5 ≥ t.mask * 3
    · rw [decide_eq_true hf] at full
      simp only [full, Bool.not_false, Bool.and_self, if_true]
      rw [esz]
      have go : ∀ M, SetTable.sizeAbove (SetTable.grown (L.length + 1)) = M + 1 → MaskOk M → M < 128 → (L.length + 1) * 5 < M * 3 → wpAny (model P w) A (setRelay a (SetTable.grown (L.length + 1)) >>= fun _ => pure true) Q E { s with heap := h1 } := fun M m1 m2 m3 m4 => by
        refine wpAny_bind (relaid (s := { s with heap := h1 }) pre1 m1 m2 m3 (by rw [len1]; exact m4) fun h2 L2 es2 ep2 t2 sb2 R2 pm2 => ?_)
        exact wpAny_pure (hQ true h2 L2 es2 ep2 t2 (sb.trans sb2) R2 (fun z => absurd z hm) fun _ => pm2.trans pm)
      rcases R.tab.mok with e | e | e
      · obtain e2 : L.length = 4 := by rw [e] at hf room; omega
        have g := go 31 (by rw [e2]; decide +kernel) (.inr (.inl rfl)) (by omega) (by omega)
        exact g
      · obtain e2 : L.length = 18 := by rw [e] at hf room; omega
        have g := go 127 (by rw [e2]; decide +kernel) (.inr (.inr rfl)) (by omega) (by omega)
        exact g
      · rw [e] at hf; omega
    · rw [decide_eq_false hf] at full
      simp only [full, Bool.and_false, Bool.false_eq_true, if_false]
      refine wpAny_bind (wpAny_pure (wpAny_pure (hQ true h1 L1 es1 (ep + 1) t1 sb ⟨pre1.ob, rows1, T1, nd1, el1, pl, ld1, ?_, pre1.few⟩ (fun z => absurd z hm) fun _ => pm)))
      rw [len1, c4]
      omega
end
/-! ### filled from a list -/
structure GotN (ks : KL) (i : Nat) (L : KL) : Prop where
  sub : ∀ p ∈ L, p ∈ ks.take i
  all : ∀ p ∈ ks.take i, p.2 ∈ L.map (·.2)
  len : L.length ≤ i
theorem GotN.next {ks L L' : KL} {i : Nat} {x : Addr × NestedKey} (g : GotN ks i L) (e : ks[i]? = some x) (c1 : x.2 ∈ L.map (·.2) → L' = L) (c2 : x.2 ∉ L.map (·.2) → L'.Perm (x :: L)) : GotN ks (i + 1) L' := by
  have tk : ks.take (i + 1) = ks.take i ++ [x] := by
    rw [List.take_succ, e]
    rfl
  by_cases c : x.2 ∈ L.map (·.2)
  · rw [c1 c]
    refine ⟨fun p hp => by rw [tk]; exact List.mem_append_left _ (g.sub p hp), fun p hp => ?_, Nat.le_succ_of_le g.len⟩
    rw [tk] at hp
    rcases List.mem_append.mp hp with hp | hp
    · exact g.all p hp
    · rw [List.mem_singleton.mp hp]; exact c
  · have pm := c2 c
    refine ⟨fun p hp => ?_, fun p hp => ?_, ?_⟩
    · rw [tk]
      rcases List.mem_cons.mp (pm.mem_iff.mp hp) with rfl | hp
      · exact List.mem_append_right _ List.mem_cons_self
      · exact List.mem_append_left _ (g.sub p hp)
    · rw [tk] at hp
      refine (pm.map (·.2)).mem_iff.mpr ?_
      rw [List.map_cons]
      rcases List.mem_append.mp hp with hp | hp
      · exact List.mem_cons_of_mem _ (g.all p hp)
      · rw [List.mem_singleton.mp hp]; exact List.mem_cons_self
    · rw [pm.length_eq, List.length_cons]
      exact Nat.succ_le_succ g.len
section
variable {P : Program} {w : World} {A : Around} {E : Value → Shared → Prop} {s : Shared}
theorem setN_new {h : Heap} {a : Addr} (ho : h.get? a = some (noSet w)) : SetN w h a [] #[] 0 (.fresh 0 0 (!w.params.followText "set-order")) := by
  refine ⟨⟨_, ho, ⟨rfl, rfl, rfl⟩, rfl⟩, rfl, ⟨List.Pairwise.nil, rfl, rfl, .inl rfl, (fun x hx => nomatch hx), fun i z j hi => ?_⟩, List.nodup_nil, (fun p hp => nomatch hp), rfl, ?_, show 0 * 5 < 7 * 3 by decide, show 0 < 64 by decide⟩
  · simp at hi
  · show _ ∨ (!w.params.followText "set-order") = true
    cases w.params.followText "set-order" <;> simp
/-- the loop that fills it -/
theorem fill {I S : Addr} {fp wr : List Addr} {G : Array GenState → Array GenState → Prop} {n : Nat} {Pv : Nat → Value → Prop} {St : Nat → Shared → Prop} {R : Result → Shared → Prop} (W : WalksS P w A.in1 I fp wr G n Pv St) (hS : S ∉ fp) {ks : KL} (hn : n = ks.length)
    (hfew : ks.length < 64) (hval : ∀ i v, Pv i v → ∃ p, ks[i]? = some p ∧ v = .ref p.1) {h0 : Heap} (hk : ∀ p ∈ ks, NK h0 p.2 p.1) (hS0 : h0.get? S = none) (hw0 : ∀ b ∈ wr, h0.get? b = none) (hu : A.in1.units + 8 < cLine) :
    ∀ (m i : Nat) (s : Shared), n - i = m → i ≤ n → St i s → (∀ b o, h0.get? b = some o → s.heap.get? b = some o) → (∃ L es ep t, SetN w s.heap S L es ep t ∧ GotN ks i L) →
      (∀ s' L es ep t, Moved (S :: wr) G s s' → SetN w s'.heap S L es ep t → GotN ks n L → (∀ b o, h0.get? b = some o → s'.heap.get? b = some o) → R (.ok (.ret .none)) s') → codeAny (model P w) A (.builtin "set.update.loop" ⟨[.ref S, .ref I], []⟩) R s := by
  have offS : S ∉ wr := fun z => hS (W.sub _ z)
  have sub : ∀ b ∈ wr, b ∈ S :: wr := fun b hb => List.mem_cons_of_mem _ hb
  have stay : ∀ {s s' : Shared}, Moved wr G s s' → (∀ b o, h0.get? b = some o → s.heap.get? b = some o) → ∀ b o, h0.get? b = some o → s'.heap.get? b = some o := fun mv kp b o e => mv.heap b o (fun hb => by
    rw [hw0 b hb] at e
    cases e) (kp b o e)
  intro m
  induction m with
  | zero =>
    rintro i s hm hi st kp ⟨L, es, ep, t, R0, g⟩ hR
    obtain rfl : i = n := by omega
    refine codeAny_builtin F.entry_set_update_loop ?_
    rw [Around.under_plainId F.plain_set_update_loop _]
    show wpAny _ A.in1 (pyNext (.ref I) >>= _) _ _ s
    refine wpAny_bind (W.done s _ _ st fun s' mv => ?_)
    have kp' := stay mv kp
    exact wpAny_pure (hR s' L es ep t (mv.mono sub) (R0.keep (fun o e => mv.heap S o offS e) fun p hp => (hk p (List.mem_of_mem_take (g.sub p hp))).keep kp') g kp')
  | succ m ih =>
    rintro i s hm hi st kp ⟨L, es, ep, t, R0, g⟩ hR
    have hlt : i < n := by omega
    refine codeAny_builtin F.entry_set_update_loop ?_
    rw [Around.under_plainId F.plain_set_update_loop _]
    show wpAny _ A.in1 (pyNext (.ref I) >>= _) _ _ s
    refine wpAny_bind (W.item i s _ _ hlt st fun v s' hP st' mv => ?_)
    obtain ⟨p, hp, rfl⟩ := hval i v hP
    have kp' := stay mv kp
    have R1 : SetN w s'.heap S L es ep t := R0.keep (fun o e => mv.heap S o offS e) fun q hq => (hk q (List.mem_of_mem_take (g.sub q hq))).keep kp'
    have hx : NK s'.heap p.2 p.1 := (hk p (List.mem_of_getElem? hp)).keep kp'
    show wpAny _ A.in1 (holding [Value.ref p.1] (setAdd S (.ref p.1)) >>= _) _ _ s'
    refine wpAny_bind (wpAny_holding ?_)
    unfold setAdd
    refine wpAny_holding (wpAny_bind (pyHash_key (w := w) p.2 _ A.in1 s' _ hx.is (by have := hx.dp; omega) ?_))
    refine put_in (s := { s' with toks := s'.toks + p.2.draws }) R1 hx hu (by have := g.len; omega) fun b h' L' es' ep' t' sb R2 c1 c2 => ?_
    have kp2 : ∀ c o, h0.get? c = some o → h'.get? c = some o := fun c o e => (sb.2 c fun z => by
      rw [z, hS0] at e
      cases e).trans (kp' c o e)
    refine wpAny_pure ⟨plainId_quiet F.plain_set_update_loop _, ih (i + 1) _ (by omega) hlt (W.frame _ s' _ _ st' (Nat.le_add_right _ _) fun c hc o e => ?_) kp2 ⟨L', es', ep', t', R2, g.next hp c1 c2⟩ fun s2 L2 es2 ep2 t2 mv2 R3 g2 kp3 => ?_⟩
    · rw [sb.2 c fun z : c = S => hS (z ▸ hc)]
      exact e
    · refine hR s2 L2 es2 ep2 t2 (Moved.trans W.gtrans ((mv.mono sub).then_heap (Nat.le_add_right _ _) fun c o hc e => ?_) mv2) R3 g2 kp3
      rw [sb.2 c fun z : c = S => hc (z ▸ List.mem_cons_self)]
      exact e
/-- set.__init__ of a new set, by a list of keys -/
theorem init_keys {l S : Addr} {items : Array Value} {ks : KL} {R : PySem.Fin → Shared → Prop} (hh : A.handled = none) (hS : s.heap.get? S = some (noSet w)) (hl : s.heap.IsList l items) (hne : S ≠ l) (hit : items.toList = ks.map fun p => Value.ref p.1)
    {h0 : Heap} (hk : ∀ p ∈ ks, NK h0 p.2 p.1) (h0S : h0.get? S = none) (h0s : ∀ b o, h0.get? b = some o → s.heap.get? b = some o) (hfew : ks.length < 64) (hu : A.units + 12 < cLine)
    (h : ∀ (h' : Heap) (tk : Nat) L es ep t, SetN w h' S L es ep t → GotN ks ks.length L → (∀ b o, h0.get? b = some o → h'.get? b = some o) → R (.done (.ret .none)) { s with heap := h', toks := tk }) :
    wpAny (model P w) A.in1 (Builtin.«set.__init__» ⟨[.ref S, .ref l], []⟩) R E s := by
  have n1 : items.size = ks.length := by rw [← Array.length_toList, hit, List.length_map]
  obtain ⟨⟨cl, dd, dt, sl⟩, ho, hcl, m, hdt⟩ := id hl
  simp only at hcl hdt
  subst hcl hdt
  have f1 := F.sub_list_set
  have f2 := F.sub_list_frozenset
  have f3 : (Value.type "list" == Value.type "dict") = false := by decide
  have hT : s.TypeIs (.ref S) "set" := ⟨_, hS, rfl⟩
  unfold Builtin.«set.__init__» noKeywords Builtin.Frozenset.updateFrom
  generalize hit' : pyIter = go
  wp_walk
  subst hit'
  refine wpAny_pyIter_list hl (wpAny_bind (wpAny_runValue ?_))
  have lt : ∀ {b : Addr} {o : Obj}, s.heap.get? b = some o → b ≠ s.heap.objs.size := fun e => Nat.ne_of_lt (Heap.lt_size e)
  have up : ∀ {b : Addr} {o : Obj} (u : Obj), s.heap.get? b = some o → (s.heap.push u).get? b = some o := fun u e => Heap.get?_push_of_some _ e
  have Wl := (Walks.list (prog := P) (w := w) (A := A.in1.in1) (by simp [hh]) s.heap.objs.size l (lt ho) items).toS
  refine fill (A := A.in1) Wl (fun z => ?_) n1 hfew (fun i v hv => ?_) hk h0S (fun b hb => ?_) (by show A.units + 1 + 1 + 8 < cLine; omega) items.size 0 { s with heap := s.heap.push { cls := .type "list_iterator", data := .fields #[.ref l, .int 0 0] } } (Nat.sub_zero _) (Nat.zero_le _) ⟨⟨_, Heap.get?_push_size _ rfl, rfl, rfl⟩, ⟨_, up _ ho, rfl, m, rfl⟩⟩
    (fun b o e => up _ (h0s b o e)) ⟨[], #[], 0, _, setN_new (up _ hS), ⟨(fun p hp => nomatch hp), (fun p hp => by simp at hp), Nat.le_refl _⟩⟩ fun s' L es ep t mv R1 g kp => ?_
  · rcases List.mem_cons.mp z with z | z
    · exact lt hS z
    · exact hne (List.mem_singleton.mp z)
  · have e : items.toList[i]? = some v := by rw [Array.getElem?_toList]; exact hv
    rw [hit, List.getElem?_map] at e
    cases hq : ks[i]? with
    | none => rw [hq] at e; cases e
    | some p =>
      rw [hq] at e
      exact ⟨p, rfl, (Option.some.inj e).symm⟩
  · rw [List.mem_singleton.mp hb]
    cases e : h0.get? s.heap.objs.size with
    | none => rfl
    | some o => exact absurd rfl (lt (h0s _ _ e))
  · obtain ⟨hp', gn', dr', tk', os'⟩ := s'
    obtain rfl : gn' = s.gens := mv.gens
    obtain rfl : dr' = s.drawn := mv.drawn
    obtain rfl : os' = s.os := mv.os
    rw [n1] at g
    exact wpAny_pure (wpAny_pure (h hp' tk' L es ep t R1 g kp))
/-- set(xs), xs a list of keys -/
theorem call_set_keys {l : Addr} {items : Array Value} {ks : KL} {Q : Value → Shared → Prop} (hh : A.handled = none) (hl : s.heap.IsList l items) (hit : items.toList = ks.map fun p => Value.ref p.1) (hk : ∀ p ∈ ks, NK s.heap p.2 p.1) (hfew : ks.length < 64) (hu : A.units + 16 < cLine)
    (h : ∀ (h' : Heap) (tk : Nat) L es ep t, SetN w h' s.heap.objs.size L es ep t → GotN ks ks.length L → (∀ b o, s.heap.get? b = some o → h'.get? b = some o) → Q (.ref s.heap.objs.size) { s with heap := h', toks := tk }) :
    wpAny (model P w) A (call (.type "set") [.ref l]) Q E s := by
  have lt : l < s.heap.objs.size := by
    obtain ⟨o, ho, _⟩ := id hl
    exact Heap.lt_size ho
  have c1 := F.called_set.mro
  have c2 := F.called_set.made
  have c3 := F.called_set.sub
  have c4 := F.called_set.notType
  have c5 := F.called_set.canCreate
  have c6 := F.typeCall_set_1 (.ref l)
  obtain ⟨c0, tl, c1⟩ := c1
  refine wpAny_call (codeAny_of_tree (wpAny_pure ⟨Code.quiet_builtin _ (by decide +kernel), codeAny_builtin F.entry_type_call ?_⟩))
  rw [Around.under_plain (weight_type_call_type "set" [.ref l] []) rfl]
  repeat (any_goals (first | assumption | wp_step))
  refine codeAny_mono (code_set_led1 (.ref l) (E := E) (Q₁ := fun v t => v = .ref s.heap.objs.size ∧ t = { s with heap := s.heap.push (noSet w) }) ⟨rfl, rfl⟩) fun r t hr => ?_
  match r, hr with
  | .error e, hr => exact hr
  | .ok .next, hr => exact hr.elim
  | .ok .brk, hr => exact hr.elim
  | .ok .cont, hr => exact hr.elim
  | .ok (.ret v), ⟨e1, e2⟩ =>
    subst e1 e2
    have up : ∀ {b : Addr} {o : Obj}, s.heap.get? b = some o → (s.heap.push (noSet w)).get? b = some o := fun e => Heap.get?_push_of_some _ e
    have g0 : (s.heap.push (noSet w)).get? s.heap.objs.size = some (noSet w) := Heap.get?_push_size _ rfl
    have hT : Shared.TypeIs { s with heap := s.heap.push (noSet w) } (.ref s.heap.objs.size) "set" := ⟨_, g0, rfl⟩
    have c7 := F.called_set.init.lookup
    have c8 := F.called_set.init.bind (.ref s.heap.objs.size)
    repeat (any_goals (first | assumption | wp_step))
    have hl' : (s.heap.push (noSet w)).IsList l items := by
      obtain ⟨o, ho, z⟩ := hl
      exact ⟨o, up ho, z⟩
    have h0S : s.heap.get? s.heap.objs.size = none := by
      cases e : s.heap.get? s.heap.objs.size with
      | none => rfl
      | some o => exact absurd (Heap.lt_size e) (Nat.lt_irrefl _)
    refine codeAny_mono (codeAny_call_builtin (R := wants (fun r t => r = .none ∧ Q (.ref s.heap.objs.size) t) E) F.called_set.init.plain F.entry_set_init (check_set_init_1 hT
      (init_keys (A := A.in1) (by simp [hh]) g0 hl' (Nat.ne_of_gt lt) hit hk h0S (fun b o e => up e) hfew (by show A.units + 1 + 12 < cLine; omega) fun h' tk L es ep t hR g kp => ⟨rfl, h h' tk L es ep t hR g kp⟩))) fun r2 t2 hr2 => ?_
    match r2, hr2 with
    | .error e, hr2 => exact hr2
    | .ok .next, hr2 => exact hr2.elim
    | .ok .brk, hr2 => exact hr2.elim
    | .ok .cont, hr2 => exact hr2.elim
    | .ok (.ret v), ⟨e1, hq⟩ =>
      subst e1
      repeat (any_goals (first | assumption | wp_step))
end
end Rv
end
section
/-! Rv, part 21c: sorted(set(xs)), len(set(xs)): numbers, and tuples of numbers nested to any form. -/
namespace Rv
open PySem PySem.Spec PySem.Calls PyProof.Rows L2
/-! ### keys and data -/
mutual
theorem keyN_eq : ∀ (d : D) {k : NestedKey}, keyN d = some k → d = k.data ∧ numK k = true
  | .int i, k, h => by
    cases h
    exact ⟨rfl, rfl⟩
  | .tuple ds, k, h => by
    rw [keyN] at h
    cases e : keyNs ds with
    | none => rw [e] at h; cases h
    | some ks =>
      rw [e] at h
      cases h
      obtain ⟨h1, h2⟩ := keyNs_eq ds e
      exact ⟨by rw [NestedKey.data, ← h1], by rw [numK]; exact h2⟩
  | .none, k, h => by cases h
  | .bool b, k, h => by cases h
  | .str x, k, h => by cases h
  | .list xs, k, h => by cases h
  | .dict xs, k, h => by cases h
theorem keyNs_eq : ∀ (ds : List D) {ks : List NestedKey}, keyNs ds = some ks → ds = NestedKey.datas ks ∧ numKs ks = true
  | [], ks, h => by
    cases h
    exact ⟨rfl, rfl⟩
  | d :: ds, ks, h => by
    rw [keyNs] at h
    cases e1 : keyN d with
    | none => rw [e1] at h; cases h
    | some k =>
      cases e2 : keyNs ds with
      | none => rw [e1, e2] at h; cases h
      | some ks' =>
        rw [e1, e2] at h
        cases h
        obtain ⟨h1, h2⟩ := keyN_eq d e1
        obtain ⟨h3, h4⟩ := keyNs_eq ds e2
        exact ⟨by rw [NestedKey.datas, ← h1, ← h3], by rw [numKs, h2, h4]; rfl⟩
end
mutual
theorem eqv_data : ∀ (a b : NestedKey), numK a = true → numK b = true → PyData.eqv a.data b.data = NestedKey.beq a b
  | .num i, .num j, _, _ => by
    rw [NestedKey.data, NestedKey.data, eqv_int, NestedKey.beq]
  | .num i, .tup ks, _, _ => by simp [NestedKey.data, PyData.eqv, NestedKey.beq]
  | .tup ks, .num j, _, _ => by simp [NestedKey.data, PyData.eqv, NestedKey.beq]
  | .tup ks, .tup ls, h1, h2 => by
    rw [numK] at h1 h2
    rw [NestedKey.data, NestedKey.data, PyData.eqv, NestedKey.beq]
    exact eqv_datas ks ls h1 h2
  | .none, _, h, _ => by cases h
  | .text _, _, h, _ => by cases h
  | .num _, .none, _, h => by cases h
  | .num _, .text _, _, h => by cases h
  | .tup _, .none, _, h => by cases h
  | .tup _, .text _, _, h => by cases h
theorem eqv_datas : ∀ (as bs : List NestedKey), numKs as = true → numKs bs = true → PyData.eqvAll (NestedKey.datas as) (NestedKey.datas bs) = NestedKey.beqAll as bs
  | [], [], _, _ => by simp [NestedKey.datas, PyData.eqvAll, NestedKey.beqAll]
  | [], b :: bs, _, _ => by simp [NestedKey.datas, PyData.eqvAll, NestedKey.beqAll]
  | a :: as, [], _, _ => by simp [NestedKey.datas, PyData.eqvAll, NestedKey.beqAll]
  | a :: as, b :: bs, h1, h2 => by
    rw [numKs, Bool.and_eq_true] at h1 h2
    rw [NestedKey.datas, NestedKey.datas, PyData.eqvAll, NestedKey.beqAll, eqv_data a b h1.1 h2.1, eqv_datas as bs h1.2 h2.2]
end
mutual
theorem nested_of {h : Heap} : ∀ (d : D) {k : NestedKey} {v : Value} {as : List Addr}, keyN d = some k → Reads h v d as → NestedIs h k v
  | .int i, k, v, as, e, r => by
    cases e
    cases r
    exact .int _ _
  | .tuple ds, k, v, as, e, r => by
    rw [keyN] at e
    cases e2 : keyNs ds with
    | none => rw [e2] at e; cases e
    | some ks =>
      rw [e2] at e
      cases e
      cases r with
      | tuple h1 h2 h3 h4 => exact .tup h1 h2 h3 (nesteds_of ds e2 h4)
  | .none, _, _, _, e, _ => by cases e
  | .bool _, _, _, _, e, _ => by cases e
  | .str _, _, _, _, e, _ => by cases e
  | .list _, _, _, _, e, _ => by cases e
  | .dict _, _, _, _, e, _ => by cases e
theorem nesteds_of {h : Heap} : ∀ (ds : List D) {ks : List NestedKey} {vs : List Value} {as : List Addr}, keyNs ds = some ks → ReadsAll h vs ds as → NestedAll h ks vs
  | [], ks, vs, as, e, r => by
    cases e
    cases r
    exact .nil
  | d :: ds, ks, vs, as, e, r => by
    rw [keyNs] at e
    cases e1 : keyN d with
    | none => rw [e1] at e; cases e
    | some k =>
      cases e2 : keyNs ds with
      | none => rw [e1, e2] at e; cases e
      | some ks' =>
        rw [e1, e2] at e
        cases e
        cases r with
        | cons r1 r2 => exact .cons (nested_of d e1 r1) (nesteds_of ds e2 r2)
end
theorem setKey_eq {d : D} {k : NestedKey} (h : setKey d = some k) : (∃ ds, d = .tuple ds) ∧ keyN d = some k ∧ k.depth ≤ 8 := by
  unfold setKey at h
  split at h
  · rename_i ds
    cases e : keyN (.tuple ds) with
    | none => rw [e] at h; cases h
    | some k' =>
      rw [e] at h
      have h : (if k'.depth ≤ 8 then some k' else none) = some k := h
      split at h
      · cases h
        exact ⟨⟨ds, rfl⟩, rfl, by assumption⟩
      · cases h
  · cases h
theorem setKeys_eq : ∀ {ds : List D} {ks : List NestedKey}, setKeys ds = some ks → ds = ks.map NestedKey.data ∧ ∀ k ∈ ks, numK k = true
  | [], ks, h => by
    cases h
    exact ⟨rfl, fun k hk => nomatch hk⟩
  | d :: ds, ks, h => by
    rw [setKeys] at h
    cases e1 : setKey d with
    | none => rw [e1] at h; cases h
    | some k =>
      cases e2 : setKeys ds with
      | none => rw [e1, e2] at h; cases h
      | some ks' =>
        rw [e1, e2] at h
        cases h
        obtain ⟨_, h1, _⟩ := setKey_eq e1
        obtain ⟨h2, h3⟩ := keyN_eq d h1
        obtain ⟨h4, h5⟩ := setKeys_eq e2
        refine ⟨by rw [List.map_cons, ← h2, ← h4], fun x hx => ?_⟩
        rcases List.mem_cons.mp hx with rfl | hx
        · exact h3
        · exact h5 x hx
/-- what is met once, of a list of keys -/
theorem once_keys : ∀ (ks seen : List NestedKey), (∀ k ∈ ks, numK k = true) → (∀ k ∈ seen, numK k = true) → ∃ ms : List NestedKey, once (seen.map NestedKey.data) (ks.map NestedKey.data) = ms.map NestedKey.data ∧ ms.Nodup ∧ ∀ k, k ∈ ms ↔ k ∈ ks ∧ k ∉ seen
  | [], seen, _, _ => ⟨[], rfl, List.Pairwise.nil, fun k => by simp⟩
  | n :: ns, seen, hk, hs => by
    have e : (seen.map NestedKey.data).any (fun z => PyData.eqv z n.data) = decide (n ∈ seen) := by
      rw [List.any_map]
      by_cases h : n ∈ seen
      · rw [decide_eq_true h, List.any_eq_true]
        exact ⟨n, h, by show PyData.eqv n.data n.data = true; rw [eqv_data n n (hs n h) (hs n h), NestedKey.beq_self]⟩
      · rw [decide_eq_false h, List.any_eq_false]
        intro j hj z
        have z : PyData.eqv j.data n.data = true := z
        rw [eqv_data j n (hs j hj) (hk n List.mem_cons_self)] at z
        exact h (NestedKey.eq_of_beq _ _ z ▸ hj)
    rw [List.map_cons, once, e]
    by_cases h : n ∈ seen
    · obtain ⟨ms, h1, h2, h3⟩ := once_keys ns seen (fun k h => hk k (List.mem_cons_of_mem _ h)) hs
      rw [decide_eq_true h, if_pos rfl]
      refine ⟨ms, h1, h2, fun k => ?_⟩
      rw [h3, List.mem_cons]
      constructor
      · exact fun ⟨a, b⟩ => ⟨.inr a, b⟩
      · rintro ⟨rfl | a, b⟩
        · exact absurd h b
        · exact ⟨a, b⟩
    · obtain ⟨ms, h1, h2, h3⟩ := once_keys ns (seen ++ [n]) (fun k h => hk k (List.mem_cons_of_mem _ h)) (fun k h => by
        rcases List.mem_append.mp h with h | h
        · exact hs k h
        · rw [List.mem_singleton.mp h]; exact hk n List.mem_cons_self)
      rw [decide_eq_false h, if_neg Bool.false_ne_true]
      rw [List.map_append, List.map_singleton] at h1
      refine ⟨n :: ms, by rw [h1]; rfl, List.nodup_cons.mpr ⟨fun z => ((h3 n).mp z).2 (by simp), h2⟩, fun k => ?_⟩
      rw [List.mem_cons, h3, List.mem_append, List.mem_singleton, List.mem_cons]
      constructor
      · rintro (rfl | ⟨a, b⟩)
        · exact ⟨.inl rfl, h⟩
        · exact ⟨.inr a, fun z => b (.inl z)⟩
      · rintro ⟨a, b⟩
        by_cases hk : k = n
        · exact .inl hk
        · exact .inr ⟨a.resolve_left hk, fun z => z.elim b hk⟩
/-! ### one order -/
theorem dle_total (a b : D) : (dle a b || dle b a) = true := by
  unfold dle W.dataLt
  cases e1 : PyProof.Rows.lexLt itemOrd (W.keyToks b) (W.keyToks a) with
  | false => rfl
  | true =>
    cases e2 : PyProof.Rows.lexLt itemOrd (W.keyToks a) (W.keyToks b) with
    | false => rfl
    | true =>
      have := lex_trans _ _ _ e1 e2
      rw [lex_irrefl] at this
      cases this
theorem dle_trans (a b c : D) (h1 : dle a b = true) (h2 : dle b c = true) : dle a c = true := by
  unfold dle W.dataLt at *
  rw [Bool.not_eq_true'] at *
  cases e : PyProof.Rows.lexLt itemOrd (W.keyToks c) (W.keyToks a) with
  | false => rfl
  | true =>
    rcases lex_negTrans _ (W.keyToks b) _ e with z | z
    · rw [z] at h2; cases h2
    · rw [z] at h1; cases h1
theorem dle_anti {a b : D} (al : W.alike a b = true) (h1 : dle a b = true) (h2 : dle b a = true) : PyData.eqv a b = true := by
  unfold dle W.dataLt at h1 h2
  rw [Bool.not_eq_true'] at h1 h2
  have e := lex_total _ _ h2 h1
  cases hq : PyData.eqv a b with
  | true => rfl
  | false =>
    have z := (W.toks_eqv a b al).2 hq [] [.inl 0]
    rw [← e, W.lex_pre, lex_irrefl] at z
    cases z
theorem sort_same {f : NestedKey → D} {ks ms : List NestedKey} (pm : ks.Perm ms) (anti : ∀ a ∈ ks, ∀ b ∈ ks, dle (f a) (f b) = true → dle (f b) (f a) = true → f a = f b) : (ks.map f).mergeSort dle = (ms.map f).mergeSort dle := by
  have s1 := List.pairwise_mergeSort (le := dle) dle_trans dle_total (ks.map f)
  have s2 := List.pairwise_mergeSort (le := dle) dle_trans dle_total (ms.map f)
  refine List.Perm.eq_of_pairwise (le := fun a b => dle a b = true) (fun a b ha hb h1 h2 => ?_) s1 s2 ((List.mergeSort_perm _ _).trans ((pm.map f).trans (List.mergeSort_perm _ _).symm))
  obtain ⟨k, hk, rfl⟩ := List.mem_map.mp ((List.mergeSort_perm _ _).mem_iff.mp ha)
  obtain ⟨l, hl, rfl⟩ := List.mem_map.mp ((List.mergeSort_perm _ _).mem_iff.mp hb)
  exact anti k hk l (pm.mem_iff.mpr hl) h1 h2
/-! ### in the abstract heap -/
structure SetN0 (w : World) (h : Heap) (a : Addr) (L : KL) : Prop where
  ex : ∃ (es : Array (Int × Value)) (ep : Nat) (t : SetTable), (∃ o, h.get? a = some o ∧ o.ExactSet ∧ o.data = .set es ep t) ∧ es.toList = L.map (rowK w) ∧ TabOk t (L.map (hk w)) ∧ (L.map (·.2)).Nodup ∧ t.plain = true ∧ (w.params.followText "set-order" = true ∨ t.led = true) ∧ L.length * 5 < t.mask * 3 ∧ L.length < 64
def SN (w : World) (a : Addr) (L : KL) : HO := .ext fun h => SetN0 w h a L
theorem SetN.n0 {w : World} {h : Heap} {a : Addr} {L : KL} {es : Array (Int × Value)} {ep : Nat} {t : SetTable} (R : SetN w h a L es ep t) : SetN0 w h a L := ⟨es, ep, t, R.ob, R.rows, R.tab, R.nd, R.plain, R.led, R.room, R.few⟩
theorem SetN0.full {w : World} {h : Heap} {a : Addr} {L : KL} (R : SetN0 w h a L) (el : ∀ p ∈ L, NK h p.2 p.1) : ∃ es ep t, SetN w h a L es ep t := by
  obtain ⟨es, ep, t, h1, h2, h3, h4, h5, h6, h7, h8⟩ := R.ex
  exact ⟨es, ep, t, h1, h2, h3, h4, el, h5, h6, h7, h8⟩
/-- values that are keys -/
def KeysAre (K : PySem.W.Frag) (G : Hp) (ks : KL) : Prop := ∀ p ∈ ks, Dr K G (.ref p.1) p.2.data ∧ keyN p.2.data = some p.2 ∧ p.2.depth ≤ 8
theorem drs_keys {K : PySem.W.Frag} {G : Hp} : ∀ {vs : List V} {ds : List D} {ks : List NestedKey}, DrA K G vs ds → setKeys ds = some ks → ∃ L : KL, vs = (L.map fun p => V.ref p.1) ∧ L.map (·.2) = ks ∧ KeysAre K G L
  | _, _, ks, .nil, h => by
    cases h
    exact ⟨[], rfl, rfl, fun p hp => nomatch hp⟩
  | _, _, ks, .cons (d := d) (ds := ds) h k, e => by
    rw [setKeys] at e
    cases e1 : setKey d with
    | none => rw [e1] at e; cases e
    | some k0 =>
      cases e2 : setKeys ds with
      | none => rw [e1, e2] at e; cases e
      | some ks' =>
        rw [e1, e2] at e
        cases e
        obtain ⟨L, l1, l2, l3⟩ := drs_keys k e2
        obtain ⟨⟨xs, rfl⟩, h1, h2⟩ := setKey_eq e1
        obtain ⟨h3, _⟩ := keyN_eq _ h1
        cases h with
        | tup hg hk =>
          rename_i a vs0
          refine ⟨(a, k0) :: L, by rw [l1]; rfl, by rw [List.map_cons, l2], fun p hp => ?_⟩
          rcases List.mem_cons.mp hp with rfl | hp
          · exact ⟨by rw [← h3]; exact .tup hg hk, by rw [← h3]; exact h1, h2⟩
          · exact l3 p hp
section
variable {X : Cx} {xa : XA} {W : WX} {c : Cal} {a : Ex} {ea : Expr} {pos : Pos}
theorem nk_of {pins : List (Addr × Obj)} {σ : L2.St} {H G : Hp} {s : Shared} {p : Addr × NestedKey} (I : Inv X pins σ H s) (m : Same G H) (h : Dr X.K G (.ref p.1) p.2.data ∧ keyN p.2.data = some p.2 ∧ p.2.depth ≤ 8) : NK s.heap p.2 p.1 := by
  obtain ⟨h1, h2, h3⟩ := h
  obtain ⟨as, r, _⟩ := Dr.reads I m _ h1 (u := .ref p.1) rfl
  exact ⟨nested_of _ h2 r, h3, (keyN_eq _ h2).2⟩
theorem vals_refs : ∀ {ks : KL} {us : List Value}, Vals (ks.map fun p => V.ref p.1) us → us = ks.map fun p => Value.ref p.1
  | [], _, .nil => rfl
  | p :: ks, _, .cons r t => by
    cases r
    rw [vals_refs t]
    rfl
theorem refs_vals : ∀ ks : KL, Vals (ks.map fun p => V.ref p.1) (ks.map fun p => Value.ref p.1)
  | [] => .nil
  | p :: ks => .cons rfl (refs_vals ks)
def rSN (K : PySem.W.Frag) (w : World) : List V → Hp → VK → Prop := fun xs H Q => ∃ a ks G, xs = [.ref a] ∧ Same G H ∧ LsX K H a (ks.map fun p => V.ref p.1) ∧ KeysAre K G ks ∧ ks.length < 64 ∧ ∀ p L, H p = none → (∀ q ∈ L, q ∈ ks) → (∀ q ∈ ks, q.2 ∈ L.map (·.2)) → Q (.ref p) (upd H p (SN w p L))
theorem cr_setN (hc : X.calm = true) (hu : X.A.units + 70 < cLine) : CallR X (.type "set") (rSN X.K X.w) := by
  rintro pins s σ H xs us Q I r ⟨a, ks, G, rfl, m, hl, hk, hn, q⟩
  obtain ⟨u, rfl, rx⟩ := vals1 r
  obtain rfl : u = .ref a := rx
  obtain ⟨_, its, n, rv, _, ho⟩ := lsx_at I hl
  refine call_set_keys (I.ok.hd hc) (s := s) ⟨_, ho, rfl, n, rfl⟩ (by simpa using vals_refs rv) (fun p hp => nk_of I m (hk p hp)) hn (by omega) fun h' tk L es ep t hR g k => ?_
  have hp := I.hok.fresh (Nat.le_refl s.heap.objs.size)
  have n0 := hR.n0
  obtain ⟨es', ep', t', ⟨o, ho', r'⟩, q'⟩ := id n0.ex
  refine ⟨.ref s.heap.objs.size, upd H s.heap.objs.size (SN X.w s.heap.objs.size L), I.laid (t' := tk) k (Nat.le_refl _) ⟨n0, ⟨o, ho'⟩, fun h1 h2 z k2 => ?_⟩, rfl, q _ L hp (fun p hp => List.mem_of_mem_take (g.sub p hp)) fun p hp => g.all p (by rw [List.take_length]; exact hp)⟩
  obtain ⟨es2, ep2, t2, ⟨o2, ho2, r2⟩, q2⟩ := SetN0.ex z
  exact ⟨es2, ep2, t2, ⟨o2, k2 o2 ho2, r2⟩, q2⟩
/-- set: of numbers or of keys -/
def rSet2 (K : PySem.W.Frag) (w : World) : List V → Hp → VK → Prop := fun xs H Q => rSI K w xs H Q ∨ rSN K w xs H Q
theorem cr_set2 (hc : X.calm = true) (hu : X.A.units + 70 < cLine) : CallR X (.type "set") (rSet2 X.K X.w) := by
  rintro pins s σ H xs us Q I r (h | h)
  · exact cr_setI hc pins s σ H xs us Q I r h
  · exact cr_setN hc hu pins s σ H xs us Q I r h
theorem perm_map {α β : Type} {f : α → β} {as bs : List β} (h : as.Perm bs) : ∀ L : List α, bs = L.map f → ∃ L1 : List α, L1.Perm L ∧ as = L1.map f := by
  induction h with
  | nil =>
    intro L e
    cases L with
    | nil => exact ⟨[], .nil, rfl⟩
    | cons _ _ => cases e
  | cons x _ ih =>
    intro L e
    cases L with
    | nil => cases e
    | cons y L =>
      obtain ⟨e1, e2⟩ := List.cons.inj e
      obtain ⟨L1, p, r⟩ := ih L e2
      exact ⟨y :: L1, p.cons y, by rw [List.map_cons, ← r, e1]⟩
  | swap x y l =>
    intro L e
    match L, e with
    | u :: v :: L, e =>
      obtain ⟨e1, e2⟩ := List.cons.inj e
      obtain ⟨e3, e4⟩ := List.cons.inj e2
      exact ⟨v :: u :: L, .swap u v L, by rw [List.map_cons, List.map_cons, ← e1, ← e3, ← e4]⟩
  | trans _ _ ih1 ih2 =>
    intro L e
    obtain ⟨L1, p1, r1⟩ := ih2 L e
    obtain ⟨L2, p2, r2⟩ := ih1 L1 r1
    exact ⟨L2, p2.trans p1, r2⟩
def rSSN (K : PySem.W.Frag) (w : World) : List V → Hp → VK → Prop := fun xs H Q => ∃ (p : Addr) (L : KL) (ms : List NestedKey) (G : Hp), xs = [.ref p] ∧ H p = some (SN w p L) ∧ Same G H ∧ KeysAre K G L ∧ ms.Nodup ∧ (∀ k, k ∈ L.map (·.2) ↔ k ∈ ms) ∧ sortable (ms.map NestedKey.data) = true ∧
  ∀ out q, H q = none → DrA K G out ((ms.map NestedKey.data).mergeSort dle) → Q (.ref q) (upd H q (.lst out))
theorem sortable_perm {ds es : List D} (p : ds.Perm es) (h : sortable es = true) : sortable ds = true := by
  unfold sortable at h ⊢
  simp only [Bool.and_eq_true, Bool.or_eq_true, List.all_eq_true] at h ⊢
  obtain ⟨⟨h1, h2⟩, h3⟩ := h
  have mp : ∀ x, x ∈ ds → x ∈ es := fun x => p.mem_iff.mp
  refine ⟨⟨fun x hx y hy => h1 x (mp x hx) y (mp y hy), h2.imp (fun z x hx => z x (mp x hx)) fun z x hx => z x (mp x hx)⟩, fun x hx => h3 x (mp x hx)⟩
theorem cr_sortedSN (hc : X.calm = true) (hu : X.A.units + 70 < cLine) : CallR X (.builtin "sorted") (rSSN X.K X.w) := by
  rintro pins s σ H xs us Q I r ⟨p, L, ms, G, rfl, hp, hG, hk, nd, hm, hs, q⟩
  obtain ⟨u, rfl, rx⟩ := vals1 r
  obtain rfl : u = .ref p := rx
  obtain ⟨es, ep, t, R⟩ := SetN0.full (I.hok p _ hp).1 fun q hq => nk_of I hG (hk q hq)
  obtain ⟨o, ho, hex, hd⟩ := R.ob
  have few := R.few
  have esz := R.size
  have pms : (L.map (·.2)).Perm ms := (List.perm_ext_iff_of_nodup R.nd nd).mpr hm
  refine sorted_any (G := G) (fun ys fs => ∃ L1 : KL, ys = (L1.map fun q => V.ref q.1) ∧ fs = (L1.map (·.2)).map NestedKey.data ∧ L1.Perm L) hG hu (fun Rr hR => ?_) ?_
  · refine collect_set (A := X.A.in1) (I.ok.hd hc) ⟨o, ho, hex.1, hd⟩ R.fits (by unfold scanBound; omega) R.tab.ris R.led fun s1 vs k1 hz g1 o1 pm => ?_
    have e2 : es.toList.map (·.2) = L.map fun q => Value.ref q.1 := by
      rw [R.rows, List.map_map]
      rfl
    rw [e2] at pm
    obtain ⟨L1, pl, rfl⟩ := perm_map pm L rfl
    exact hR s1 _ _ _ (I.call' (ch := []) o1 (Un.kept k1) (I.hok.kept k1) (by rw [g1]; exact I.bare) fun _ z => nomatch z) (refs_vals L1) ⟨L1, rfl, rfl, pl⟩
  · rintro _ _ ⟨L1, rfl, rfl, pl⟩
    have drs : ∀ L1 : KL, (∀ q ∈ L1, q ∈ L) → DrA X.K G (L1.map fun q => V.ref q.1) ((L1.map (·.2)).map NestedKey.data) := by
      intro L1
      induction L1 with
      | nil => intro _; exact .nil
      | cons q L1 ih => intro h; exact .cons (hk q (h q List.mem_cons_self)).1 (ih fun r hr => h r (List.mem_cons_of_mem _ hr))
    have pk : (L1.map (·.2)).Perm ms := (pl.map (·.2)).trans pms
    have ss := sortable_perm (pk.map NestedKey.data) hs
    refine ⟨drs L1 fun q hq => pl.mem_iff.mp hq, ss, ?_, fun out q' hq' d => q out q' hq' ?_⟩
    · rw [List.length_map, pl.length_eq, PySem.sizeLine_eq]
      omega
    · rw [← sort_same pk ?_]
      · exact d
      · intro x hx y hy h1 h2
        have al : W.alike x.data y.data = true := by
          unfold sortable at ss
          simp only [Bool.and_eq_true, List.all_eq_true] at ss
          exact ss.1.1 _ (List.mem_map_of_mem hx) _ (List.mem_map_of_mem hy)
        have e := dle_anti al h1 h2
        obtain ⟨qx, hqx, rfl⟩ := List.mem_map.mp hx
        obtain ⟨qy, hqy, rfl⟩ := List.mem_map.mp hy
        rw [eqv_data _ _ (keyN_eq _ (hk qx (pl.mem_iff.mp hqx)).2.1).2 (keyN_eq _ (hk qy (pl.mem_iff.mp hqy)).2.1).2] at e
        rw [NestedKey.eq_of_beq _ _ e]
def rSorted2 (K : PySem.W.Frag) (w : World) : List V → Hp → VK → Prop := fun xs H Q => rSS K w xs H Q ∨ rSSN K w xs H Q
theorem cr_sorted2 (hc : X.calm = true) (hu : X.A.units + 70 < cLine) : CallR X (.builtin "sorted") (rSorted2 X.K X.w) := by
  rintro pins s σ H xs us Q I r (h | h)
  · exact cr_sortedSI hc hu pins s σ H xs us Q I r h
  · exact cr_sortedSN hc hu pins s σ H xs us Q I r h
theorem same_trans {H : Hp} {G : Hp} {p : Addr} {o : HO} (m : Same G H) (hp : H p = none) : Same G (upd H p o) := fun b u h => by
  have h2 := m b u h
  rw [upd_ne (fun z => by subst z; rw [hp] at h2; cases h2)]
  exact h2
/-- the keys that a set has, of a list -/
theorem set_members {ks L : KL} {ms : List NestedKey} (h1 : ∀ q ∈ L, q ∈ ks) (h2 : ∀ q ∈ ks, q.2 ∈ L.map (·.2)) (h3 : ∀ k, k ∈ ms ↔ k ∈ ks.map (·.2) ∧ k ∉ ([] : List NestedKey)) : ∀ k, k ∈ L.map (·.2) ↔ k ∈ ms := fun k => by
  rw [h3]
  constructor
  · intro h
    obtain ⟨q, hq, rfl⟩ := List.mem_map.mp h
    exact ⟨List.mem_map_of_mem (h1 q hq), List.not_mem_nil⟩
  · rintro ⟨h, _⟩
    obtain ⟨q, hq, rfl⟩ := List.mem_map.mp h
    exact h2 q hq
theorem x_sortedSet {x y : Str} {p p2 pos2 : Pos} (hc : X.calm = true) (hu : X.A.units + 70 < cLine) (ex : x = "sorted") (ey : y = "set") (hgl : Gl X x) (hm : X.mg x = none) (hgl2 : Gl X y) (hm2 : X.mg y = none) (ha : Opd X xa W c a ea) (hs : ∀ e p, ea ≠ .Starred e p) :
    PE X (.Call (.Name x p) [.Call (.Name y p2) [ea] [] pos2] [] pos) (rdE X xa W (ev c (.blt .sortedSet a))) := by
  subst ex ey
  refine PE.imp (pe_callB (cr_sorted2 hc hu) hgl hm (by decide +kernel) (pa_cons (pe_callTy (cr_set2 hc hu) hgl2 hm2 (by decide +kernel) (pa_cons ha.brw pa_nil (no_star hs _ _)) (by decide) (by decide) (no_star hs _ _) rfl) pa_nil rfl) (by decide) (by decide) rfl rfl) fun σ H Q ⟨ioa, F, G, env, S, q⟩ => ?_
  rw [ev] at q
  refine ⟨ioa, F, G, env, S, oR_bind (Ra := RB X.K) q fun d e1 v G1 H1 x1 S1 r1 q1 => ?_⟩
  have q1 : oR X.K xa W (RE X.K) ioa F σ (nw (oB .sortedSet [d]) e1) G1 Q := q1
  cases d with
  | list ds =>
    have q1 : oR X.K xa W (RE X.K) ioa F σ (nw (match intsOf ds with
      | some ns => if decide (ns.length < 4000) then oSort (once [] ds) else none
      | none => match setKeys ds with
        | some ks => if decide (ks.length < 64) then oSort (once [] ds) else none
        | none => none) e1) G1 Q := q1
    obtain ⟨a, xs, rfl, la, ka⟩ := r1.lst S1.gh
    cases e : intsOf ds with
    | some ns =>
      rw [e] at q1
      obtain rfl := intsOf_eq e
      have q1 : oR X.K xa W (RE X.K) ioa F σ (nw (if decide (ns.length < 4000) then oSort (once [] (ns.map PyData.int)) else none) e1) G1 Q := q1
      by_cases hn : ns.length < 4000
      · rw [decide_eq_true hn, if_pos rfl] at q1
        obtain rfl := drs_ints ka
        refine .inl ⟨a, ns, rfl, la, hn, fun p hp => .inl ⟨p, ns, G1, rfl, upd_same, (S1.new hp).gh, hn, fun out q hq k => ?_⟩⟩
        unfold oSort at q1
        split at q1
        · exact ans_new q1 (S1.new hp) hq (.lst k)
        · exact q1.elim
      · rw [decide_eq_false hn, if_neg Bool.false_ne_true] at q1
        exact q1.elim
    | none =>
      rw [e] at q1
      cases e2 : setKeys ds with
      | none => rw [e2] at q1; exact q1.elim
      | some ks =>
        rw [e2] at q1
        obtain ⟨L0, rfl, rfl, hk⟩ := drs_keys ka e2
        obtain ⟨hds, num⟩ := setKeys_eq e2
        have q2 : oR X.K xa W (RE X.K) ioa F σ (nw (if decide ((L0.map (·.2)).length < 64) then oSort (once [] ds) else none) e1) G1 Q := q1
        clear q1
        by_cases hn : (L0.map (·.2)).length < 64
        · rw [decide_eq_true hn, if_pos rfl] at q2
          obtain ⟨ms, m1, m2, m3⟩ := once_keys (L0.map (·.2)) [] num (fun k h => nomatch h)
          have m1 : once [] ((L0.map (·.2)).map NestedKey.data) = ms.map NestedKey.data := m1
          rw [hds, m1] at q2
          unfold oSort at q2
          split at q2
          · rename_i so
            refine .inr ⟨a, L0, G1, rfl, S1.gh, la, hk, by simpa using hn, fun p L hp l1 l2 => .inr ⟨p, L, ms, G1, rfl, upd_same, (S1.new hp).gh, fun r hr => hk r (l1 r hr), m2, set_members l1 l2 m3, so, fun out q hq k => ?_⟩⟩
            exact ans_new q2 (S1.new hp) hq (.lst k)
          · exact q2.elim
        · rw [decide_eq_false hn, if_neg Bool.false_ne_true] at q2
          exact q2.elim
  | _ => exact q1.elim
/-- len of a set -/
def rLSN (K : PySem.W.Frag) (w : World) : List V → Hp → VK → Prop := fun xs H Q => ∃ p L, xs = [.ref p] ∧ H p = some (SN w p L) ∧ ((L.map (·.2)).Nodup → Q (.int L.length) H)
theorem cr_lenSN : CallR X (.builtin "len") (rLSN X.K X.w) := by
  rintro pins s σ H xs us Q I r ⟨p, L, rfl, hp, q⟩
  obtain ⟨u, rfl, rx⟩ := vals1 r
  obtain rfl : u = .ref p := rx
  obtain ⟨es, ep, t, ⟨o, ho, hex, hd⟩, rows, tab, nd, pl, led, room, few⟩ := SetN0.ex (I.hok p _ hp).1
  have esz : es.size = L.length := by rw [← Array.length_toList, rows, List.length_map]
  have psz := tab.sz
  rw [List.length_map] at psz
  refine call_len_set ho hex hd (fits_of (by omega) tab.dm (by omega)) (by rw [esz]; omega) ⟨.int L.length, H, I.tok _, ⟨_, by rw [esz]⟩, q nd⟩
theorem x_lenSet {x y : Str} {p p2 pos2 : Pos} (hc : X.calm = true) (hu : X.A.units + 70 < cLine) (ex : x = "len") (ey : y = "set") (hgl : Gl X x) (hm : X.mg x = none) (hgl2 : Gl X y) (hm2 : X.mg y = none) (ha : Opd X xa W c a ea) (hs : ∀ e p, ea ≠ .Starred e p) :
    PE X (.Call (.Name x p) [.Call (.Name y p2) [ea] [] pos2] [] pos) (rdE X xa W (ev c (.blt .lenSet a))) := by
  subst ex ey
  refine PE.imp (pe_callB cr_lenSN hgl hm (by decide +kernel) (pa_cons (pe_callTy (cr_setN hc hu) hgl2 hm2 (by decide +kernel) (pa_cons ha.brw pa_nil (no_star hs _ _)) (by decide) (by decide) (no_star hs _ _) rfl) pa_nil rfl) (by decide) (by decide) rfl rfl) fun σ H Q ⟨ioa, F, G, env, S, q⟩ => ?_
  rw [ev] at q
  refine ⟨ioa, F, G, env, S, oR_bind (Ra := RB X.K) q fun d e1 v G1 H1 x1 S1 r1 q1 => ?_⟩
  have q1 : oR X.K xa W (RE X.K) ioa F σ (nw (oB .lenSet [d]) e1) G1 Q := q1
  cases d with
  | list ds =>
    have q1 : oR X.K xa W (RE X.K) ioa F σ (nw (match setKeys ds with
      | some ks => if decide (ks.length < 64) then some (.int (once [] ds).length) else none
      | none => none) e1) G1 Q := q1
    obtain ⟨a, xs, rfl, la, ka⟩ := r1.lst S1.gh
    cases e2 : setKeys ds with
    | none => rw [e2] at q1; exact q1.elim
    | some ks =>
      rw [e2] at q1
      obtain ⟨L0, rfl, rfl, hk⟩ := drs_keys ka e2
      obtain ⟨hds, num⟩ := setKeys_eq e2
      have q3 : oR X.K xa W (RE X.K) ioa F σ (nw (if decide ((L0.map (·.2)).length < 64) then some (.int (once [] ds).length) else none) e1) G1 Q := q1
      clear q1
      by_cases hn : (L0.map (·.2)).length < 64
      · rw [decide_eq_true hn, if_pos rfl] at q3
        obtain ⟨ms, m1, m2, m3⟩ := once_keys (L0.map (·.2)) [] num (fun k h => nomatch h)
        have m1 : once [] ((L0.map (·.2)).map NestedKey.data) = ms.map NestedKey.data := m1
        rw [hds, m1, List.length_map] at q3
        refine ⟨a, L0, G1, rfl, S1.gh, la, hk, by simpa using hn, fun p L hp l1 l2 => ⟨p, L, rfl, upd_same, fun nd => ?_⟩⟩
        have len : L.length = ms.length := by
          have := ((List.perm_ext_iff_of_nodup nd m2).mpr (set_members l1 l2 m3)).length_eq
          rwa [List.length_map] at this
        have q2 : oR X.K xa W (RE X.K) ioa F σ (.ok (false, .int (ms.length : Nat)) e1) G1 Q := q3
        rw [len]
        exact oR_ok (p := (false, PyData.int (ms.length : Nat))) q2 (S1.new hp) (Dr.int _)
      · rw [decide_eq_false hn, if_neg Bool.false_ne_true] at q3
        exact q3.elim
  | _ => exact q1.elim
end
end Rv
end
section
/-! Rv, part 22: does a text say what is claimed? -/
namespace Rv
open PySem PySem.Spec PyProof.Rows L2
/-! ### small questions -/
def visB (sc : Scope) (x : Str) : Bool := match sc.names.lookup x with
  | some .local => true
  | some .cell => true
  | some .free => true
  | _ => false
def locB (sc : Scope) (fb : Str → Bool) (x : Str) : Bool := match sc.names.lookup x with
  | some .local => true
  | some .cell => fb x
  | _ => false
def glB (sc : Scope) (x : Str) : Bool := match sc.names.lookup x with
  | some .globalImplicit => true
  | _ => false
def nmB (x : Str) : Bool := !(x == ("__debug__" : Str)) && !(x == ("__classdict__" : Str)) && !(x == ("__name__" : Str))
def bltB (T : Txt) (sc : Scope) (x y : Str) : Bool := decide (x = y) && glB sc x && decide (x ∈ T.none) && nmB x
def shapeB : Expr → Bool
  | .Starred .. => false
  | .Set .. => false
  | .Slice .. => false
  | _ => true
def lcB : Expr → Bool
  | .ListComp .. => true
  | .SetComp .. => true
  | .DictComp .. => true
  | _ => false
def cstB : PyData → Const → Bool
  | .none, .none => true
  | .bool b, .bool b' => b == b'
  | .int i, .int j => i == j
  | .str x, .str y => x == y
  | _, _ => false
def sameC : PyData → PyData → Bool
  | .int i, .int j => decide (i = j)
  | .str x, .str y => decide (x = y)
  | .none, .none => true
  | .bool b, .bool b' => decide (b = b')
  | _, _ => false
theorem sameC_eq {d d' : PyData} (h : sameC d d' = true) : d = d' := by
  cases d <;> cases d' <;> first
    | (cases h; done)
    | rfl
    | (have := of_decide_eq_true h; rw [this])
inductive BK where | fn (id : String) | ty (id : String)
/-- a builtin's name and what it is -/
def B1.nm : B1 → String
  | .len => "len"
  | .tuple => "tuple"
  | .list => "list"
  | .sum => "sum"
  | .sorted => "sorted"
  | .dict => "dict"
  | .int => "int"
  | .repr => "repr"
  | .str => "str"
  | .abs => "abs"
  | .any => "any"
  | .all => "all"
  | .max => "max"
  | .min => "min"
  | _ => ""
def B1.one : B1 → Bool
  | .sortedSet => false
  | .lenSet => false
  | _ => true
def B1.two : B1 → Bool
  | .max => true
  | .min => true
  | _ => false
def parB (sc : Scope) (x y : Str) (px py : Pos) (ea eb : Expr) : Bool :=
  (match sc.names.lookup x, sc.names.lookup y with
    | some .local, some .local => true
    | _, _ => false) && decide (x ≠ y) && (px.line == py.line) && !(foldedForSure 8 ea && foldedForSure 8 eb) && !(constantsAlone 8 ea && constantsAlone 8 eb)
/-- is the comprehension's value stored ahead of its names' end? -/
def swB (sc : Scope) (y : Str) (py : Pos) (scope : Scope) (pos : Pos) : Bool :=
  (match sc.names.lookup y with
    | some .local => true
    | _ => false) && (py.line == pos.line) && !(scope.names.any fun (n, k) => n == y && (k == .local || k == .cell))
def tgB (N : List Str) (sc : Scope) (fb : Str → Bool) : Nat → Tg → Expr → Bool
  | 0, _, _ => false
  | n + 1, .v i, .Name x _ => decide (N[i]? = some x) && locB sc fb x
  | n + 1, .t ts, .Tuple es _ _ => all2 (tgB N sc fb n) ts es && es.all shapeB
  | _, _, _ => false
where all2 (f : Tg → Expr → Bool) : List Tg → List Expr → Bool
  | [], [] => true
  | t :: ts, e :: es => f t e && all2 f ts es
  | _, _ => false
/-- a list of names with their slots: a comprehension's own -/
def ownOf (N : List Str) (own : List Nat) : List (Str × Nat) := own.map fun i => ((N[i]?).getD ⟨#[]⟩, i)
def fbOf (scope : Scope) : Str → Bool := fun x => scope.names.lookup x == some .cell
section
variable (T : Txt) (N : List Str)
mutual
def mtE : Nat → Scope → (Str → Bool) → Ex → Expr → Bool
  | 0, _, _, _, _ => false
  | n + 1, sc, fb, e, a => shapeB a && match e, a with
    | .var i, .Name x _ => decide (N[i]? = some x) && visB sc x && nmB x
    | .cst d, .Constant k _ _ => cstB d k
    | .glob x d, .Name y _ => decide (x = y) && glB sc y && nmB y && (match T.csts.lookup y with
        | some d' => sameC d d'
        | none => false)
    | .tup es, .Tuple as _ _ => mtEs n sc fb es as
    | .lst es, .List as _ => mtEs n sc fb es as
    | .dic, .Dict [] [] _ => true
    | .bin o x y, .BinOp ax o' ay _ => decide (o = o') && mtE n sc fb x ax && mtE n sc fb y ay
    | .cmp o x y, .Compare ax [o'] [ay] _ => decide (o = o') && mtE n sc fb x ax && mtE n sc fb y ay
    | .chn x y z o1 o2, .Compare ax [p1, p2] [ay, az] _ => decide (o1 = p1) && decide (o2 = p2) && mtE n sc fb x ax && mtE n sc fb y ay && mtE n sc fb z az
    | .band x y, .BoolOp .And (ax :: ay :: r) _ => mtE n sc fb x ax && mtBo n sc fb .And y (ay :: r)
    | .bor x y, .BoolOp .Or (ax :: ay :: r) _ => mtE n sc fb x ax && mtBo n sc fb .Or y (ay :: r)
    | .not x, .UnaryOp .Not ax _ => mtE n sc fb x ax
    | .neg x, .UnaryOp .USub ax _ => mtE n sc fb x ax
    | .ite z x y, .IfExp az ax ay _ => mtT n sc fb z az && mtE n sc fb x ax && mtE n sc fb y ay
    | .call i es, .Call (.Name f _) as [] _ => glB sc f && nmB f && decide (T.fns.lookup f = some i) && mtAs n sc fb es as
    | .blt .sortedSet x, .Call (.Name f _) [.Call (.Name g _) [ax] [] _] [] _ => bltB T sc f "sorted" && bltB T sc g "set" && mtE n sc fb x ax && shapeB ax
    | .blt .lenSet x, .Call (.Name f _) [.Call (.Name g _) [ax] [] _] [] _ => bltB T sc f "len" && bltB T sc g "set" && mtE n sc fb x ax && shapeB ax
    | .blt b x, .Call (.Name f _) [ax] [] _ => b.one && bltB T sc f (Str.ofString b.nm) && mtE n sc fb x ax
    | .blt2 b x y, .Call (.Name f _) [ax, ay] [] _ => b.two && bltB T sc f (Str.ofString b.nm) && mtE n sc fb x ax && mtE n sc fb y ay
    | .isi x t, .Call (.Name f _) [ax, .Name g _] [] _ => bltB T sc f "isinstance" && bltB T sc g (Str.ofString t.nm) && mtE n sc fb x ax
    | .idx x y, .Subscript ax ay _ => mtE n sc fb x ax && mtE n sc fb y ay
    | .slc x lo hi, .Subscript ax (.Slice elo ehi none _) _ => mtE n sc fb x ax && mtPo n sc fb lo elo && mtPo n sc fb hi ehi
    | .rev x, .Subscript ax (.Slice none none (some (.UnaryOp .USub (.Constant (.int 1) _ _) _)) _) _ => mtE n sc fb x ax
    | .pop i, .Call (.Attribute (.Name x _) m apos) [] [] cpos => decide (m = "pop") && decide (N[i]? = some x) && visB sc x && nmB x && (apos.endLine == cpos.line)
    | .get x y, .Call (.Attribute ax m apos) [ay] [] cpos => decide (m = "get") && plainO ax && mtE n sc fb x ax && mtE n sc fb y ay && (apos.endLine == cpos.line)
    | .get2 x y z, .Call (.Attribute ax m apos) [ay, az] [] cpos => decide (m = "get") && plainO ax && mtE n sc fb x ax && mtE n sc fb y ay && mtE n sc fb z az && (apos.endLine == cpos.line)
    | .index x y, .Call (.Attribute ax m apos) [ay] [] cpos => decide (m = "index") && plainO ax && mtE n sc fb x ax && mtE n sc fb y ay && (apos.endLine == cpos.line)
    | .comp own tg s it elt, .ListComp aelt [⟨et, iter, [], as⟩] scope _ => decide (as = 0) && mtSrc n sc fb s it et iter && blkC N sc scope (ownOf N own) && (tg.vs.all fun i => decide (i ∈ own)) && tgB N (relS scope sc) (fbOf scope) n tg et && mtE n (relS scope sc) (fbOf scope) elt aelt && shapeB iter
    | .compIf own tg s it cond elt, .ListComp aelt [⟨et, iter, [ac], as⟩] scope _ => decide (as = 0) && mtSrc n sc fb s it et iter && blkC N sc scope (ownOf N own) && (tg.vs.all fun i => decide (i ∈ own)) && tgB N (relS scope sc) (fbOf scope) n tg et && mtT n (relS scope sc) (fbOf scope) cond ac && mtE n (relS scope sc) (fbOf scope) elt aelt && shapeB iter
    | _, _ => false
def mtBo : Nat → Scope → (Str → Bool) → BoolOp → Ex → List Expr → Bool
  | 0, _, _, _, _, _ => false
  | n + 1, sc, fb, op, e, as => match as with
    | [a] => mtE n sc fb e a
    | a :: b :: r => match op, e with
      | .And, .band x y => mtE n sc fb x a && mtBo n sc fb .And y (b :: r)
      | .Or, .bor x y => mtE n sc fb x a && mtBo n sc fb .Or y (b :: r)
      | _, _ => false
    | [] => false
def mtBt : Nat → Scope → (Str → Bool) → BoolOp → Ex → List Expr → Bool
  | 0, _, _, _, _, _ => false
  | n + 1, sc, fb, op, e, as => match as with
    | [a] => mtV n sc fb e a
    | a :: b :: r => match op, e with
      | .And, .band x y => mtV n sc fb x a && mtBt n sc fb .And y (b :: r)
      | .Or, .bor x y => mtV n sc fb x a && mtBt n sc fb .Or y (b :: r)
      | _, _ => false
    | [] => false
/-- a test -/
def mtT : Nat → Scope → (Str → Bool) → Ex → Expr → Bool
  | 0, _, _, _, _ => false
  | n + 1, sc, fb, e, a => shapeB a && match a with
    | .UnaryOp .Not ax _ => match e with
      | .not x => mtT n sc fb x ax
      | _ => false
    | .BoolOp op as _ => e.var?.isNone && mtBt n sc fb op e as
    | .IfExp .. => false
    | .Compare ax os as _ => match e, os, as with
      | .cmp o x y, [o'], [ay] => decide (o = o') && mtE n sc fb x ax && mtE n sc fb y ay
      | .chn x y z o1 o2, [p1, p2], [ay, az] => decide (o1 = p1) && decide (o2 = p2) && mtE n sc fb x ax && mtE n sc fb y ay && mtE n sc fb z az
      | _, _, _ => false
    | a => mtE n sc fb e a
/-- an operand of and, or within a test: its value put to rest -/
def mtV : Nat → Scope → (Str → Bool) → Ex → Expr → Bool
  | 0, _, _, _, _ => false
  | n + 1, sc, fb, e, a => match a with
    | .BoolOp op as _ => mtBt n sc fb op e as
    | a => mtT n sc fb e a
def mtEs : Nat → Scope → (Str → Bool) → List Ex → List Expr → Bool
  | 0, _, _, _, _ => false
  | n + 1, sc, fb, es, as => match es, as with
    | [], [] => true
    | e :: es, a :: as => mtE n sc fb e a && mtEs n sc fb es as
    | _, _ => false
def mtAs : Nat → Scope → (Str → Bool) → List Ex → List Expr → Bool
  | 0, _, _, _, _ => false
  | n + 1, sc, fb, es, as => match es, as with
    | [], [] => true
    | e :: es, a :: as => mtE n sc fb e a && mtAs n sc fb es as
    | _, _ => false
def mtPo : Nat → Scope → (Str → Bool) → List Ex → Option Expr → Bool
  | 0, _, _, _, _ => false
  | n + 1, sc, fb, es, a => match es, a with
    | [], none => true
    | [e], some a => mtE n sc fb e a
    | _, _ => false
def mtSrc : Nat → Scope → (Str → Bool) → Src → List Ex → Expr → Expr → Bool
  | 0, _, _, _, _, _, _ => false
  | n + 1, sc, fb, s, it, et, iter => match s, it, iter with
    | .it, [e], a => mtE n sc fb e a
    | .rng1, [e], .Call (.Name f _) [a] [] _ => bltB T sc f "range" && mtE n sc fb e a
    | .rng2, [e, e2], .Call (.Name f _) [a, a2] [] _ => bltB T sc f "range" && mtE n sc fb e a && mtE n sc fb e2 a2
    | .enum, [e], .Call (.Name f _) [a] [] _ => (match et with
        | .Tuple .. => true
        | _ => false) && bltB T sc f "enumerate" && mtE n sc fb e a
    | _, _, _ => false
end
mutual
def mtS : Nat → Scope → (Str → Bool) → Sm → Stmt → Bool
  | 0, _, _, _, _ => false
  | n + 1, sc, fb, s, st => match s, st with
    | .set i e, .Assign [.Name x py] (.ListComp aelt gs scope cpos) _ => decide (N[i]? = some x) && locB sc fb x && mtE T N n sc fb e (.ListComp aelt gs scope cpos)
    | .set i e, .Assign [.Name x _] a _ => decide (N[i]? = some x) && locB sc fb x && !lcB a && mtE T N n sc fb e a
    | .par [i, j] [e, e2], .Assign [.Tuple [.Name x px, .Name y py] _ _] (.Tuple [a, a2] _ _) _ => decide (N[i]? = some x) && decide (N[j]? = some y) && decide (i ≠ j) && parB sc x y px py a a2 && mtE T N n sc fb e a && mtE T N n sc fb e2 a2
    | .unp tg e, .Assign [.Tuple es k p] a _ => (match a with
        | .Tuple .. => false
        | _ => true) && !lcB a && tgB N sc fb n tg (.Tuple es k p) && mtE T N n sc fb e a
    | .put i k e, .Assign [.Subscript (.Name x _) ak _] a _ => decide (N[i]? = some x) && visB sc x && nmB x && !lcB a && mtE T N n sc fb k ak && mtE T N n sc fb e a
    | .app i e, .Expr (.Call (.Attribute (.Name x _) m apos) [a] [] cpos) _ => decide (m = "append") && decide (N[i]? = some x) && visB sc x && nmB x && (apos.endLine == cpos.line) && mtE T N n sc fb e a
    | .ext i e, .Expr (.Call (.Attribute (.Name x _) m apos) [a] [] cpos) _ => decide (m = "extend") && decide (N[i]? = some x) && visB sc x && nmB x && (apos.endLine == cpos.line) && mtE T N n sc fb e a
    | .expr e, .Expr a _ => !lcB a && mtE T N n sc fb e a
    | .ret e, .Return (some a) _ => mtE T N n sc fb e a
    | .ite t x y, .If at_ ax ay _ => mtT T N n sc fb t at_ && mtSs n sc fb x ax && mtSs n sc fb y ay
    | .whl t x, .While at_ ax [] _ => mtT T N n sc fb t at_ && mtSs n sc fb x ax
    | .for_ tg s it b, .For et iter ab [] _ => mtSrc T N n sc fb s it et iter && tgB N sc fb n tg et && shapeB iter && mtSs n sc fb b ab
    | .forK tg i b, .For et (.Name x _) ab [] _ => decide (N[i]? = some x) && visB sc x && nmB x && tgB N sc fb n tg et && mtSs n sc fb b ab
    | .pass, .Pass _ => true
    | _, _ => false
def mtSs : Nat → Scope → (Str → Bool) → List Sm → List Stmt → Bool
  | 0, _, _, _, _ => false
  | n + 1, sc, fb, ss, sts => match ss, sts with
    | [], [] => true
    | s :: ss, st :: sts => mtS n sc fb s st && mtSs n sc fb ss sts
    | _, _ => false
end
end
/-! ### what the answers mean -/
section
variable {sc : Scope} {fb : Str → Bool} {x y : Str} {a : Expr}
theorem vis_of (h : visB sc x = true) : Vis sc x := by
  unfold visB at h
  unfold Vis
  split at h
  · rename_i e; exact .inl e
  · rename_i e; exact .inr (.inl e)
  · rename_i e; exact .inr (.inr e)
  · cases h
theorem loc_of (h : locB sc fb x = true) : Loc sc x ∧ (fb x = true ∨ sc.names.lookup x = some .local) := by
  unfold locB at h
  split at h
  · rename_i e; exact ⟨.inl e, .inr e⟩
  · rename_i e; exact ⟨.inr e, .inl h⟩
  · cases h
theorem gl_of (h : glB sc x = true) : sc.names.lookup x = some .globalImplicit := by
  unfold glB at h
  split at h
  · assumption
  · cases h
theorem nm_of (h : nmB x = true) : (x == ("__debug__" : Str)) = false ∧ (x == ("__classdict__" : Str)) = false ∧ x ≠ "__name__" := by
  unfold nmB at h
  simp only [Bool.and_eq_true, Bool.not_eq_true'] at h
  exact ⟨h.1.1, h.1.2, fun e => by have := h.2; rw [e] at this; simp at this⟩
theorem star_of (h : shapeB a = true) : ∀ e p, a ≠ .Starred e p := fun e p z => by rw [z] at h; cases h
theorem marks_of (h : shapeB a = true) (o : CmpOp) : behindInMarks o a = false := by
  cases a <;> first | rfl | cases h
theorem marks2_of (h : shapeB a = true) (o o' : CmpOp) (b : Expr) : lastMarks [o, o'] [b, a] = false := marks_of h o'
theorem ix_of (h : shapeB a = true) : PlainIx a := by
  cases a <;> first | exact fun _ _ => rfl | cases h
theorem fold_of (h : shapeB a = true) (env : PySem.Env) : ∀ x, foldedSetIterable a env x = pure x := by
  cases a <;> first | exact fun _ => rfl | cases h
theorem sw_of (h : lcB a = false) (t : Option Expr) (l : Nat) (env : PySem.Env) : swapsWith a t l env = pure false := by
  cases a <;> first | rfl | cases h
end
end Rv
end
section
/-! Rv, part 23: what is checked holds. -/
namespace Rv
open PySem PySem.Spec PyProof.Rows L2
section
variable {T : Txt} {c : Cal} {xa : XA} {N : List Str} {k : Nat}
theorem Opd.of {X : Cx} {W : WX} {e : Ex} {a : Expr} (h : PE X a (rdE X xa W (ev c e))) (hv : e.var? = none) : Opd X xa W c e a := ⟨h, fun i z => by rw [hv] at z; cases z⟩
structure IH (T : Txt) (c : Cal) (xa : XA) (N : List Str) (k n : Nat) : Prop where
  E : ∀ X sc fb W, Hold T c xa N sc fb W k X → ∀ e a, mtE T N n sc fb e a = true → Opd X xa W c e a ∧ shapeB a = true
  Bo : ∀ X sc fb W, Hold T c xa N sc fb W k X → ∀ op e as pos, mtBo T N n sc fb op e as = true → PE X (.BoolOp op as pos) (rdE X xa W (ev c e))
  Bt : ∀ X sc fb W, Hold T c xa N sc fb W k X → ∀ op e as pos, mtBt T N n sc fb op e as = true → PW X (.BoolOp op as pos) (tTv X xa W c e)
  Tt : ∀ X sc fb W, Hold T c xa N sc fb W k X → ∀ e a, mtT T N n sc fb e a = true → PT X a (tTr X xa W fun env => brw e (ev c e) env)
  Vv : ∀ X sc fb W, Hold T c xa N sc fb W k X → ∀ e a, mtV T N n sc fb e a = true → PT X a (tTv X xa W c e)
  Es : ∀ X sc fb W, Hold T c xa N sc fb W k X → ∀ es as, mtEs T N n sc fb es as = true → PA X as (tR X.K xa W (RAs X.K) (evs c es))
  As : ∀ X sc fb W, Hold T c xa N sc fb W k X → ∀ es as, mtAs T N n sc fb es as = true → es.length = as.length ∧ (as.all shapeB) = true ∧ ∀ io, PA X as (tR X.K xa W (RAk io X.K) (evArs c io es))
  Po : ∀ X sc fb W, Hold T c xa N sc fb W k X → ∀ es a, mtPo T N n sc fb es a = true → PO X a (tPo X xa W c es)
  Src : ∀ X sc fb W, Hold T c xa N sc fb W k X → ∀ s it et iter, mtSrc T N n sc fb s it et iter = true → PI X et iter (iSrc X xa W c s it)
theorem hN {X : Cx} {sc : Scope} {fb : Str → Bool} {W : WX} (g : Hold T c xa N sc fb W k X) {i : Nat} {x : Str} (h : N[i]? = some x) : X.N[i]? = some x := by rw [g.en]; exact h
theorem hV {X : Cx} {sc : Scope} {fb : Str → Bool} {W : WX} (g : Hold T c xa N sc fb W k X) {x : Str} (h : visB sc x = true) : Vis X.env.scope x := by rw [g.es]; exact vis_of h
theorem hG {X : Cx} {sc : Scope} {fb : Str → Bool} {W : WX} (g : Hold T c xa N sc fb W k X) {x : Str} (h : glB sc x = true) : Gl X x := by
  show X.env.scope.names.lookup x = _
  rw [g.es]; exact gl_of h
theorem pe_nm {X : Cx} {sc : Scope} {fb : Str → Bool} {W : WX} (g : Hold T c xa N sc fb W k X) {i : Nat} {x : Str} {p : Pos} (h1 : N[i]? = some x) (h2 : visB sc x = true) (h3 : nmB x = true) : PE X (.Name x p) (tVar i) :=
  pe_var (hN g h1) (hV g h2) (nm_of h3).1 (nm_of h3).2.1
theorem blt_of {sc : Scope} {x y : Str} (h : bltB T sc x y = true) : x = y ∧ glB sc x = true ∧ x ∈ T.none ∧ nmB x = true := by
  unfold bltB at h
  simp only [Bool.and_eq_true, decide_eq_true_eq] at h
  exact ⟨h.1.1.1, h.1.1.2, h.1.2, h.2⟩
theorem stars_of {as : List Expr} (h : as.all shapeB = true) (env : PySem.Env) : (starEach as env).any (·.1) = false := by
  induction as with
  | nil => rfl
  | cons a as ih =>
    rw [List.all_cons, Bool.and_eq_true] at h
    rw [no_star (star_of h.1)]
    exact ih h.2
/-- builtins of one value -/
theorem b1_ok {X : Cx} {sc : Scope} {fb : Str → Bool} {W : WX} (g : Hold T c xa N sc fb W k X) {b : B1} {f : Str} {p pos : Pos} {x : Ex} {ax : Expr} (h1 : b.one = true) (h2 : bltB T sc f (Str.ofString b.nm) = true) (hx : Opd X xa W c x ax) (hs : shapeB ax = true) :
    PE X (.Call (.Name f p) [ax] [] pos) (rdE X xa W (ev c (.blt b x))) := by
  obtain ⟨e, h3, h4, h5⟩ := blt_of h2
  subst e
  obtain ⟨n1, n2, n3⟩ := nm_of h5
  have hu := g.hu
  cases b with
  | len => exact x_blt (id := "len") cr_len (hG g h3) (g.tx.blt _ h4) (by decide +kernel) n3 n1 hx (star_of hs)
  | tuple => exact x_bty (id := "tuple") cr_tuple (hG g h3) (g.tx.blt _ h4) (by decide +kernel) n3 n1 hx (star_of hs)
  | list => exact x_bty (id := "list") (cr_list g.calm) (hG g h3) (g.tx.blt _ h4) (by decide +kernel) n3 n1 hx (star_of hs)
  | sum => exact x_blt (id := "sum") (cr_sum' g.calm) (hG g h3) (g.tx.blt _ h4) (by decide +kernel) n3 n1 hx (star_of hs)
  | sorted => exact x_blt (id := "sorted") (cr_sorted' g.calm (by omega)) (hG g h3) (g.tx.blt _ h4) (by decide +kernel) n3 n1 hx (star_of hs)
  | dict => exact x_bty (id := "dict") (cr_dict g.calm (by omega)) (hG g h3) (g.tx.blt _ h4) (by decide +kernel) n3 n1 hx (star_of hs)
  | int => exact x_bty (id := "int") cr_int' (hG g h3) (g.tx.blt _ h4) (by decide +kernel) n3 n1 hx (star_of hs)
  | repr => exact x_blt (id := "repr") (cr_repr g.guards (by omega)) (hG g h3) (g.tx.blt _ h4) (by decide +kernel) n3 n1 hx (star_of hs)
  | str => exact x_bty (id := "str") cr_str' (hG g h3) (g.tx.blt _ h4) (by decide +kernel) n3 n1 hx (star_of hs)
  | abs => exact x_blt (id := "abs") cr_abs' (hG g h3) (g.tx.blt _ h4) (by decide +kernel) n3 n1 hx (star_of hs)
  | any => exact x_blt (id := "any") (cr_any' g.calm) (hG g h3) (g.tx.blt _ h4) (by decide +kernel) n3 n1 hx (star_of hs)
  | all => exact x_blt (id := "all") (cr_all' g.calm) (hG g h3) (g.tx.blt _ h4) (by decide +kernel) n3 n1 hx (star_of hs)
  | max => exact x_blt (id := "max") (cr_max' g.calm) (hG g h3) (g.tx.blt _ h4) (by decide +kernel) n3 n1 hx (star_of hs)
  | min => exact x_blt (id := "min") (cr_min' g.calm) (hG g h3) (g.tx.blt _ h4) (by decide +kernel) n3 n1 hx (star_of hs)
  | sortedSet => cases h1
  | lenSet => cases h1
theorem b2_ok {X : Cx} {sc : Scope} {fb : Str → Bool} {W : WX} (g : Hold T c xa N sc fb W k X) {b : B1} {f : Str} {p pos : Pos} {x y : Ex} {ax ay : Expr} (h1 : b.two = true) (h2 : bltB T sc f (Str.ofString b.nm) = true) (hx : Opd X xa W c x ax) (hy : Opd X xa W c y ay) (hs : shapeB ax = true) (hs2 : shapeB ay = true) :
    PE X (.Call (.Name f p) [ax, ay] [] pos) (rdE X xa W (ev c (.blt2 b x y))) := by
  obtain ⟨e, h3, h4, h5⟩ := blt_of h2
  subst e
  obtain ⟨n1, n2, n3⟩ := nm_of h5
  cases b with
  | max => exact x_blt2 (id := "max") (cr_max2 g.calm) (hG g h3) (g.tx.blt _ h4) (by decide +kernel) n3 n1 hx hy (star_of hs) (star_of hs2)
  | min => exact x_blt2 (id := "min") (cr_min2 g.calm) (hG g h3) (g.tx.blt _ h4) (by decide +kernel) n3 n1 hx hy (star_of hs) (star_of hs2)
  | _ => cases h1
theorem cst_ok {X : Cx} {W : WX} {d : D} {q : Const} {j : Nat} {pos : Pos} (h : cstB d q = true) : PE X (.Constant q j pos) (rdE X xa W (ev c (.cst d))) := by
  have e : ev c (.cst d) = fun env => .ok (false, d) env := by funext env; rw [ev]
  rw [e]
  cases d <;> cases q <;> first
    | (cases h; done)
    | exact x_const pe_non fun _ => .non
    | (have z := eq_of_beq h; subst z; exact x_const pe_bl fun _ => .bl _)
    | (have z := eq_of_beq h; subst z; exact x_const pe_int fun _ => .int _)
    | (have z := eq_of_beq h; subst z; exact x_const pe_str fun _ => .str _)
theorem tg_ok {X : Cx} {sc : Scope} {fb : Str → Bool} {W : WX} (g : Hold T c xa N sc fb W k X) : ∀ n (t : Tg) (e : Expr), tgB N sc fb n t e = true → PG X e (tgT X t.vs (asg t)) := by
  have hne : ∀ {e : Expr} {es : List Expr}, shapeB e = true → assignEach (e :: es) X.env = (false, assign e X.env) :: assignEach es X.env := fun {e es} h => by
    cases e <;> first | rfl | cases h
  intro n
  induction n with
  | zero => intro t e h; cases h
  | succ n ih =>
    have all : ∀ (ts : List Tg) (es : List Expr), tgB.all2 (tgB N sc fb n) ts es = true → es.all shapeB = true → PGs X es (tgTs X (tvs ts) (asgs ts)) ∧ (assignEach es X.env).length = ts.length ∧ (assignEach es X.env).findIdx? (·.1) = none := by
      intro ts
      induction ts with
      | nil =>
        intro es h hs
        cases es with
        | nil => exact ⟨gs_nil, rfl, rfl⟩
        | cons => cases h
      | cons t ts ih2 =>
        intro es h hs
        cases es with
        | nil => cases h
        | cons e es =>
          have h : (tgB N sc fb n t e && tgB.all2 (tgB N sc fb n) ts es) = true := h
          rw [Bool.and_eq_true] at h
          rw [List.all_cons, Bool.and_eq_true] at hs
          obtain ⟨h1, h2, h3⟩ := ih2 es h.2 hs.2
          refine ⟨gs_cons (ih t e h.1) h1 (by rw [hne hs.1]; rfl), by rw [hne hs.1, List.length_cons, List.length_cons, h2], ?_⟩
          rw [hne hs.1, List.findIdx?_cons]
          simp [h3]
    intro t e h
    cases t with
    | v i =>
      cases e with
      | Name x p =>
        have h : (decide (N[i]? = some x) && locB sc fb x) = true := h
        rw [Bool.and_eq_true, decide_eq_true_eq] at h
        obtain ⟨l1, l2⟩ := loc_of h.2
        exact g_name (by rw [g.en]; exact g.nd) (hN g h.1) (by rw [g.es]; exact l1) (by rw [g.fn, g.es]; exact l2)
      | _ => cases h
    | t ts =>
      cases e with
      | Tuple es k p =>
        have h : (tgB.all2 (tgB N sc fb n) ts es && es.all shapeB) = true := h
        rw [Bool.and_eq_true] at h
        obtain ⟨h1, h2, h3⟩ := all ts es h.1 h.2
        exact g_tup g.calm h1 h2 h3
      | _ => cases h
theorem glob_ok {X : Cx} {sc : Scope} {fb : Str → Bool} {W : WX} (g : Hold T c xa N sc fb W k X) {x y : Str} {d : D} {pos : Pos} (h1 : glB sc y = true) (h2 : nmB y = true) (h3 : (match T.csts.lookup y with | some d' => sameC d d' | none => false) = true) : PE X (.Name y pos) (rdE X xa W (ev c (.glob x d))) := by
  have e : ev c (.glob x d) = fun env => .ok (false, d) env := by funext env; rw [ev]
  rw [e]
  cases hl : T.csts.lookup y with
  | none => rw [hl] at h3; cases h3
  | some d' =>
    rw [hl] at h3
    obtain rfl := sameC_eq h3
    obtain ⟨u, v, m, r, z⟩ := g.tx.cst _ _ hl
    exact x_const (pe_glob (hG g h1) m r (nm_of h2).1) z
end
end Rv
end
section
/-! Rv, part 24: what is checked holds: expressions. -/
namespace Rv
open PySem PySem.Spec PyProof.Rows L2
section
variable {T : Txt} {c : Cal} {xa : XA} {N : List Str} {k : Nat}
theorem own_ix {N : List Str} {own : List Nat} : (ownOf N own).map (·.2) = own := by
  unfold ownOf
  rw [List.map_map]
  exact List.map_id _
theorem sub_of {vs own : List Nat} (h : (vs.all fun i => decide (i ∈ own)) = true) : ∀ i ∈ vs, i ∈ own := fun i hi => of_decide_eq_true (List.all_eq_true.mp h i hi)
theorem stepE {n : Nat} (H : IH T c xa N k n) {X : Cx} {sc : Scope} {fb : Str → Bool} {W : WX} (g : Hold T c xa N sc fb W k X) (e : Ex) (a : Expr) (h : mtE T N (n + 1) sc fb e a = true) : Opd X xa W c e a ∧ shapeB a = true := by
  rw [mtE.eq_def] at h
  dsimp only at h
  rw [Bool.and_eq_true] at h
  obtain ⟨hs, h⟩ := h
  refine ⟨?_, hs⟩
  have hu := g.hu
  split at h
  · rename_i i x p
    simp only [Bool.and_eq_true, decide_eq_true_eq] at h
    have hv := pe_nm (p := p) g h.1.1 h.1.2 h.2
    exact ⟨x_var (hN g h.1.1) (hV g h.1.2) (nm_of h.2).1 (nm_of h.2).2.1, fun j z => by cases z; exact hv⟩
  · exact .of (cst_ok h) rfl
  · rename_i x d y p
    simp only [Bool.and_eq_true] at h
    exact .of (glob_ok g h.1.1.2 h.1.2 h.2) rfl
  · exact .of (x_tup (H.Es _ _ _ _ g _ _ h)) rfl
  · exact .of (x_lst (H.Es _ _ _ _ g _ _ h)) rfl
  · exact .of x_dic rfl
  · simp only [Bool.and_eq_true, decide_eq_true_eq] at h
    obtain ⟨⟨rfl, h1⟩, h2⟩ := h
    exact .of (x_bin _ (H.E _ _ _ _ g _ _ h1).1 (H.E _ _ _ _ g _ _ h2).1) rfl
  · simp only [Bool.and_eq_true, decide_eq_true_eq] at h
    obtain ⟨⟨rfl, h1⟩, h2⟩ := h
    have z2 := H.E _ _ _ _ g _ _ h2
    exact .of (x_cmp (by omega) _ (marks_of z2.2 _) (H.E _ _ _ _ g _ _ h1).1 z2.1) rfl
  · simp only [Bool.and_eq_true, decide_eq_true_eq] at h
    obtain ⟨⟨⟨⟨rfl, rfl⟩, h1⟩, h2⟩, h3⟩ := h
    have z3 := H.E _ _ _ _ g _ _ h3
    exact .of (x_chn (by omega) _ _ (marks2_of z3.2 _ _ _) (H.E _ _ _ _ g _ _ h1).1.pe (H.E _ _ _ _ g _ _ h2).1.pe z3.1.pe) rfl
  · simp only [Bool.and_eq_true] at h
    exact .of (x_band (H.E _ _ _ _ g _ _ h.1).1.pe (H.Bo _ _ _ _ g _ _ _ _ h.2)) rfl
  · simp only [Bool.and_eq_true] at h
    exact .of (x_bor (H.E _ _ _ _ g _ _ h.1).1.pe (H.Bo _ _ _ _ g _ _ _ _ h.2)) rfl
  · exact .of (x_not (H.E _ _ _ _ g _ _ h).1) rfl
  · exact .of (x_neg (H.E _ _ _ _ g _ _ h).1.pe) rfl
  · simp only [Bool.and_eq_true] at h
    exact .of (x_ite (H.Tt _ _ _ _ g _ _ h.1.1) (H.E _ _ _ _ g _ _ h.1.2).1.pe (H.E _ _ _ _ g _ _ h.2).1.pe) rfl
  · simp only [Bool.and_eq_true, decide_eq_true_eq] at h
    obtain ⟨⟨⟨h1, h2⟩, h3⟩, h4⟩ := h
    obtain ⟨l, s, pa⟩ := H.As _ _ _ _ g _ _ h4
    refine .of (x_call g h3 (hG g h1) (nm_of h2).1 l pa fun e r z => ?_) rfl
    subst z
    rw [List.all_cons, Bool.and_eq_true] at s
    exact ⟨no_star (star_of s.1) _ _, stars_of s.2 _⟩
  · simp only [Bool.and_eq_true] at h
    have z := H.E _ _ _ _ g _ _ h.1.2
    obtain ⟨e1, a1, a2, a3⟩ := blt_of h.1.1.1
    obtain ⟨e2, b1, b2, b3⟩ := blt_of h.1.1.2
    exact .of (x_sortedSet g.calm (by omega) e1 e2 (hG g a1) (g.tx.blt _ a2) (hG g b1) (g.tx.blt _ b2) z.1 (star_of z.2)) rfl
  · simp only [Bool.and_eq_true] at h
    have z := H.E _ _ _ _ g _ _ h.1.2
    obtain ⟨e1, a1, a2, a3⟩ := blt_of h.1.1.1
    obtain ⟨e2, b1, b2, b3⟩ := blt_of h.1.1.2
    exact .of (x_lenSet g.calm (by omega) e1 e2 (hG g a1) (g.tx.blt _ a2) (hG g b1) (g.tx.blt _ b2) z.1 (star_of z.2)) rfl
  · simp only [Bool.and_eq_true] at h
    have z := H.E _ _ _ _ g _ _ h.2
    exact .of (b1_ok g h.1.1 h.1.2 z.1 z.2) rfl
  · simp only [Bool.and_eq_true] at h
    have z := H.E _ _ _ _ g _ _ h.1.2
    have z2 := H.E _ _ _ _ g _ _ h.2
    exact .of (b2_ok g h.1.1.1 h.1.1.2 z.1 z2.1 z.2 z2.2) rfl
  · simp only [Bool.and_eq_true] at h
    have z := H.E _ _ _ _ g _ _ h.2
    obtain ⟨e1, a1, a2, a3⟩ := blt_of h.1.1
    obtain ⟨e2, b1, b2, b3⟩ := blt_of h.1.2
    subst e1 e2
    exact .of (x_isi (k := ⟨0, 0, 0, 0⟩) (hG g a1) (g.tx.blt _ a2) (hG g b1) (g.tx.blt _ b2) (nm_of b3).2.2 (nm_of b3).1 z.1 (star_of z.2)) rfl
  · simp only [Bool.and_eq_true] at h
    have z2 := H.E _ _ _ _ g _ _ h.2
    exact .of (x_idx (by omega) (ix_of z2.2) (H.E _ _ _ _ g _ _ h.1).1 z2.1) rfl
  · simp only [Bool.and_eq_true] at h
    exact .of (x_slc (H.E _ _ _ _ g _ _ h.1.1).1.pe (H.Po _ _ _ _ g _ _ h.1.2) (H.Po _ _ _ _ g _ _ h.2)) rfl
  · exact .of (x_rev (H.E _ _ _ _ g _ _ h).1) rfl
  · simp only [Bool.and_eq_true, decide_eq_true_eq] at h
    obtain ⟨⟨⟨⟨rfl, h1⟩, h2⟩, h3⟩, h4⟩ := h
    exact .of (x_pop (pe_nm g h1 h2 h3) h4) rfl
  · simp only [Bool.and_eq_true, decide_eq_true_eq] at h
    obtain ⟨⟨⟨⟨rfl, h1⟩, h2⟩, h3⟩, h4⟩ := h
    have z2 := H.E _ _ _ _ g _ _ h3
    exact .of (x_get (by omega) (H.E _ _ _ _ g _ _ h2).1 z2.1 h1 (star_of z2.2) h4) rfl
  · simp only [Bool.and_eq_true, decide_eq_true_eq] at h
    obtain ⟨⟨⟨⟨⟨rfl, h1⟩, h2⟩, h3⟩, h4⟩, h5⟩ := h
    have z2 := H.E _ _ _ _ g _ _ h3
    have z3 := H.E _ _ _ _ g _ _ h4
    exact .of (x_get2 (by omega) (H.E _ _ _ _ g _ _ h2).1 z2.1.pe z3.1.pe h1 (star_of z2.2) (star_of z3.2) h5) rfl
  · simp only [Bool.and_eq_true, decide_eq_true_eq] at h
    obtain ⟨⟨⟨⟨rfl, h1⟩, h2⟩, h3⟩, h4⟩ := h
    have z2 := H.E _ _ _ _ g _ _ h3
    exact .of (x_index (by omega) (H.E _ _ _ _ g _ _ h2).1 z2.1 h1 (star_of z2.2) h4) rfl
  · rename_i own tg s it elt aelt et iter asy scope p
    simp only [Bool.and_eq_true, decide_eq_true_eq] at h
    obtain ⟨⟨⟨⟨⟨⟨rfl, h1⟩, h2⟩, h3⟩, h4⟩, h5⟩, h6⟩ := h
    have ok := blkOk_by h2
    refine .of ?_ rfl
    have z := x_comp (X := X) (xa := xa) (W := W) (c := c) (s := s) (it := it) (elt := elt) (tg := tg) (own := ownOf N own) (pos := p) g.calm (by rw [g.en]; exact g.nd) (H.Src _ _ _ _ g _ _ _ _ h1) (by rw [g.en, g.es]; exact ok) (by rw [own_ix]; exact sub_of h3)
      (fun s0 H0 C cl fp => tg_ok (g.blk s0 H0 cl C fp) _ _ _ h4) (fun s0 H0 C cl fp => (H.E _ _ _ _ (g.blk s0 H0 cl C fp) _ _ h5).1.pe) (fold_of h6 _)
    rw [own_ix] at z
    exact z
  · rename_i own tg s it cond elt aelt et iter ac asy scope p
    simp only [Bool.and_eq_true, decide_eq_true_eq] at h
    obtain ⟨⟨⟨⟨⟨⟨⟨rfl, h1⟩, h2⟩, h3⟩, h4⟩, h7⟩, h5⟩, h6⟩ := h
    have ok := blkOk_by h2
    refine .of ?_ rfl
    have z := x_compIf (X := X) (xa := xa) (W := W) (c := c) (s := s) (it := it) (elt := elt) (cond := cond) (tg := tg) (own := ownOf N own) (pos := p) g.calm (by rw [g.en]; exact g.nd) (H.Src _ _ _ _ g _ _ _ _ h1) (by rw [g.en, g.es]; exact ok) (by rw [own_ix]; exact sub_of h3)
      (fun s0 H0 C cl fp => tg_ok (g.blk s0 H0 cl C fp) _ _ _ h4) (fun s0 H0 C cl fp => H.Tt _ _ _ _ (g.blk s0 H0 cl C fp) _ _ h7) (fun s0 H0 C cl fp => (H.E _ _ _ _ (g.blk s0 H0 cl C fp) _ _ h5).1.pe) (fold_of h6 _)
    rw [own_ix] at z
    exact z
  · cases h
theorem pt_of {X : Cx} {W : WX} {e : Ex} {a : Expr} (hz : Opd X xa W c e a) (he : ∀ whole, isTrue a X.env whole = (do let v ← whole; standAt a.pos; holding [v] (truthy v))) : PT X a (tTr X xa W fun env => brw e (ev c e) env) := t_plain hz he
theorem tv_of {X : Cx} {W : WX} {e : Ex} {a : Expr} (h : PT X a (tTr X xa W fun env => brw e (ev c e) env)) : PT X a (tTv X xa W c e) := PT.imp h fun σ H Q q => t_rest q
theorem stepBo {n : Nat} (H : IH T c xa N k n) {X : Cx} {sc : Scope} {fb : Str → Bool} {W : WX} (g : Hold T c xa N sc fb W k X) (op : BoolOp) (e : Ex) (as : List Expr) (pos : Pos) (h : mtBo T N (n + 1) sc fb op e as = true) : PE X (.BoolOp op as pos) (rdE X xa W (ev c e)) := by
  rw [mtBo.eq_def] at h
  dsimp only at h
  split at h
  · exact pe_one (H.E _ _ _ _ g _ _ h).1.pe
  · split at h
    · simp only [Bool.and_eq_true] at h
      exact x_band (H.E _ _ _ _ g _ _ h.1).1.pe (H.Bo _ _ _ _ g _ _ _ _ h.2)
    · simp only [Bool.and_eq_true] at h
      exact x_bor (H.E _ _ _ _ g _ _ h.1).1.pe (H.Bo _ _ _ _ g _ _ _ _ h.2)
    · cases h
  · cases h
theorem stepBt {n : Nat} (H : IH T c xa N k n) {X : Cx} {sc : Scope} {fb : Str → Bool} {W : WX} (g : Hold T c xa N sc fb W k X) (op : BoolOp) (e : Ex) (as : List Expr) (pos : Pos) (h : mtBt T N (n + 1) sc fb op e as = true) : PW X (.BoolOp op as pos) (tTv X xa W c e) := by
  rw [mtBt.eq_def] at h
  dsimp only at h
  split at h
  · cases op with
    | And => exact pw_and1 (H.Vv _ _ _ _ g _ _ h)
    | Or => exact pw_or1 (H.Vv _ _ _ _ g _ _ h)
  · split at h
    · simp only [Bool.and_eq_true] at h
      exact t_band (H.Vv _ _ _ _ g _ _ h.1) (H.Bt _ _ _ _ g _ _ _ _ h.2)
    · simp only [Bool.and_eq_true] at h
      exact t_bor (H.Vv _ _ _ _ g _ _ h.1) (H.Bt _ _ _ _ g _ _ _ _ h.2)
    · cases h
  · cases h
theorem stepT {n : Nat} (H : IH T c xa N k n) {X : Cx} {sc : Scope} {fb : Str → Bool} {W : WX} (g : Hold T c xa N sc fb W k X) (e : Ex) (a : Expr) (h : mtT T N (n + 1) sc fb e a = true) : PT X a (tTr X xa W fun env => brw e (ev c e) env) := by
  rw [mtT.eq_def] at h
  dsimp only at h
  rw [Bool.and_eq_true] at h
  obtain ⟨hs, h⟩ := h
  have hu := g.hu
  cases a with
  | UnaryOp op ax p =>
    cases op with
    | Not =>
      dsimp only at h
      split at h
      · exact t_not (H.Tt _ _ _ _ g _ _ h)
      · cases h
    | _ => exact pt_of (H.E _ _ _ _ g _ _ h).1 fun _ => rfl
  | BoolOp op as p =>
    dsimp only at h
    rw [Bool.and_eq_true] at h
    have z := H.Bt _ _ _ _ g _ _ _ p h.2
    have hv : e.var? = none := by
      cases hv : e.var? with
      | none => rfl
      | some i => rw [hv] at h; cases h.1
    have e2 : (fun env => brw e (ev c e) env) = fun env => valOf (ev c e env) := by funext env; exact brw_val hv _ _
    rw [e2]
    exact z.pt
  | IfExp t b o p => cases h
  | Compare ax os as p =>
    dsimp only at h
    split at h
    · simp only [Bool.and_eq_true, decide_eq_true_eq] at h
      obtain ⟨⟨rfl, h1⟩, h2⟩ := h
      have z2 := H.E _ _ _ _ g _ _ h2
      exact t_cmp (by omega) _ (marks_of z2.2 _) (H.E _ _ _ _ g _ _ h1).1 z2.1
    · simp only [Bool.and_eq_true, decide_eq_true_eq] at h
      obtain ⟨⟨⟨⟨rfl, rfl⟩, h1⟩, h2⟩, h3⟩ := h
      have z3 := H.E _ _ _ _ g _ _ h3
      exact t_chn (by omega) _ _ (marks2_of z3.2 _ _ _) (H.E _ _ _ _ g _ _ h1).1.pe (H.E _ _ _ _ g _ _ h2).1.pe z3.1.pe
    · cases h
  | _ => exact pt_of (H.E _ _ _ _ g _ _ h).1 fun _ => rfl
theorem stepV {n : Nat} (H : IH T c xa N k n) {X : Cx} {sc : Scope} {fb : Str → Bool} {W : WX} (g : Hold T c xa N sc fb W k X) (e : Ex) (a : Expr) (h : mtV T N (n + 1) sc fb e a = true) : PT X a (tTv X xa W c e) := by
  rw [mtV.eq_def] at h
  dsimp only at h
  cases a with
  | BoolOp op as p => exact (H.Bt _ _ _ _ g _ _ _ p h).pt
  | _ => exact tv_of (H.Tt _ _ _ _ g _ _ h)
theorem stepEs {n : Nat} (H : IH T c xa N k n) {X : Cx} {sc : Scope} {fb : Str → Bool} {W : WX} (g : Hold T c xa N sc fb W k X) (es : List Ex) (as : List Expr) (h : mtEs T N (n + 1) sc fb es as = true) : PA X as (tR X.K xa W (RAs X.K) (evs c es)) := by
  rw [mtEs.eq_def] at h
  dsimp only at h
  split at h
  · exact x_nil
  · simp only [Bool.and_eq_true] at h
    have z := H.E _ _ _ _ g _ _ h.1
    exact x_cons z.1.pe (H.Es _ _ _ _ g _ _ h.2) (no_star (star_of z.2) _ _)
  · cases h
theorem stepAs {n : Nat} (H : IH T c xa N k n) {X : Cx} {sc : Scope} {fb : Str → Bool} {W : WX} (g : Hold T c xa N sc fb W k X) (es : List Ex) (as : List Expr) (h : mtAs T N (n + 1) sc fb es as = true) : es.length = as.length ∧ (as.all shapeB) = true ∧ ∀ io, PA X as (tR X.K xa W (RAk io X.K) (evArs c io es)) := by
  rw [mtAs.eq_def] at h
  dsimp only at h
  split at h
  · exact ⟨rfl, rfl, fun io => x_anil⟩
  · simp only [Bool.and_eq_true] at h
    have z := H.E _ _ _ _ g _ _ h.1
    obtain ⟨l, s, pa⟩ := H.As _ _ _ _ g _ _ h.2
    exact ⟨congrArg (· + 1) l, by rw [List.all_cons, z.2, s]; rfl, fun io => x_acons z.1 (pa io.tail) (no_star (star_of z.2) _ _)⟩
  · cases h
theorem stepPo {n : Nat} (H : IH T c xa N k n) {X : Cx} {sc : Scope} {fb : Str → Bool} {W : WX} (g : Hold T c xa N sc fb W k X) (es : List Ex) (a : Option Expr) (h : mtPo T N (n + 1) sc fb es a = true) : PO X a (tPo X xa W c es) := by
  rw [mtPo.eq_def] at h
  dsimp only at h
  split at h
  · exact po_no
  · exact po_one (H.E _ _ _ _ g _ _ h).1.pe
  · cases h
theorem stepSrc {n : Nat} (H : IH T c xa N k n) {X : Cx} {sc : Scope} {fb : Str → Bool} {W : WX} (g : Hold T c xa N sc fb W k X) (s : Src) (it : List Ex) (et iter : Expr) (h : mtSrc T N (n + 1) sc fb s it et iter = true) : PI X et iter (iSrc X xa W c s it) := by
  rw [mtSrc.eq_def] at h
  dsimp only at h
  split at h
  · exact src_it (H.E _ _ _ _ g _ _ h).1.pe
  · simp only [Bool.and_eq_true] at h
    obtain ⟨e, a1, a2, a3⟩ := blt_of h.1
    subst e
    have z := H.E _ _ _ _ g _ _ h.2
    exact src_r1 (hG g a1) (g.tx.blt _ a2) z.1.pe (star_of z.2)
  · simp only [Bool.and_eq_true] at h
    obtain ⟨e, a1, a2, a3⟩ := blt_of h.1.1
    subst e
    have z := H.E _ _ _ _ g _ _ h.1.2
    have z2 := H.E _ _ _ _ g _ _ h.2
    exact src_r2 (hG g a1) (g.tx.blt _ a2) z.1.pe z2.1.pe (star_of z.2) (star_of z2.2)
  · simp only [Bool.and_eq_true] at h
    obtain ⟨e, a1, a2, a3⟩ := blt_of h.1.2
    subst e
    have z := H.E _ _ _ _ g _ _ h.2
    cases et with
    | Tuple => exact src_en (hG g a1) (g.tx.blt _ a2) z.1.pe (star_of z.2)
    | _ => exact absurd h.1.1 (by simp)
  · cases h
theorem ih_all : ∀ n, IH T c xa N k n
  | 0 => ⟨fun _ _ _ _ _ _ _ h => absurd h (by rw [mtE.eq_def]; exact Bool.false_ne_true), fun _ _ _ _ _ _ _ _ _ h => absurd h (by rw [mtBo.eq_def]; exact Bool.false_ne_true), fun _ _ _ _ _ _ _ _ _ h => absurd h (by rw [mtBt.eq_def]; exact Bool.false_ne_true), fun _ _ _ _ _ _ _ h => absurd h (by rw [mtT.eq_def]; exact Bool.false_ne_true), fun _ _ _ _ _ _ _ h => absurd h (by rw [mtV.eq_def]; exact Bool.false_ne_true),
    fun _ _ _ _ _ _ _ h => absurd h (by rw [mtEs.eq_def]; exact Bool.false_ne_true), fun _ _ _ _ _ _ _ h => absurd h (by rw [mtAs.eq_def]; exact Bool.false_ne_true), fun _ _ _ _ _ _ _ h => absurd h (by rw [mtPo.eq_def]; exact Bool.false_ne_true), fun _ _ _ _ _ _ _ _ _ h => absurd h (by rw [mtSrc.eq_def]; exact Bool.false_ne_true)⟩
  | n + 1 => ⟨fun _ _ _ _ g => stepE (ih_all n) g, fun _ _ _ _ g => stepBo (ih_all n) g, fun _ _ _ _ g => stepBt (ih_all n) g, fun _ _ _ _ g => stepT (ih_all n) g, fun _ _ _ _ g => stepV (ih_all n) g, fun _ _ _ _ g => stepEs (ih_all n) g, fun _ _ _ _ g => stepAs (ih_all n) g,
    fun _ _ _ _ g => stepPo (ih_all n) g, fun _ _ _ _ g => stepSrc (ih_all n) g⟩
end
end Rv
end
section
/-! Rv, part 25: what is checked holds: statements. -/
namespace Rv
open PySem PySem.Spec PyProof.Rows L2
section
variable {T : Txt} {c : Cal} {xa : XA} {N : List Str} {k : Nat}
theorem blk_fn {env : PySem.Env} (hk : env.scope.kind = .function) : env.blockKind = .function := by unfold Env.blockKind; rw [hk]; rfl
theorem kind_of {env : PySem.Env} {sc : Scope} (h : env.scope = sc) (x : Str) : env.kindOf x = sc.names.lookup x := by
  show env.scope.names.lookup x = _
  rw [h]
theorem sw_eval {aelt : Expr} {gs : List Comprehension} {scope sc : Scope} {cpos py : Pos} {x : Str} {l : Nat} {env : PySem.Env} (hk : env.scope.kind = .function) (hs : env.scope = sc) : swapsWith (.ListComp aelt gs scope cpos) (some (.Name x py)) l env = pure (swB sc x py scope cpos) := by
  have hb := blk_fn hk
  have e : (env.kindOf x == some .local) = (match sc.names.lookup x with
    | some .local => true
    | _ => false) := by
    rw [kind_of hs]
    cases sc.names.lookup x with
    | none => rfl
    | some q => cases q <;> rfl
  unfold swapsWith swB
  simp only [hb, Expr.pos, e]
  rfl
theorem par_swap {sc : Scope} {x y : Str} {px py pt pt2 : Pos} {kt k2 : Nat} {ea eb : Expr} {env : PySem.Env} (h : parB sc x y px py ea eb = true) (h1 : shapeB ea = true) (h2 : shapeB eb = true) (hk : env.scope.kind = .function) (hs : env.scope = sc) :
    swappedStores [.Tuple [.Name x px, .Name y py] kt pt] (.Tuple [ea, eb] k2 pt2) env = pure (some [x, y]) := by
  have hb := blk_fn hk
  unfold parB at h
  simp only [Bool.and_eq_true, Bool.not_eq_true', decide_eq_true_eq] at h
  obtain ⟨⟨⟨⟨hl, hne⟩, hln⟩, hf⟩, hc⟩ := h
  have lx : env.kindOf x = some .local ∧ env.kindOf y = some .local := by
    rw [kind_of hs, kind_of hs]
    split at hl
    · rename_i e1 e2; exact ⟨e1, e2⟩
    · cases hl
  have s1 : (match ea with | .Starred .. => true | _ => false) = false := by cases ea <;> first | rfl | cases h1
  have s2 : (match eb with | .Starred .. => true | _ => false) = false := by cases eb <;> first | rfl | cases h2
  have hln' : (py.line == px.line) = true := by
    rw [beq_iff_eq] at hln ⊢
    exact hln.symm
  have hd : ([x, y] : List Str).eraseDups.length = 2 := by
    have : (y == x) = false := by simpa using fun e : y = x => hne e.symm
    simp [List.eraseDups_cons, this]
  unfold swappedStores
  simp only [List.length_cons, List.length_nil, hb, List.any_cons, List.any_nil, List.head?_cons, Option.map_some, Option.getD_some, Expr.pos, List.filterMap_cons, List.filterMap_nil, lx.1, lx.2, hln', beq_self_eq_true, Bool.and_self, if_true, hd, List.all_cons, List.all_nil, Bool.and_true, hf, hc, Bool.false_eq_true, if_false]
  rw [if_neg (by decide), if_neg (fun z => ?_)]
  · rfl
  · rw [Bool.or_eq_true, Bool.or_eq_true] at z
    rcases z with z | z | z
    · cases ea <;> first | (cases z; done) | cases h1
    · cases eb <;> first | (cases z; done) | cases h2
    · cases z
/-- what a def's statements may lean on -/
structure HoldS (T : Txt) (c : Cal) (xa : XA) (N : List Str) (sc : Scope) (fb : Str → Bool) (W : WX) (k : Nat) (X : Cx) : Prop where
  h : Hold T c xa N sc fb W k X
  kind : X.env.scope.kind = .function
  own : PassesOwn (model X.prog X.w) X.A X.env X.xe
theorem lc_ok {n : Nat} {X : Cx} {sc : Scope} {fb : Str → Bool} {W : WX} (g : Hold T c xa N sc fb W k X) {i : Nat} {y : Str} {e : Ex} {aelt : Expr} {gs : List Comprehension} {scope : Scope} {cpos py spos : Pos} (h : mtE T N n sc fb e (.ListComp aelt gs scope cpos) = true)
    (hi : N[i]? = some y) (hl : sc.names.lookup y = some .local) (hsw : swapsWith (.ListComp aelt gs scope cpos) (some (.Name y py)) spos.line X.env = pure true) :
    PS X (.Assign [.Name y py] (.ListComp aelt gs scope cpos) spos) (tAsg (rdE X xa W (ev c e)) (gName i)) := by
  cases n with
  | zero => rw [mtE.eq_def] at h; cases h
  | succ n =>
    have H := ih_all (T := T) (c := c) (xa := xa) (N := N) (k := k) n
    rw [mtE.eq_def] at h
    dsimp only at h
    rw [Bool.and_eq_true] at h
    obtain ⟨-, h⟩ := h
    have hl' : X.env.scope.names.lookup y = some .local := by rw [g.es]; exact hl
    split at h <;> first
      | (rename_i z; cases z; done)
      | skip
    all_goals first
      | (rename_i own tg s it elt aelt' et iter asy scope' p z
         cases z
         simp only [Bool.and_eq_true, decide_eq_true_eq] at h
         obtain ⟨⟨⟨⟨⟨⟨rfl, h1⟩, h2⟩, h3⟩, h4⟩, h5⟩, h6⟩ := h
         have z := s_comp (X := X) (xa := xa) (W := W) (c := c) (i := i) (s := s) (it := it) (elt := elt) (tg := tg) (own := ownOf N own) (pos := cpos) (spos := spos) (py := py) g.calm (by rw [g.en]; exact g.nd) (hN g hi) hl' hsw (H.Src _ _ _ _ g _ _ _ _ h1) (by rw [g.en, g.es]; exact blkOk_by h2) (by rw [own_ix]; exact sub_of h3)
           (fun s0 H0 C cl fp => tg_ok (g.blk s0 H0 cl C fp) _ _ _ h4) (fun s0 H0 C cl fp => (H.E _ _ _ _ (g.blk s0 H0 cl C fp) _ _ h5).1.pe) (fold_of h6 _)
         rw [own_ix] at z
         exact z)
      | (rename_i own tg s it cond elt aelt' et iter ac asy scope' p z
         cases z
         simp only [Bool.and_eq_true, decide_eq_true_eq] at h
         obtain ⟨⟨⟨⟨⟨⟨⟨rfl, h1⟩, h2⟩, h3⟩, h4⟩, h7⟩, h5⟩, h6⟩ := h
         have z := s_compIf (X := X) (xa := xa) (W := W) (c := c) (i := i) (s := s) (it := it) (elt := elt) (cond := cond) (tg := tg) (own := ownOf N own) (pos := cpos) (spos := spos) (py := py) g.calm (by rw [g.en]; exact g.nd) (hN g hi) hl' hsw (H.Src _ _ _ _ g _ _ _ _ h1) (by rw [g.en, g.es]; exact blkOk_by h2) (by rw [own_ix]; exact sub_of h3)
           (fun s0 H0 C cl fp => tg_ok (g.blk s0 H0 cl C fp) _ _ _ h4) (fun s0 H0 C cl fp => H.Tt _ _ _ _ (g.blk s0 H0 cl C fp) _ _ h7) (fun s0 H0 C cl fp => (H.E _ _ _ _ (g.blk s0 H0 cl C fp) _ _ h5).1.pe) (fold_of h6 _)
         rw [own_ix] at z
         exact z)
      | cases h
structure IHS (T : Txt) (c : Cal) (xa : XA) (N : List Str) (k n : Nat) : Prop where
  S : ∀ X sc fb W, HoldS T c xa N sc fb W k X → ∀ s st, mtS T N n sc fb s st = true → PS X st (rdS X xa W (ex1 c s))
  Ss : ∀ X sc fb W, HoldS T c xa N sc fb W k X → ∀ ss sts, mtSs T N n sc fb ss sts = true → PSs X sts (rdS X xa W (exs c ss))
theorem stepS {n : Nat} (H : IHS T c xa N k n) {X : Cx} {sc : Scope} {fb : Str → Bool} {W : WX} (gg : HoldS T c xa N sc fb W k X) (s : Sm) (st : Stmt) (h : mtS T N (n + 1) sc fb s st = true) : PS X st (rdS X xa W (ex1 c s)) := by
  have g := gg.h
  have I := ih_all (T := T) (c := c) (xa := xa) (N := N) (k := k) n
  have hu := g.hu
  have nd : X.N.Nodup := by rw [g.en]; exact g.nd
  rw [mtS.eq_def] at h
  dsimp only at h
  split at h
  · rename_i i e x py aelt gs scope cpos spos
    simp only [Bool.and_eq_true, decide_eq_true_eq] at h
    obtain ⟨⟨h1, h2⟩, h3⟩ := h
    obtain ⟨l1, l2⟩ := loc_of h2
    have hsw := sw_eval (aelt := aelt) (gs := gs) (scope := scope) (cpos := cpos) (py := py) (x := x) (l := spos.line) gg.kind g.es
    cases hb : swB sc x py scope cpos with
    | false =>
      rw [hb] at hsw
      exact s_set nd (hN g h1) (by rw [g.es]; exact l1) (by rw [g.fn, g.es]; exact l2) (I.E _ _ _ _ g _ _ h3).1.pe hsw
    | true =>
      rw [hb] at hsw
      refine s_setLc (lc_ok g h3 h1 ?_ hsw)
      unfold swB at hb
      simp only [Bool.and_eq_true] at hb
      have := hb.1.1
      split at this
      · assumption
      · cases this
  · simp only [Bool.and_eq_true, decide_eq_true_eq, Bool.not_eq_true'] at h
    obtain ⟨⟨⟨h1, h2⟩, h3⟩, h4⟩ := h
    obtain ⟨l1, l2⟩ := loc_of h2
    exact s_set nd (hN g h1) (by rw [g.es]; exact l1) (by rw [g.fn, g.es]; exact l2) (I.E _ _ _ _ g _ _ h4).1.pe (sw_of h3 _ _ _)
  · simp only [Bool.and_eq_true, decide_eq_true_eq] at h
    obtain ⟨⟨⟨⟨⟨h1, h2⟩, h3⟩, h4⟩, h5⟩, h6⟩ := h
    have z1 := I.E _ _ _ _ g _ _ h5
    have z2 := I.E _ _ _ _ g _ _ h6
    have h4' := h4
    unfold parB at h4'
    simp only [Bool.and_eq_true] at h4'
    have hl := h4'.1.1.1.1
    have lxy : ∀ {x y : Str}, (match sc.names.lookup x, sc.names.lookup y with
      | some .local, some .local => true
      | _, _ => false) = true → X.env.scope.names.lookup x = some .local ∧ X.env.scope.names.lookup y = some .local := fun {x y} hl => by
      rw [g.es]
      split at hl
      · rename_i e1 e2; exact ⟨e1, e2⟩
      · cases hl
    exact s_par2 g.calm nd (hN g h1) (hN g h2) h3 (lxy hl).1 (lxy hl).2 z1.1.pe z2.1.pe (star_of z1.2) (star_of z2.2) (par_swap h4 z1.2 z2.2 gg.kind g.es)
  · rename_i tg e es kk p a spos
    simp only [Bool.and_eq_true, Bool.not_eq_true'] at h
    obtain ⟨⟨⟨h1, h2⟩, h3⟩, h4⟩ := h
    have z := I.E _ _ _ _ g _ _ h4
    refine s_unp z.1.pe (tg_ok g _ _ _ h3) (show swapsWith a (some (.Tuple es kk p)) spos.line X.env = pure false from sw_of h2 _ _ _) ?_ rfl
    cases a <;> first | rfl | cases h1
  · simp only [Bool.and_eq_true, decide_eq_true_eq, Bool.not_eq_true'] at h
    obtain ⟨⟨⟨⟨⟨h1, h2⟩, h3⟩, h4⟩, h5⟩, h6⟩ := h
    exact s_put (by omega) (pe_nm g h1 h2 h3) (I.E _ _ _ _ g _ _ h5).1.pe (I.E _ _ _ _ g _ _ h6).1.pe (sw_of h4 _ _ _)
  · simp only [Bool.and_eq_true, decide_eq_true_eq] at h
    obtain ⟨⟨⟨⟨⟨rfl, h1⟩, h2⟩, h3⟩, h4⟩, h5⟩ := h
    have z := I.E _ _ _ _ g _ _ h5
    exact s_app (pe_nm g h1 h2 h3) z.1.pe (star_of z.2) h4
  · simp only [Bool.and_eq_true, decide_eq_true_eq] at h
    obtain ⟨⟨⟨⟨⟨rfl, h1⟩, h2⟩, h3⟩, h4⟩, h5⟩ := h
    have z := I.E _ _ _ _ g _ _ h5
    exact s_ext (pe_nm g h1 h2 h3) z.1.pe (star_of z.2) h4
  · simp only [Bool.and_eq_true, Bool.not_eq_true'] at h
    exact s_expr (I.E _ _ _ _ g _ _ h.2).1.pe (sw_of h.1 _ _ _)
  · exact s_ret (I.E _ _ _ _ g _ _ h).1.pe
  · simp only [Bool.and_eq_true] at h
    exact s_ite (I.Tt _ _ _ _ g _ _ h.1.1) (H.Ss _ _ _ _ gg _ _ h.1.2) (H.Ss _ _ _ _ gg _ _ h.2)
  · simp only [Bool.and_eq_true] at h
    exact s_whl gg.own (I.Tt _ _ _ _ g _ _ h.1) (H.Ss _ _ _ _ gg _ _ h.2)
  · simp only [Bool.and_eq_true] at h
    exact s_for gg.own g.calm (I.Src _ _ _ _ g _ _ _ _ h.1.1.1) (tg_ok g _ _ _ h.1.1.2) (H.Ss _ _ _ _ gg _ _ h.2) (fold_of h.1.2 _)
  · simp only [Bool.and_eq_true, decide_eq_true_eq] at h
    obtain ⟨⟨⟨⟨h1, h2⟩, h3⟩, h4⟩, h5⟩ := h
    exact s_forK gg.own g.calm (pe_nm g h1 h2 h3) (tg_ok g _ _ _ h4) (H.Ss _ _ _ _ gg _ _ h5)
  · exact s_pass
  · cases h
theorem stepSs {n : Nat} (H : IHS T c xa N k n) {X : Cx} {sc : Scope} {fb : Str → Bool} {W : WX} (gg : HoldS T c xa N sc fb W k X) (ss : List Sm) (sts : List Stmt) (h : mtSs T N (n + 1) sc fb ss sts = true) : PSs X sts (rdS X xa W (exs c ss)) := by
  rw [mtSs.eq_def] at h
  dsimp only at h
  split at h
  · exact ss_nil
  · simp only [Bool.and_eq_true] at h
    exact ss_cons (H.S _ _ _ _ gg _ _ h.1) (H.Ss _ _ _ _ gg _ _ h.2)
  · cases h
theorem ihs_all : ∀ n, IHS T c xa N k n
  | 0 => ⟨fun _ _ _ _ _ _ _ h => absurd h (by rw [mtS.eq_def]; exact Bool.false_ne_true), fun _ _ _ _ _ _ _ h => absurd h (by rw [mtSs.eq_def]; exact Bool.false_ne_true)⟩
  | n + 1 => ⟨fun _ _ _ _ g => stepS (ihs_all n) g, fun _ _ _ _ g => stepSs (ihs_all n) g⟩
end
end Rv
end
section
/-! Rv, part 26: defs whose bodies are checked keep the promise of the evaluator. -/
namespace Rv
open PySem PySem.Spec PyProof.Rows L2
section
variable {K : PySem.W.Frag} {xa : XA} {ioa : Nat → Addr} {F G G' : Hp} {env : Env} {σ : L2.St} {H H' : Hp}
theorem entry_len : ∀ {n : Nat} {io : List Bool} {ds : List D}, (entry n io ds).length = ds.length + n
  | n, _, [] => by simp [entry]
  | n, io, d :: ds => by
    unfold entry
    rw [List.length_cons, entry_len, List.length_cons]
    omega
theorem entry_get : ∀ {n : Nat} {io : List Bool} {ds : List D} {j : Nat} {s : Sl}, (entry n io ds)[j]? = some (some s) → ∃ d, ds[j]? = some d ∧ s = if io.getD j false = true then Sl.io d else Sl.val d
  | n, _, [], j, s, h => by
    unfold entry at h
    rw [List.getElem?_replicate] at h
    split at h <;> cases h
  | n, io, d :: ds, 0, s, h => by
    unfold entry at h
    cases Option.some.inj h
    rw [← headD_get]
    exact ⟨d, rfl, rfl⟩
  | n, io, d :: ds, j + 1, s, h => by
    unfold entry at h
    rw [← tail_get]
    exact entry_get (by simpa using h)
theorem entv_len : ∀ {io : List Bool} {vs : List V} {ds : List D}, EntV K F G H io vs ds → vs.length = ds.length
  | _, [], [], _ => rfl
  | io, v :: vs, d :: ds, h => congrArg (· + 1) (entv_len h.2)
  | _, [], _ :: _, h => h.elim
  | _, _ :: _, [], h => h.elim
theorem entv_at : ∀ {io : List Bool} {vs : List V} {ds : List D}, EntV K F G H io vs ds → ∀ {j : Nat} {d : D}, ds[j]? = some d →
    ∃ v, vs[j]? = some v ∧ (if io.getD j false = true then ∃ a, v = .ref a ∧ F a = none ∧ G a = none ∧ Own K G H a d else Dr K G v d)
  | _, [], [], _, j, d, e => by simp at e
  | io, v :: vs, d0 :: ds, h, 0, d, e => by
    cases Option.some.inj e
    have h1 := h.1
    rw [← headD_get]
    refine ⟨v, rfl, ?_⟩
    by_cases c : io.headD false = true
    · rw [if_pos c] at h1 ⊢; exact h1.1
    · rw [if_neg c] at h1 ⊢; exact h1
  | io, v :: vs, d0 :: ds, h, j + 1, d, e => by
    obtain ⟨v', h1, h2⟩ := entv_at h.2 (j := j) (d := d) (by simpa using e)
    rw [tail_get] at h2
    exact ⟨v', by simpa using h1, h2⟩
  | _, [], _ :: _, h, _, _, _ => h.elim
  | _, _ :: _, [], h, _, _, _ => h.elim
theorem entv_ne : ∀ {io : List Bool} {vs : List V} {ds : List D}, EntV K F G H io vs ds → ∀ {i j : Nat} {v : V}, i < j → io.getD i false = true → io.getD j false = true → vs[i]? = some v → vs[j]? ≠ some v
  | _, [], [], _, i, j, v, _, _, _, e => by simp at e
  | io, w :: vs, d0 :: ds, h, 0, j + 1, v, _, h1, h2, e => by
    cases Option.some.inj e
    have q := h.1
    rw [← headD_get] at h1
    rw [if_pos h1] at q
    rw [← tail_get] at h2
    simpa using q.2 j h2
  | io, w :: vs, d0 :: ds, h, i + 1, j + 1, v, l, h1, h2, e => by
    rw [← tail_get] at h1 h2
    simpa using entv_ne h.2 (i := i) (j := j) (v := v) (by omega) h1 h2 (by simpa using e)
  | _, _, _, _, _, 0, _, l, _, _, _ => absurd l (by omega)
  | _, [], _ :: _, h, _, _, _, _, _, _, _ => h.elim
  | _, _ :: _, [], h, _, _, _, _, _, _, _ => h.elim
/-- where the parameters lie -/
def ioaOf (vs : List V) (j : Nat) : Addr := match vs[j]? with
  | some (.ref a) => a
  | _ => default
theorem start_at {N : List Str} {vs : List V} {j : Nat} {v : V} (h : vs[j]? = some v) : (L2.start N vs)[j]? = some (some v) := by
  unfold L2.start
  rw [List.getElem?_append_left (by simpa using lt_of_get h), List.getElem?_map, h]
  rfl
/-- at the entry -/
theorem sim_entry {io : List Bool} {vs : List V} {ds : List D} {N : List Str} {nn : Nat} (hF : Same F H) (hG : Same G H) (E : EntV K F G H io vs ds) (hn : N.length = nn) (hl : vs.length ≤ nn) :
    Sim K (ioaOf vs) F G (entry (nn - ds.length) io ds) (L2.start N vs) H := by
  have el := entv_len E
  have at_ : ∀ {i : Nat} {s : Sl}, (entry (nn - ds.length) io ds)[i]? = some (some s) → ∃ v, vs[i]? = some v ∧ SlOk K F G H v s ∧ (s.mine = true → io.getD i false = true ∧ v = .ref (ioaOf vs i)) := fun {i s} e => by
    obtain ⟨d, h1, rfl⟩ := entry_get e
    obtain ⟨v, h2, h3⟩ := entv_at E h1
    refine ⟨v, h2, ?_⟩
    by_cases c : io.getD i false = true
    · rw [if_pos c] at h3 ⊢
      refine ⟨h3, fun _ => ⟨c, ?_⟩⟩
      obtain ⟨a, rfl, _⟩ := h3
      unfold ioaOf
      rw [h2]
    · rw [if_neg c] at h3 ⊢
      exact ⟨h3, fun z => nomatch z⟩
  refine ⟨?_, hF, hG, fun i s e => ?_, fun i d e => ?_, fun i j a ⟨s, e, m⟩ ⟨s', e', m'⟩ h h' => ?_⟩
  · rw [entry_len]
    unfold L2.start
    rw [List.length_append, List.length_map, List.length_replicate]
    omega
  · obtain ⟨v, h1, h2, _⟩ := at_ e
    exact ⟨v, start_at h1, h2⟩
  · obtain ⟨v, h1, _, h3⟩ := at_ e
    rw [← (h3 rfl).2]
    exact start_at h1
  · obtain ⟨v, h1, _, h3⟩ := at_ e
    obtain ⟨v', h1', _, h3'⟩ := at_ e'
    rw [start_at h1] at h
    rw [start_at h1'] at h'
    cases h
    cases h'
    rcases Nat.lt_trichotomy i j with l | l | l
    · exact absurd h1' (entv_ne E l (h3 m).1 (h3' m').1 h1)
    · exact l
    · exact absurd h1 (entv_ne E l (h3' m').1 (h3 m).1 h1')
/-- at the end -/
theorem aft_io : ∀ {n : Nat} {io : List Bool} {vs : List V} {env : Env} {l : List D}, vs.length = n → (∀ j d, j < vs.length → io.getD j false = true → env[j]? = some (some (.io d)) → ∃ a, vs[j]? = some (.ref a) ∧ G' a = none ∧ Own K G' H' a d) →
    outs n io env = some l → AftV K G' H' io vs l
  | 0, io, vs, env, l, hl, h, e => by
    cases List.length_eq_zero_iff.mp hl
    cases e
    exact rfl
  | n + 1, io, [], env, l, hl, h, e => by simp at hl
  | n + 1, io, v :: vs, [], l, hl, h, e => nomatch e
  | n + 1, io, v :: vs, s :: env, l, hl, h, e => by
    have hl' : vs.length = n := by simpa using hl
    have h' : ∀ j d, j < vs.length → io.tail.getD j false = true → env[j]? = some (some (.io d)) → ∃ a, vs[j]? = some (.ref a) ∧ G' a = none ∧ Own K G' H' a d := fun j d h0 h1 h2 => by
      rw [tail_get] at h1
      simpa using h (j + 1) d (by simpa using h0) h1 (by simpa using h2)
    unfold outs at e
    unfold AftV
    by_cases c : io.headD false = true
    · rw [if_pos c] at e ⊢
      split at e
      · rename_i d
        cases ho : outs n io.tail env with
        | none => rw [ho] at e; cases e
        | some r =>
          rw [ho] at e
          cases e
          obtain ⟨a, h1, h2, h3⟩ := h 0 d (by simp) (by rw [← headD_get]; exact c) rfl
          exact ⟨a, d, r, Option.some.inj h1, rfl, h2, h3, aft_io hl' h' ho⟩
      · cases e
    · rw [if_neg c] at e ⊢
      exact aft_io hl' h' e
theorem aft_of {n : Nat} {io : List Bool} {vs : List V} {ds l : List D} (E : EntV K F G H io vs ds) (hn : vs.length = n) (x : Ext F G G') (S : Sim K (ioaOf vs) F G' env σ H') (ho : outs n io env = some l) : Aft K F G G' H' io vs l := by
  refine ⟨x, S.fh, S.gh, aft_io hn (fun j d h0 h1 h2 => ?_) ho⟩
  obtain ⟨v, h3, a, rfl, _, g1, o1⟩ := S.sl j _ h2
  have h4 := S.io j d h2
  rw [h3] at h4
  cases h4
  obtain ⟨v', e1, e2⟩ : ∃ v', vs[j]? = some v' ∧ ∃ a, v' = .ref a := by
    cases hd : ds[j]? with
    | some d' =>
      obtain ⟨v', z1, z2⟩ := entv_at E hd
      rw [if_pos h1] at z2
      obtain ⟨a, z, _⟩ := z2
      exact ⟨v', z1, a, z⟩
    | none =>
      have := List.getElem?_eq_none_iff.mp hd
      have := entv_len E
      omega
  obtain ⟨a, rfl⟩ := e2
  have : ioaOf vs j = a := by unfold ioaOf; rw [e1]
  exact ⟨_, by rw [e1, this], g1, o1⟩
end
/-- the defs, called to a depth -/
noncomputable def cal (fs : List Fn) (k : Nat) : Cal := ⟨fun i => fs[i]?.map fun h => ⟨h.np, h.io⟩, run fs k, nwAt fs⟩
section
variable {P : Program} {w : World} {K : PySem.W.Frag} {mg : Str → Option Value} {base : Heap} {xa : XA} {T : Txt} {fs : List Fn}
theorem ret_of {N : List Str} {fuel : Nat} {sc : Scope} {fb : Str → Bool} {e : Ex} {sts : List Stmt} (hm : mtSs T N fuel sc fb [.ret e] sts = true) : ∃ n a p, sts = [.Return (some a) p] ∧ mtE T N n sc fb e a = true := by
  cases fuel with
  | zero => rw [mtSs.eq_def] at hm; cases hm
  | succ n =>
    cases sts with
    | nil => rw [mtSs.eq_def] at hm; cases hm
    | cons st sts =>
      rw [mtSs.eq_def] at hm
      have hm : (mtS T N n sc fb (.ret e) st && mtSs T N n sc fb [] sts) = true := hm
      rw [Bool.and_eq_true] at hm
      obtain ⟨m1, m2⟩ := hm
      cases n with
      | zero => rw [mtS.eq_def] at m1; cases m1
      | succ n =>
        cases sts with
        | cons st2 sts => rw [mtSs.eq_def] at m2; cases m2
        | nil =>
          cases st with
          | Return v p =>
            cases v with
            | none => rw [mtS.eq_def] at m1; cases m1
            | some a =>
              rw [mtS.eq_def] at m1
              exact ⟨n, a, p, rfl, m1⟩
          | _ => rw [mtS.eq_def] at m1; cases m1
/-- THE RULE for a def whose body is checked -/
theorem fn_ok {k fuel i : Nat} {x qual : Str} {st : Stmt} {f : Addr} {fd : FuncData} {N ps : List Str} {g : Fn} (F : L2.Fun K x qual st f fd) (S : FnScope N ps (defScope st)) (hi : fs[i]? = some g) (hp : ps.length = g.np) (hn : N.length = g.nn)
    (hm : mtSs T N fuel (defScope st) (fun _ => true) g.body (defBody st) = true) (tx : Tx P w K mg base xa T (cal fs k) k) : FnG P w K mg base (L2.CX P w) (k + 1) f fd ps (spD K xa g.np g.io (run fs (k + 1) i) g.nw) := by
  obtain ⟨oc, od, kV, doc, pm, an, cdv, ct, osl, rfl, lk, hcd⟩ := F.ex
  refine fnG_of lk hcd S (fun vs H Q E h => by rw [hp]; exact h.1) fun A outer s H vs Q E hg hr h => ?_
  obtain ⟨hl, F0, G, ds, hF, hG, hE, q⟩ := h
  have hsz : ps.length ≤ N.length := by
    have := congrArg List.length S.pre
    rw [List.length_take] at this
    omega
  have hds := entv_len hE
  have W : HoldS T (cal fs k) xa N (defScope st) (fun _ => true) (fun cl dd _ H => E cl dd H) k (cxOf (L2.CX P w) P w K mg base N qual (defScope st) f cdv A outer s H E) :=
    ⟨⟨rfl, rfl, rfl, S.nd, rfl, hg, hr, tx, passAt (takes_of rfl rfl rfl rfl)⟩, S.kind, passes_of rfl⟩
  have hent := sim_entry (nn := g.nn) (N := N) hF hG hE hn (by omega)
  have e : run fs (k + 1) i ds = fin g (exs (cal fs k) g.body (entry (g.nn - ds.length) g.io ds)) := by
    have hd : ds.length = g.np := by omega
    rw [run, hi]
    dsimp only
    rw [if_pos hd, hd]
    rfl
  rw [e] at q
  cases hw : g.nw with
  | true =>
    rw [hw] at q
    obtain ⟨hio, es, hbo⟩ : g.io = [] ∧ ∃ es, g.body = [.ret (.lst es)] := by
      unfold Fn.nw at hw
      rw [Bool.and_eq_true, List.isEmpty_iff] at hw
      refine ⟨hw.1, ?_⟩
      have h2 := hw.2
      split at h2
      · rename_i es hb; exact ⟨es, hb⟩
      · cases h2
    rw [hbo] at hm q
    obtain ⟨fuel2, a, pos, hst, hma⟩ := ret_of hm
    rw [hst]
    have pe := ((ih_all fuel2).E _ _ _ _ W.h _ _ hma).1.pe
    refine ⟨_, pss_cons (ps_ret pe) pss_nil, ioaOf vs, F0, G, _, hent, ?_⟩
    show oR K xa _ (RE K) (ioaOf vs) F0 _ (ev (cal fs k) (.lst es) (entry (g.nn - ds.length) g.io ds)) G _
    rw [exs, ex1, ev] at q
    rw [ev]
    revert q
    cases evs (cal fs k) es (entry (g.nn - ds.length) g.io ds) with
    | no => exact fun q => q
    | ex x e =>
      intro q cl dd G' H' xx S' hx
      have q : (match finX x (outs g.np g.io e) with
        | .no => False
        | .ret d outs => ∀ v G' H', Aft K F0 G G' H' g.io vs outs → AnsV K F0 G' H' true v d → Q v H'
        | .exn x outs => ∀ cl dd G' H', Aft K F0 G G' H' g.io vs outs → xa G' H' x cl dd → E cl dd H') := q
      cases ho : outs g.np g.io e with
      | none => rw [ho] at q; exact q.elim
      | some l =>
        rw [ho] at q
        exact q cl dd G' H' (aft_of hE hl xx S' ho) hx
    | ok ds' e =>
      show (match fin g ((((if small ds'.length = true then Rs.ok (true, PyData.list ds') e else Rs.no : Rs (Bool × D)).bind fun p e => .ok p.2 e).ou fun d e1 => .rt d e1).nxt (exs (cal fs k) [])) with
          | .no => False
          | .ret d outs => ∀ v G' H', Aft K F0 G G' H' g.io vs outs → AnsV K F0 G' H' true v d → Q v H'
          | .exn x outs => ∀ cl dd G' H', Aft K F0 G G' H' g.io vs outs → xa G' H' x cl dd → E cl dd H') → oR K xa _ (RE K) (ioaOf vs) F0 _ (if small ds'.length = true then Rs.ok (true, PyData.list ds') e else Rs.no) G _
      by_cases hz : small ds'.length = true
      · rw [if_pos hz]
        intro q v G' H' xx S' r
        have q : (match finR (.list ds') (outs g.np g.io e) with
          | .no => False
          | .ret d outs => ∀ v G' H', Aft K F0 G G' H' g.io vs outs → AnsV K F0 G' H' true v d → Q v H'
          | .exn x outs => ∀ cl dd G' H', Aft K F0 G G' H' g.io vs outs → xa G' H' x cl dd → E cl dd H') := q
        cases ho : outs g.np g.io e with
        | none => rw [ho] at q; exact q.elim
        | some l =>
          rw [ho] at q
          refine q v G' H' (aft_of hE hl xx S' ho) ?_
          obtain ⟨a, rfl, f1, g1, o1, _⟩ := r
          exact ⟨a, rfl, f1, g1, o1⟩
      · rw [if_neg hz]
        exact fun q => q
  | false =>
  rw [hw] at q
  refine ⟨_, (ihs_all fuel).Ss _ _ _ _ W _ _ hm, ioaOf vs, F0, G, _, hent, ?_⟩
  revert q
  show _ → oS K xa _ (ioaOf vs) F0 (exs (cal fs k) g.body (entry (g.nn - ds.length) g.io ds)) G _
  cases exs (cal fs k) g.body (entry (g.nn - ds.length) g.io ds) with
  | no => exact fun q => q
  | nx e =>
    intro q σ' G' H' x S'
    have z : fin g (.nx e) = finR .none (outs g.np g.io e) := rfl
    rw [z] at q
    cases ho : outs g.np g.io e with
    | none => rw [ho] at q; exact q.elim
    | some l =>
      rw [ho] at q
      exact q .non G' H' (aft_of hE hl x S' ho) .non
  | rt d e =>
    intro q v σ' G' H' x S' hd
    have z : fin g (.rt d e) = finR d (outs g.np g.io e) := rfl
    rw [z] at q
    cases ho : outs g.np g.io e with
    | none => rw [ho] at q; exact q.elim
    | some l =>
      rw [ho] at q
      exact q v G' H' (aft_of hE hl x S' ho) hd
  | ex y e =>
    intro q cl dd σ' G' H' x S' hx
    have z : fin g (.ex y e) = finX y (outs g.np g.io e) := rfl
    rw [z] at q
    cases ho : outs g.np g.io e with
    | none => rw [ho] at q; exact q.elim
    | some l =>
      rw [ho] at q
      exact q cl dd G' H' (aft_of hE hl x S' ho) hx
theorem fnG_zero {f : Addr} {fd : FuncData} {ps : List Str} {np i : Nat} {io : List Bool} {nw : Bool} (hp : ps.length = np) : FnG P w K mg base (L2.CX P w) 0 f fd ps (spD K xa np io (run fs 0 i) nw) :=
  ⟨fun vs H Q E h => h.1.trans hp.symm, fun _ _ _ _ _ _ _ _ _ _ _ _ _ _ h => by
    obtain ⟨_, _, _, _, _, _, _, q⟩ := h
    exact q.elim⟩
/-- a def of the text, told -/
structure De where
  x : Str
  st : Stmt
  N : List Str
  ps : List Str
  g : Fn
/-- .. checked -/
structure De.Ok (T : Txt) (d : De) : Prop where
  sc : FnScope d.N d.ps (defScope d.st)
  np : d.ps.length = d.g.np
  nn : d.N.length = d.g.nn
  mt : ∃ fuel, mtSs T d.N fuel (defScope d.st) (fun _ => true) d.g.body (defBody d.st) = true
/-- .. as it lies behind the top -/
def De.At (K : PySem.W.Frag) (mg : Str → Option Value) (d : De) : Prop := ∃ f fd, mg d.x = some (.ref f) ∧ L2.Fun K d.x d.x d.st f fd ∧ Binds K fd d.ps []
/-- all of them -/
structure All (K : PySem.W.Frag) (mg : Str → Option Value) (T : Txt) (ds : List De) : Prop where
  fns : ∀ x i, T.fns.lookup x = some i → ∃ d, ds[i]? = some d ∧ d.x = x
  ok : ∀ d ∈ ds, d.Ok T
  at_ : ∀ d ∈ ds, d.At K mg
  blt : ∀ x, x ∈ T.none → mg x = none
  cst : ∀ x d, T.csts.lookup x = some d → ∃ u v, mg x = some u ∧ RelV v u ∧ ∀ G, Dr K G v d
/-- THE RULE for a text -/
theorem All.fn {ds : List De} (a : All K mg T ds) : ∀ k, Tx P w K mg base xa T (cal (ds.map De.g) k) k ∧ ∀ i d, ds[i]? = some d → ∃ f fd, mg d.x = some (.ref f) ∧ L2.Fun K d.x d.x d.st f fd ∧ Binds K fd d.ps [] ∧
    FnG P w K mg base (L2.CX P w) k f fd d.ps (spD K xa d.g.np d.g.io (run (ds.map De.g) k i) d.g.nw) := by
  have tx : ∀ k, (∀ i d, ds[i]? = some d → ∃ f fd, mg d.x = some (.ref f) ∧ L2.Fun K d.x d.x d.st f fd ∧ Binds K fd d.ps [] ∧
    FnG P w K mg base (L2.CX P w) k f fd d.ps (spD K xa d.g.np d.g.io (run (ds.map De.g) k i) d.g.nw)) → Tx P w K mg base xa T (cal (ds.map De.g) k) k := fun k h => by
    refine ⟨fun x i e => ?_, a.blt, a.cst⟩
    obtain ⟨d, h1, rfl⟩ := a.fns x i e
    obtain ⟨f, fd, m, z, b, G⟩ := h i d h1
    have e2 : (cal (ds.map De.g) k).nw i = d.g.nw := by
      show nwAt (ds.map De.g) i = _
      unfold nwAt
      rw [List.getElem?_map, h1]
      rfl
    refine ⟨f, fd, d.ps, ⟨d.g.np, d.g.io⟩, m, z.kp, b, ?_, (a.ok d (List.mem_of_getElem? h1)).np, fun hw => ?_, by rw [e2]; exact G⟩
    · show ((ds.map De.g)[i]?).map _ = _
      rw [List.getElem?_map, h1]
      rfl
    · rw [e2] at hw
      unfold Fn.nw at hw
      rw [Bool.and_eq_true, List.isEmpty_iff] at hw
      exact hw.1
  intro k
  induction k with
  | zero =>
    have h : ∀ i d, ds[i]? = some d → ∃ f fd, mg d.x = some (.ref f) ∧ L2.Fun K d.x d.x d.st f fd ∧ Binds K fd d.ps [] ∧ FnG P w K mg base (L2.CX P w) 0 f fd d.ps (spD K xa d.g.np d.g.io (run (ds.map De.g) 0 i) d.g.nw) := fun i d e => by
      obtain ⟨f, fd, m, z, b⟩ := a.at_ d (List.mem_of_getElem? e)
      exact ⟨f, fd, m, z, b, fnG_zero (a.ok d (List.mem_of_getElem? e)).np⟩
    exact ⟨tx 0 h, h⟩
  | succ k ih =>
    have h : ∀ i d, ds[i]? = some d → ∃ f fd, mg d.x = some (.ref f) ∧ L2.Fun K d.x d.x d.st f fd ∧ Binds K fd d.ps [] ∧ FnG P w K mg base (L2.CX P w) (k + 1) f fd d.ps (spD K xa d.g.np d.g.io (run (ds.map De.g) (k + 1) i) d.g.nw) := fun i d e => by
      obtain ⟨f, fd, m, z, b⟩ := a.at_ d (List.mem_of_getElem? e)
      have o := a.ok d (List.mem_of_getElem? e)
      obtain ⟨fuel, hm⟩ := o.mt
      exact ⟨f, fd, m, z, b, fn_ok z o.sc (by rw [List.getElem?_map, e]; rfl) o.np o.nn hm ih.1⟩
    exact ⟨tx _ h, h⟩
end
end Rv
end
section
/-! Rv, part 27: from the evaluator's answer to the law's row. -/
namespace Rv
open PySem PySem.Spec PyProof.Rows L2
section
variable {P : Program} {w : World} {K : PySem.W.Frag} {mg mb : Str → Option Value} {xa : XA} {a fa : Addr} {s : Shared} {us : List Value} {zs : List Int}
abbrev scr (us : List Value) : Obj := { cls := .type "list", data := .seq us.toArray }
/-- a heap that knows of the script at most -/
def Quiet (K : PySem.W.Frag) (a : Addr) (us : List Value) (zs : List Int) (H : Hp) : Prop := ∀ b u, H b = some u → b = a ∧ u = .frz (scr us) (.lst (zs.map V.int)) ∧ K.lookup a = none
theorem quiet_any (K : PySem.W.Frag) (a : Addr) (us : List Value) (zs : List Int) : ∃ H, Quiet K a us zs H ∧ (K.lookup a = none → H a = some (.frz (scr us) (.lst (zs.map V.int)))) := by
  by_cases c : K.lookup a = none
  · refine ⟨fun b => if b = a then some (.frz (scr us) (.lst (zs.map V.int))) else none, fun b u z => ?_, fun _ => if_pos rfl⟩
    have z : (if b = a then some (HO.frz (scr us) (.lst (zs.map V.int))) else none) = some u := z
    by_cases hb : b = a
    · rw [if_pos hb] at z
      exact ⟨hb, (Option.some.inj z).symm, c⟩
    · rw [if_neg hb] at z
      cases z
  · exact ⟨fun _ => none, (by intro b u z; cases z), fun z => absurd z c⟩
section
variable {H : Hp} (q : Quiet K a us zs H) (KX : K.In s.heap) (ha : s.heap.get? a = some (scr us))
include q ha
theorem Quiet.hok (iv : IntsAre us zs) (hz : zs.length ≤ sizeLine) : HOk P w H s.heap := fun b u z => by
  obtain ⟨rfl, rfl, _⟩ := q b u z
  exact ⟨ha, by rw [List.length_map]; exact hz, us, _, vals_ints iv, ha⟩
theorem Quiet.away {b : Addr} {o : Obj} {es : Array DictEntry} {m : Nat} (e : s.heap.get? b = some o) (d : o.data = .dict es m) : H b = none := by
  cases z : H b with
  | none => rfl
  | some u =>
    obtain ⟨rfl, _, _⟩ := q b u z
    rw [ha] at e
    cases e
    cases d
theorem Quiet.ns {b : Addr} {m : Str → Option Value} : s.heap.Ns b m → (hidT s.heap H).Ns b m
  | ⟨o, es, ep, e, d, r⟩ => ⟨o, es, ep, hidT_get e (q.away ha e d), d, r⟩
include KX
theorem Quiet.kin : K.In (hidT s.heap H) := fun b o e => hidT_get (KX b o e) (by
  cases z : H b with
  | none => rfl
  | some u =>
    obtain ⟨rfl, _, n⟩ := q b u z
    rw [n] at e
    cases e)
theorem Quiet.env0 (gs : s.heap.Ns mainGlobals mg) (bs : s.heap.Ns builtinsNs mb) (bb : ∀ x : Str, x ≠ "__name__" → mb x = bootBuiltins x) (nl : s.heap.NoLimit) (gn : s.gens = #[]) (iv : IntsAre us zs) (hz : zs.length ≤ sizeLine) :
    Env0 P w K mg (hidT s.heap H) callerA [] s H where
  frames := rfl
  mod := ⟨q.kin KX ha, q.ns ha gs, ⟨mb, q.ns ha bs, bb⟩, by
    obtain ⟨mc, z1, z2⟩ := nl
    exact ⟨mc, q.ns ha z1, z2⟩⟩
  bs := fun _ _ e => of_hidT e
  bsz := by rw [hidT_size]; exact Nat.le_refl _
  funs := trivial
  frf := fun _ h => nomatch h
  hok := q.hok ha iv hz
  bare := .of_eq gn
end
/-- the law's def, called as the row does -/
theorem law_run {k : Nat} {fd : FuncData} {x : Str} {r : List D → Co} {l : List D} (KX : K.In s.heap) (gs : s.heap.Ns mainGlobals mg) (bs : s.heap.Ns builtinsNs mb) (bb : ∀ x : Str, x ≠ "__name__" → mb x = bootBuiltins x) (nl : s.heap.NoLimit) (gn : s.gens = #[])
    (ha : s.heap.get? a = some (scr us)) (iv : IntsAre us zs) (hz : zs.length ≤ sizeLine) (hr : Room k callerA) (F : ∀ base : Heap, FnG P w K mg base (L2.CX P w) k fa fd [x] (spD K (fun _ _ _ _ _ => False) 1 [] r)) (bd : ∀ u : Value, BindsTo s fd ⟨[u], []⟩ [(x, u)])
    (hq : r [.list (zs.map PyData.int)] = .ret (.bool true) l) :
    codeAny (model P w) callerA (.call (.ref fa) ⟨[.ref a], []⟩) (fun r s' => r = .ok (.ret (.bool true)) ∧ OldK s.heap s'.heap ∧ s'.os = s.os ∧ AllBare s'.gens) s := by
  obtain ⟨H, q, there⟩ := quiet_any K a us zs
  have e0 := q.env0 (P := P) (w := w) KX ha gs bs bb nl gn iv hz
  have drs : ∀ zs : List Int, DrA K H (zs.map V.int) (zs.map PyData.int) := fun zs => by
    induction zs with
    | nil => exact .nil
    | cons z zs ih => exact .cons (.int z) ih
  have ls : LsX K H a (zs.map V.int) := by
    cases c : K.lookup a with
    | none => exact .inl (.inr ⟨_, there c⟩)
    | some o =>
      have e := KX a o c
      rw [ha] at e
      cases e
      exact .inr ⟨us.toArray, _, c, by rw [List.size_toArray, iv.length]; exact hz, by simpa using vals_ints iv⟩
  have sp : spD K (fun _ _ _ _ _ => False) 1 [] r false [.ref a] H (fun v _ => v = .bl true) fun _ _ _ => False := by
    refine ⟨rfl, H, H, [.list (zs.map PyData.int)], Same.refl _, Same.refl _, ⟨?_, True.intro⟩, ?_⟩
    · exact Dr.lst ls (drs zs)
    · rw [hq]
      intro v G' H' _ d
      cases d
      rfl
  refine codeAny_mono ((F _).run callerA [] s H ⟨[.ref a], []⟩ [.ref a] [.ref a] _ _ rfl hr e0 (bd _) (.cons rfl .nil) sp) fun res s' h => ?_
  match res, h with
  | .error er, h =>
    obtain ⟨_, _, _, _, _, _, _, _, _, _, _, _, z⟩ := h
    exact z.elim
  | .ok .next, h => exact h.elim
  | .ok .brk, h => exact h.elim
  | .ok .cont, h => exact h.elim
  | .ok (.ret u), ⟨v, H', os, bare, un, hok', rv, hv⟩ =>
    subst hv
    obtain rfl : u = Value.bool true := rv
    refine ⟨rfl, OldK.of_keep fun b o e => ?_, os, bare⟩
    cases z : H b with
    | none => exact un.keep b o e z (fun h => nomatch h) (fun h => nomatch h)
    | some t =>
      obtain ⟨rfl, rfl, _⟩ := q b t z
      obtain ⟨e2, _⟩ := hok' _ _ (un.frzs _ _ _ z)
      rw [ha] at e
      cases e
      exact e2
end
/-- what k_head leaves, by a text that is checked and by the evaluator's answer -/
theorem walk_rv {l : PySem.W.OpenLaw} {n k i : Nat} {q : Program} {loose : List Str} {XP : (Str → Option Value) → Heap → Prop} {YP : World → Heap → Prop} {d : DefRec} {K : Params → PySem.W.Frag} {x : Str} {T : Txt} {ds : List De} {e : De}
    (hn : l.most = some n) (hn2 : n ≤ sizeLine) (hdf : d.params.defaults = []) (hr : Room k callerA) (hY : ∀ (w : World) (h : Heap), YP w h → (K w.params).In h)
    (hi : ds[i]? = some e) (hx : e.x = d.name) (hp : e.ps = [x]) (hnp : e.g.np = 1) (hio : e.g.io = []) (hnw : e.g.nw = false)
    (A : ∀ (w : World) (mg : Str → Option Value) (h : Heap), (K w.params).In h → h.Ns mainGlobals mg → All (K w.params) mg T ds)
    (hq : ∀ zs : List Int, zs.length ≤ n → ∃ o, run (ds.map De.g) k i [.list (zs.map PyData.int)] = .ret (.bool true) o) :
    PySem.W.WalkO q loose XP YP l.row.toRowW d [] (fun f vs => PySem.call f vs) := by
  refine Att.attach_call hn hdf fun w s₀ s₁ mg mb fa o pm cd doc a vs ns G Y ho hd hcd hmg hobj hints hlen hg => ?_
  have KX := hY w _ Y
  have a1 := A w mg _ KX G.T.g
  obtain ⟨out, hq'⟩ := hq ns hlen
  obtain ⟨f, fd, m, z, b, _⟩ := (a1.fn (P := l.prog) (w := w) (base := s₁.heap) (xa := fun _ _ _ _ _ => False) k).2 i e hi
  rw [hx, hmg] at m
  cases m
  refine law_run (x := x) (fd := fd) KX G.T.g G.T.b G.T.builtins G.T.nolimit hg hobj hints (Nat.le_trans hlen hn2) hr (fun base => ?_) (fun u => ?_) hq'
  · obtain ⟨f2, fd2, m2, z2, _, g2⟩ := (a1.fn (P := l.prog) (w := w) (base := base) (xa := fun _ _ _ _ _ => False) k).2 i e hi
    rw [hx, hmg] at m2
    cases m2
    obtain ⟨_, _, _, _, _, _, _, _, _, _, l1, _⟩ := z.ex
    obtain ⟨_, _, _, _, _, _, _, _, _, _, l2, _⟩ := z2.ex
    rw [l1] at l2
    cases l2
    rw [hp, hnp, hio, hnw] at g2
    exact g2
  · have := b s₁ [u] KX (by rw [hp]; rfl)
    rw [hp] at this
    exact this
/-! ### a text's parts, one by one -/
def AllP {α : Type} (p : α → Prop) : List α → Prop
  | [] => True
  | d :: ds => p d ∧ AllP p ds
theorem AllP.mem {α : Type} {p : α → Prop} : ∀ {ds : List α}, AllP p ds → ∀ d ∈ ds, p d
  | d :: ds, h, e, he => by
    rcases List.mem_cons.mp he with rfl | he
    · exact h.1
    · exact h.2.mem e he
def fnsB (T : Txt) (ds : List De) : Bool := T.fns.all fun q => match ds[q.2]? with
  | some d => decide (d.x = q.1)
  | none => false
theorem fns_of {T : Txt} {ds : List De} (h : fnsB T ds = true) : ∀ x i, T.fns.lookup x = some i → ∃ d, ds[i]? = some d ∧ d.x = x := fun x i e => by
  unfold fnsB at h
  rw [List.all_eq_true] at h
  have := h _ (PySem.mem_of_lookup e)
  dsimp only at this
  split at this
  · rename_i d hd
    exact ⟨d, hd, of_decide_eq_true this⟩
  · cases this
def CstAt (K : PySem.W.Frag) (mg : Str → Option Value) (q : Str × PyData) : Prop := ∃ u v, mg q.1 = some u ∧ RelV v u ∧ ∀ G, Dr K G v q.2
section
variable {K : PySem.W.Frag} {h : Heap} {mg : Str → Option Value}
theorem all_of {T : Txt} {ds : List De} (h1 : fnsB T ds = true) (h2 : AllP (De.Ok T) ds) (h3 : AllP (De.At K mg) ds) (h4 : AllP (fun x => mg x = none) T.none) (h5 : AllP (CstAt K mg) T.csts) : All K mg T ds :=
  ⟨fns_of h1, h2.mem, h3.mem, h4.mem, fun x d e => h5.mem (x, d) (PySem.mem_of_lookup e)⟩
theorem at_mk {d : De} {x : Str} {st : Stmt} {ps : List Str} {f : Addr} {oc kV dc pm cd ct : Value} {od an : Option Addr} {osl : Array (Option Value)} (e1 : d.x = x) (e2 : d.st = st) (e3 : d.ps = ps) (X : K.In h) (G : h.Ns mainGlobals mg)
    (b : ∀ (kV doc pm : Value) (an : Option Addr) (cdv ct : Value) (us : List Value), us.length = ps.length → bindArgs (PySem.W.fnOf x x (defArgs st) (defBody st) (defScope st) .none kV doc pm an cdv ct) ⟨us, []⟩ = pure (ps.zip us))
    (a : PySem.W.nsIn K mainGlobals x = some (some (.ref f))) (l : K.lookup f = some ⟨oc, od, .func (PySem.W.fnOf x x (defArgs st) (defBody st) (defScope st) .none kV dc pm an cd ct), osl⟩)
    (c : PySem.W.codeIn K cd x = true) (k : PySem.W.keepIn K (.ref f) = true) : d.At K mg := by
  subst e1 e2 e3
  have z := fun_mk l c k
  exact ⟨f, _, PySem.W.mg_of X G a, z, z.binds b⟩
theorem cst_str {x y : Str} {t : Tok} (X : K.In h) (G : h.Ns mainGlobals mg) (a : PySem.W.nsIn K mainGlobals x = some (some (.str y t))) : CstAt K mg (x, .str y) := ⟨_, .str y, PySem.W.mg_of X G a, ⟨t, rfl⟩, fun G => .str y⟩
theorem cst_int {x : Str} {y : Int} {t : Tok} (X : K.In h) (G : h.Ns mainGlobals mg) (a : PySem.W.nsIn K mainGlobals x = some (some (.int y t))) : CstAt K mg (x, .int y) := ⟨_, .int y, PySem.W.mg_of X G a, ⟨t, rfl⟩, fun G => .int y⟩
theorem blt_none {x : Str} (X : K.In h) (G : h.Ns mainGlobals mg) (a : PySem.W.nsIn K mainGlobals x = some none) : mg x = none := PySem.W.mg_none_of X G a
end
end Rv
end
section
/-! Rv, part 28: what the evaluator answers, in equations. -/
namespace Rv
open PySem
theorem run_def {fs : List Fn} {k i : Nat} {g : Fn} {ds : List D} (h : fs[i]? = some g) (hl : ds.length = g.np) : run fs (k + 1) i ds = fin g (exs (cal fs k) g.body (entry (g.nn - g.np) g.io ds)) := by
  rw [run, h]
  dsimp only
  rw [if_pos hl]
  rfl
/-! ### while -/
section
variable {t : Env → Rs D} {f : Env → Ou} {env e e' : Env} {x : D}
theorem iter_go {n : Nat} (h1 : t env = .ok x e) (h2 : tru x = some true) : iter t f (n + 1) env = (f e).nxt (iter t f n) := by
  rw [iter, h1]
  show (match tru x with
    | some true => (f e).nxt (iter t f n)
    | some false => .nx e
    | none => .no) = _
  rw [h2]
theorem iter_end {n : Nat} (h1 : t env = .ok x e) (h2 : tru x = some false) : iter t f (n + 1) env = .nx e := by
  rw [iter, h1]
  show (match tru x with
    | some true => (f e).nxt (iter t f n)
    | some false => .nx e
    | none => .no) = _
  rw [h2]
theorem iter_more : ∀ {n : Nat} {env : Env}, (iter t f n env).isNo = false → iter t f (n + 1) env = iter t f n env
  | 0, env, h => by cases h
  | n + 1, env, h => by
    cases ht : t env with
    | no => rw [iter, iter, ht]; rfl
    | ex y e1 => rw [iter, iter, ht]; rfl
    | ok x e1 =>
      cases hx : tru x with
      | none =>
        rw [iter, iter, ht]
        show (match tru x with
          | some true => (f e1).nxt (iter t f (n + 1))
          | some false => .nx e1
          | none => .no) = (match tru x with
          | some true => (f e1).nxt (iter t f n)
          | some false => .nx e1
          | none => .no)
        rw [hx]
      | some b =>
        cases b with
        | false => rw [iter_end ht hx, iter_end ht hx]
        | true =>
          rw [iter_go ht hx] at h
          rw [iter_go ht hx, iter_go ht hx]
          cases hf : f e1 with
          | nx e2 =>
            rw [hf] at h
            have h : (iter t f n e2).isNo = false := h
            exact iter_more h
          | no => rfl
          | rt d e2 => rfl
          | ex y e2 => rfl
theorem iter_le {n m : Nat} (hm : n ≤ m) (h : (iter t f n env).isNo = false) : iter t f m env = iter t f n env := by
  induction m with
  | zero => cases Nat.le_zero.mp hm; rfl
  | succ m ih =>
    rcases Nat.lt_or_ge n (m + 1) with l | l
    · have := ih (by omega)
      rw [iter_more (by rw [this]; exact h), this]
    · cases Nat.le_antisymm hm l; rfl
theorem whil_of {n : Nat} (h : (iter t f n env).isNo = false) : whil t f env = iter t f n env := by
  unfold whil
  have ex : ∃ n, (iter t f n env).isNo = false := ⟨n, h⟩
  rw [dif_pos ex]
  have h2 := Classical.choose_spec ex
  rcases Nat.le_total n (Classical.choose ex) with l | l
  · exact iter_le l h
  · exact (iter_le l h2).symm
theorem isNo_iff {o : Ou} : o.isNo = true → o = .no := by cases o <;> simp [Ou.isNo]
theorem whil_go (h1 : t env = .ok x e) (h2 : tru x = some true) (h3 : f e = .nx e') : whil t f env = whil t f e' := by
  by_cases ex : ∃ n, (iter t f n e').isNo = false
  · obtain ⟨n, h⟩ := ex
    have k : iter t f (n + 1) env = iter t f n e' := by rw [iter_go h1 h2, h3]; rfl
    rw [whil_of h, whil_of (n := n + 1) (by rw [k]; exact h), k]
  · have ex2 : ¬ ∃ n, (iter t f n env).isNo = false := fun ⟨n, h⟩ => by
      cases n with
      | zero => cases h
      | succ n =>
        rw [iter_go h1 h2, h3] at h
        exact ex ⟨n, h⟩
    unfold whil
    rw [dif_neg ex, dif_neg ex2]
theorem whil_end (h1 : t env = .ok x e) (h2 : tru x = some false) : whil t f env = .nx e := by
  rw [whil_of (n := 1) (by rw [iter_end h1 h2]; rfl), iter_end h1 h2]
theorem whil_rt {d : D} (h1 : t env = .ok x e) (h2 : tru x = some true) (h3 : f e = .rt d e') : whil t f env = .rt d e' := by
  rw [whil_of (n := 1) (by rw [iter_go h1 h2, h3]; rfl), iter_go h1 h2, h3]; rfl
end
/-! ### for -/
theorem loop_map {α : Type} {f : D → Env → Ou} (enc : α → D) (I : List α → Env → Prop) (h : ∀ pre x post e, I pre e → (pre ++ x :: post) = pre ++ x :: post → ∃ e', f (enc x) e = .nx e' ∧ I (pre ++ [x]) e') :
    ∀ (xs pre : List α) (e : Env), I pre e → ∃ e', loop f (xs.map enc) e = .nx e' ∧ I (pre ++ xs) e'
  | [], pre, e, hi => ⟨e, rfl, by rw [List.append_nil]; exact hi⟩
  | x :: xs, pre, e, hi => by
    obtain ⟨e1, h1, h2⟩ := h pre x xs e hi rfl
    obtain ⟨e2, h3, h4⟩ := loop_map enc I h xs (pre ++ [x]) e1 h2
    refine ⟨e2, ?_, by rw [List.append_assoc] at h4; exact h4⟩
    rw [List.map_cons, loop, h1]
    exact h3
theorem turns_map {α : Type} {f : D → Env → Rs (Option D)} (enc : α → D) (out : α → Option D) (env : Env) : ∀ (xs : List α), (∀ x ∈ xs, f (enc x) env = .ok (out x) env) → turns f (xs.map enc) env = .ok (xs.filterMap out) env
  | [], _ => rfl
  | x :: xs, h => by
    rw [List.map_cons, turns, h x List.mem_cons_self]
    dsimp only
    rw [turns_map enc out env xs fun y hy => h y (List.mem_cons_of_mem _ hy)]
    dsimp only
    cases e : out x with
    | none => rw [List.filterMap_cons_none e]; rfl
    | some d => rw [List.filterMap_cons_some e]; rfl
/-! ### enumerate -/
def enumG {α : Type} (g : Nat → D → α) : Nat → List D → List α
  | _, [] => []
  | i, x :: xs => g i x :: enumG g (i + 1) xs
theorem zip_from {α : Type} (g : Nat → D → α) : ∀ (xs : List D) (i : Nat), ((List.range xs.length).map (· + i)).zipWith g xs = enumG g i xs
  | [], i => rfl
  | x :: xs, i => by
    rw [List.length_cons, List.range_succ_eq_map, List.map_cons, List.zipWith_cons_cons, enumG, ← zip_from g xs (i + 1), List.map_map, Nat.zero_add]
    congr 3
    funext j
    show j + 1 + i = j + (i + 1)
    omega
theorem zip_enum {α : Type} (g : Nat → D → α) (xs : List D) : (List.range xs.length).zipWith g xs = enumG g 0 xs := by
  rw [← zip_from g xs 0]
  congr 1
  simp
/-! ### comparisons -/
theorem pl2_of {x y : D} (h : shp2 x y = true) : pl2 x y = true := by
  unfold shp2 at h
  rw [Bool.and_eq_true] at h
  have h1 := SeqAt.canLay_of_shaped h.1
  have h2 := SeqAt.canLay_of_shaped h.2
  have h3 : x.depth ≤ 64 := of_decide_eq_true (Bool.and_eq_true_iff.mp h.1).2
  unfold pl2
  rw [PyData.plain_of_canLay0 x h1, PyData.plain_of_canLay0 y h2, decide_eq_true (by omega)]
  rfl
theorem cmp_neP {x y : D} (h : pl2 x y = true) : oCmp .NotEq x y = some (.bool (!PyData.eqv x y)) := by
  cases x <;> cases y <;> simp [oCmp, h, dT]
theorem cmp_eqP {x y : D} (h : pl2 x y = true) : oCmp .Eq x y = some (.bool (PyData.eqv x y)) := by
  cases x <;> cases y <;> simp [oCmp, h, dT]
theorem cmp_ne {x y : D} (h : shp2 x y = true) : oCmp .NotEq x y = some (.bool (!PyData.eqv x y)) := cmp_neP (pl2_of h)
theorem cmp_eq {x y : D} (h : shp2 x y = true) : oCmp .Eq x y = some (.bool (PyData.eqv x y)) := cmp_eqP (pl2_of h)
theorem va_var {j : Nat} : (Ex.var j).var? = some j := rfl
theorem va_cst {d : PyData} : (Ex.cst d).var? = none := rfl
theorem va_idx {a b : Ex} : (Ex.idx a b).var? = none := rfl
theorem va_cmp {o : CmpOp} {a b : Ex} : (Ex.cmp o a b).var? = none := rfl
theorem va_call {i : Nat} {es : List Ex} : (Ex.call i es).var? = none := rfl
theorem va_glob {x : Str} {d : PyData} : (Ex.glob x d).var? = none := rfl
theorem va_band {a b : Ex} : (Ex.band a b).var? = none := rfl
theorem va_blt {b : B1} {a : Ex} : (Ex.blt b a).var? = none := rfl
theorem ev_glob {c : Cal} {x : Str} {d : PyData} {env : Env} : ev c (.glob x d) env = .ok (false, d) env := by rw [ev]
theorem ev_cst {c : Cal} {d : PyData} {env : Env} : ev c (.cst d) env = .ok (false, d) env := by rw [ev]
theorem sortedSet_ints {xs : List D} {ns : List Int} (h : intsOf xs = some ns) (hn : ns.length < 4000) : oB .sortedSet [.list xs] = oSort (once [] xs) := by
  show (match intsOf xs with
    | some ns => if decide (ns.length < 4000) then oSort (once [] xs) else none
    | none => match setKeys xs with
      | some ks => if decide (ks.length < 64) then oSort (once [] xs) else none
      | none => none) = _
  rw [h]
  exact if_pos (decide_eq_true hn)
theorem sortedSet_keys {xs : List D} {ks : List NestedKey} (h0 : intsOf xs = none) (h : setKeys xs = some ks) (hn : ks.length < 64) : oB .sortedSet [.list xs] = oSort (once [] xs) := by
  show (match intsOf xs with
    | some ns => if decide (ns.length < 4000) then oSort (once [] xs) else none
    | none => match setKeys xs with
      | some ks => if decide (ks.length < 64) then oSort (once [] xs) else none
      | none => none) = _
  rw [h0, h]
  exact if_pos (decide_eq_true hn)
theorem lenSet_keys {xs : List D} {ks : List NestedKey} (h : setKeys xs = some ks) (hn : ks.length < 64) : oB .lenSet [.list xs] = some (.int (once [] xs).length) := by
  show (match setKeys xs with
    | some ks => if decide (ks.length < 64) then some (PyData.int (once [] xs).length) else none
    | none => none) = _
  rw [h]
  exact if_pos (decide_eq_true hn)
/-! ### calls -/
section
variable {c : Cal} {f n i : Nat} {es : List Ex} {ds : List D} {d P P' : D} {env e1 : Env}
theorem evArs_nil : ∀ (es : List Ex) (env : Env), evArs c [] es env = (evs c es env).bind fun ds e => .ok (ds.map Ar.v) e
  | [], env => by rw [evArs, evs]; rfl
  | e :: es, env => by
    rw [evArs, evs]
    cases e.var? <;> (
      dsimp only [List.headD, List.tail]
      cases valOf (ev c e env) with
      | no => rfl
      | ex x e2 => rfl
      | ok d e2 =>
        show (evArs c [] es e2).bind _ = ((evs c es e2).bind _).bind _
        rw [evArs_nil es e2]
        cases evs c es e2 <;> rfl)
theorem slots_v : ∀ ds : List D, slotsOf (ds.map Ar.v) = []
  | [] => rfl
  | d :: ds => slots_v ds
theorem args_v (env : Env) : ∀ ds : List D, argDs env (ds.map Ar.v) = some ds
  | [] => rfl
  | d :: ds => by
    show (some d).bind (fun d => (argDs env (ds.map Ar.v)).map (d :: ·)) = _
    rw [args_v env ds]
    rfl
theorem lay_v (env : Env) : ∀ ds : List D, lay (ds.map Ar.v) [] env = some env
  | [] => rfl
  | d :: ds => by
    show lay (.v d :: ds.map Ar.v) [] env = some env
    unfold lay
    exact lay_v env ds
/-- a call with plain arguments -/
theorem ev_call (sg : c.sig f = some ⟨n, []⟩) (he : evs c es env = .ok ds e1) (hn : ds.length = n) (hr : c.run f ds = .ret d []) (nf : c.nw f = false := by rfl) : ev c (.call f es) env = .ok (false, d) e1 := by
  rw [ev, sg, nf]
  dsimp only
  rw [evArs_nil, he]
  show (if (ds.map Ar.v).length = n then (runC c f (ds.map Ar.v) e1).bind _ else .no) = _
  rw [List.length_map, if_pos hn]
  unfold runC
  rw [slots_v, if_pos List.nodup_nil, args_v]
  dsimp only
  rw [hr]
  unfold outOf
  dsimp only
  rw [lay_v]
  rfl
/-- .. whose first argument is handed over to be changed -/
theorem ev_callS {s s' : Sl} (sg : c.sig f = some ⟨n, [true]⟩) (h0 : ∃ x, rd i env = some x) (he : evs c es env = .ok ds e1) (hi : e1[i]? = some (some s)) (hm : s.mine = true) (hn : ds.length + 1 = n) (hr : c.run f (s.d :: ds) = .ret d [P']) (hu : upSl P' s = some s') (nf : c.nw f = false := by rfl) :
    ev c (.call f (.var i :: es)) env = .ok (false, d) (e1.set i (some s')) := by
  obtain ⟨x, h0⟩ := h0
  rw [ev, sg, nf]
  dsimp only
  have a1 : evArs c [true] (.var i :: es) env = .ok (.s i :: ds.map Ar.v) e1 := by
    rw [evArs]
    show ((Rs.of (rd i env) env).bind fun _ e0 => (evArs c [] es e0).bind fun as e2 => .ok (.s i :: as) e2) = _
    rw [h0]
    show (evArs c [] es env).bind _ = _
    rw [evArs_nil, he]
    rfl
  rw [a1]
  show (if (Ar.s i :: ds.map Ar.v).length = n then (runC c f (Ar.s i :: ds.map Ar.v) e1).bind _ else .no) = _
  rw [List.length_cons, List.length_map, if_pos hn]
  unfold runC
  have sl : slotsOf (Ar.s i :: ds.map Ar.v) = [i] := by
    show i :: slotsOf (ds.map Ar.v) = [i]
    rw [slots_v]
  have ad : argDs e1 (Ar.s i :: ds.map Ar.v) = some (s.d :: ds) := by
    have : argD e1 (.s i) = some s.d := by
      unfold argD
      dsimp only
      rw [hi]
      cases s with
      | val d => cases hm
      | own d => rfl
      | io d => rfl
    show (argD e1 (.s i)).bind (fun d => (argDs e1 (ds.map Ar.v)).map (d :: ·)) = _
    rw [this, args_v]
    rfl
  rw [sl, if_pos (List.nodup_cons.mpr ⟨List.not_mem_nil, List.nodup_nil⟩), ad]
  dsimp only
  rw [hr]
  unfold outOf
  have ly : lay (Ar.s i :: ds.map Ar.v) [P'] e1 = some (e1.set i (some s')) := by
    show (match e1[i]? with
      | some (some s) => (upSl P' s).bind fun s' => lay (ds.map Ar.v) [] (e1.set i (some s'))
      | _ => none) = _
    rw [hi]
    dsimp only
    rw [hu]
    exact lay_v _ ds
  dsimp only
  rw [ly]
  rfl
end
theorem va_lst {es : List Ex} : (Ex.lst es).var? = none := rfl
theorem va_tup {es : List Ex} : (Ex.tup es).var? = none := rfl
theorem va_bin {o : Operator} {a b : Ex} : (Ex.bin o a b).var? = none := rfl
theorem va_not {a : Ex} : (Ex.not a).var? = none := rfl
theorem va_isi {a : Ex} {t : Ty} : (Ex.isi a t).var? = none := rfl
theorem va_comp {a : List Nat} {b : Tg} {s : Src} {d : List Ex} {e : Ex} : (Ex.comp a b s d e).var? = none := rfl
theorem va_compIf {a : List Nat} {b : Tg} {s : Src} {d : List Ex} {e f : Ex} : (Ex.compIf a b s d e f).var? = none := rfl
theorem nxt_nx {e : Env} {f : Env → Ou} : (Ou.nx e).nxt f = f e := rfl
end Rv
end
section
/-! Rv, part 29: the evaluator's equations, one for each construct, -/
namespace Rv
open PySem
section
variable {c : Cal} {env : Env} {a b z t : Ex} {es lo hi : List Ex} {i : Nat} {o o' : CmpOp}
theorem ev_var : ev c (.var i) env = (frz i env).bind fun d e => .ok (false, d) e := by rw [ev]
theorem ev_tup : ev c (.tup es) env = (evs c es env).bind fun ds e => if small ds.length then .ok (false, .tuple ds) e else .no := by rw [ev]
theorem ev_lst : ev c (.lst es) env = (evs c es env).bind fun ds e => if small ds.length then .ok (true, .list ds) e else .no := by rw [ev]
theorem ev_dic : ev c .dic env = .ok (true, .dict []) env := by rw [ev]
theorem ev_bin {o : Operator} : ev c (.bin o a b) env = (two a (ev c a) b (ev c b) env).bind fun p e => nw (oBin o p.1 p.2) e := by rw [ev]
theorem ev_cmp : ev c (.cmp o a b) env = (two a (ev c a) b (ev c b) env).bind fun p e => ol (oCmp o p.1 p.2) e := by rw [ev]
theorem ev_chn : ev c (.chn a b z o o') env = (valOf (ev c a env)).bind fun x e1 => (valOf (ev c b e1)).bind fun y e2 =>
      match oCmp o x y with
      | some (.bool true) => (valOf (ev c z e2)).bind fun w e3 => ol (oCmp o' y w) e3
      | some (.bool false) => .ok (false, .bool false) e2
      | _ => .no := by rw [ev] <;> rfl
theorem ev_band : ev c (.band a b) env = (valOf (ev c a env)).bind fun x e => match tru x with
      | some true => (valOf (ev c b e)).bind fun d e2 => .ok (false, d) e2
      | some false => .ok (false, x) e
      | none => .no := by rw [ev] <;> rfl
theorem ev_bor : ev c (.bor a b) env = (valOf (ev c a env)).bind fun x e => match tru x with
      | some true => .ok (false, x) e
      | some false => (valOf (ev c b e)).bind fun d e2 => .ok (false, d) e2
      | none => .no := by rw [ev] <;> rfl
theorem ev_not : ev c (.not a) env = (brw a (ev c a) env).bind fun x e => ol ((tru x).map fun b => dT !b) e := by rw [ev]
theorem ev_neg : ev c (.neg a) env = (valOf (ev c a env)).bind fun x e => ol (neg1 x) e := by rw [ev]
theorem ev_ite : ev c (.ite t a b) env = (brw t (ev c t) env).bind fun x e => match tru x with
      | some true => ev c a e
      | some false => ev c b e
      | none => .no := by rw [ev] <;> rfl
theorem ev_blt {B : B1} : ev c (.blt B a) env = (brw a (ev c a) env).bind fun x e => nw (oB B [x]) e := by rw [ev]
theorem ev_blt2 {B : B1} : ev c (.blt2 B a b) env = (two a (ev c a) b (ev c b) env).bind fun p e => nw (oB B [p.1, p.2]) e := by rw [ev]
theorem ev_isi {T : Ty} : ev c (.isi a T) env = (brw a (ev c a) env).bind fun x e => .ok (false, dT (oIs x T)) e := by rw [ev]
theorem ev_idx : ev c (.idx a b) env = (two a (ev c a) b (ev c b) env).bind fun p e => ol (oIdx p.1 p.2) e := by rw [ev]
theorem ev_slc : ev c (.slc a lo hi) env = (valOf (ev c a env)).bind fun x e => (prt (evs c lo e)).bind fun l e2 => (prt (evs c hi e2)).bind fun h e3 => nw (oSlc x l h) e3 := by rw [ev]
theorem ev_rev : ev c (.rev a) env = (brw a (ev c a) env).bind fun x e => nw (oRev x) e := by rw [ev]
theorem ev_pop : ev c (.pop i) env = popAt i env := by rw [ev]
theorem ev_get : ev c (.get a b) env = (recv isDc a (ev c a) env).bind fun o e1 => (brw b (ev c b) e1).bind fun kd e2 => ol ((later a o e2).bind fun x => dgetOr x kd .none) e2 := by rw [ev]
theorem ev_get2 : ev c (.get2 a b z) env = (recv isDc a (ev c a) env).bind fun o e1 => (valOf (ev c b e1)).bind fun kd e2 => (valOf (ev c z e2)).bind fun zd e3 => ol ((later a o e3).bind fun x => dgetOr x kd zd) e3 := by rw [ev]
theorem ev_index : ev c (.index a b) env = (recv isLs a (ev c a) env).bind fun o e1 => (brw b (ev c b) e1).bind fun kd e2 => ol ((later a o e2).bind fun x => oIndex x kd) e2 := by rw [ev]
theorem evs_nil : evs c [] env = .ok [] env := by rw [evs]
theorem evs_cons : evs c (a :: es) env = (valOf (ev c a env)).bind fun d e1 => (evs c es e1).bind fun ds e2 => .ok (d :: ds) e2 := by rw [evs]
end
/-! ### binding -/
section
variable {α β : Type} {a : α} {e : Env} {x : Exn}
theorem b_ok {f : α → Env → Rs β} : (Rs.ok a e).bind f = f a e := rfl
theorem b_no {f : α → Env → Rs β} : (Rs.no : Rs α).bind f = .no := rfl
theorem b_of {f : α → Env → Rs β} : (Rs.of (some a) e).bind f = f a e := rfl
theorem of_some : Rs.of (some a) e = .ok a e := rfl
theorem ou_ok {f : α → Env → Ou} : (Rs.ok a e).ou f = f a e := rfl
theorem v_ok {b : Bool} {d : D} : valOf (.ok (b, d) e) = .ok d e := rfl
theorem nx_some : nxO (some e) = .nx e := rfl
theorem rt_nxt {d : D} {f : Env → Ou} : (Ou.rt d e).nxt f = .rt d e := rfl
end
/-! ### slots -/
section
variable {env : Env} {i : Nat} {s : Sl} {d : D}
theorem putV_none (h : env[i]? = some none) : putV i s env = some (env.set i (some s)) := by simp [putV, h]
theorem putV_val (h : env[i]? = some (some (.val d))) : putV i s env = some (env.set i (some s)) := by simp [putV, h]
theorem putV_own (h : env[i]? = some (some (.own d))) : putV i s env = some (env.set i (some s)) := by simp [putV, h]
theorem putV_map {x : Option D} (h : env[i]? = some (x.map Sl.val)) : putV i s env = some (env.set i (some s)) := by
  cases x <;> simp [putV, h]
theorem putV_mapc {α : Type} {f : α → D} {x : Option α} (h : env[i]? = some (x.map (Sl.val ∘ f))) : putV i s env = some (env.set i (some s)) := by
  cases x <;> simp [putV, h]
end
/-! ### calls -/
def callV (r : Co) (env : Env) : Rs (Bool × D) :=
  match r with
  | .ret d [] => .ok (false, d) env
  | .exn x [] => .ex x env
  | _ => .no
def callS (r : D → Co) (i : Nat) (env : Env) : Rs (Bool × D) :=
  match env[i]? with
  | some (some (.own d)) => match r d with
    | .ret x [P] => .ok (false, x) (env.set i (some (.own P)))
    | .exn x [P] => .ex x (env.set i (some (.own P)))
    | _ => .no
  | some (some (.io d)) => match r d with
    | .ret x [P] => .ok (false, x) (env.set i (some (.io P)))
    | .exn x [P] => .ex x (env.set i (some (.io P)))
    | _ => .no
  | _ => .no
theorem lay_more (env : Env) (x : D) (xs : List D) : ∀ ds : List D, lay (ds.map Ar.v) (x :: xs) env = none
  | [] => by simp [lay]
  | d :: ds => by
    show lay (.v d :: ds.map Ar.v) (x :: xs) env = none
    unfold lay
    exact lay_more env x xs ds
theorem evs_len {c : Cal} : ∀ {es : List Ex} {env e1 : Env} {ds : List D}, evs c es env = .ok ds e1 → ds.length = es.length
  | [], env, e1, ds, h => by rw [evs] at h; cases h; rfl
  | e :: es, env, e1, ds, h => by
    rw [evs] at h
    obtain ⟨d, e2, _, h⟩ := Rs.bind_ok h
    obtain ⟨ds', e3, h1, h⟩ := Rs.bind_ok h
    cases h
    rw [List.length_cons, List.length_cons, evs_len h1]
theorem ev_call0 {c : Cal} {f n : Nat} {es : List Ex} {env : Env} (sg : c.sig f = some ⟨n, []⟩) (hn : es.length = n) (nf : c.nw f = false := by rfl) : ev c (.call f es) env = (evs c es env).bind fun ds e1 => callV (c.run f ds) e1 := by
  rw [ev, sg, nf]
  dsimp only
  rw [evArs_nil]
  cases h : evs c es env with
  | no => rfl
  | ex x e => rfl
  | ok ds e1 =>
    have hl := evs_len h
    show (if (ds.map Ar.v).length = n then (runC c f (ds.map Ar.v) e1).bind _ else .no) = callV (c.run f ds) e1
    rw [List.length_map, if_pos (by rw [hl, hn])]
    unfold runC
    rw [slots_v, if_pos List.nodup_nil, args_v]
    dsimp only
    cases c.run f ds with
    | no => rfl
    | ret d outs =>
      cases outs with
      | nil => unfold outOf; dsimp only; rw [lay_v]; rfl
      | cons x xs => unfold outOf; dsimp only; rw [lay_more]; rfl
    | exn d outs =>
      cases outs with
      | nil => unfold outOf; dsimp only; rw [lay_v]; rfl
      | cons x xs => unfold outOf; dsimp only; rw [lay_more]; rfl
theorem ev_call1 {c : Cal} {f n i : Nat} {es : List Ex} {env : Env} (sg : c.sig f = some ⟨n, [true]⟩) (hn : es.length + 1 = n) (nf : c.nw f = false := by rfl) :
    ev c (.call f (.var i :: es)) env = (Rs.of (rd i env) env).bind fun _ e0 => (evs c es e0).bind fun ds e1 => callS (fun d => c.run f (d :: ds)) i e1 := by
  rw [ev, sg, nf]
  dsimp only
  have a1 : evArs c [true] (.var i :: es) env = ((Rs.of (rd i env) env).bind fun _ e0 => (evs c es e0).bind fun ds e1 => .ok (.s i :: ds.map Ar.v) e1) := by
    rw [evArs]
    show ((Rs.of (rd i env) env).bind fun _ e0 => (evArs c [] es e0).bind fun as e2 => .ok (.s i :: as) e2) = _
    congr 1
    funext _ e0
    rw [evArs_nil]
    cases evs c es e0 <;> rfl
  rw [a1]
  cases rd i env with
  | none => rfl
  | some x =>
    show (((evs c es env).bind _).bind _) = (evs c es env).bind _
    cases h : evs c es env with
    | no => rfl
    | ex x e => rfl
    | ok ds e1 =>
      have hl := evs_len h
      show (if (Ar.s i :: ds.map Ar.v).length = n then (runC c f (Ar.s i :: ds.map Ar.v) e1).bind _ else .no) = callS (fun d => c.run f (d :: ds)) i e1
      rw [List.length_cons, List.length_map, if_pos (by rw [hl, hn])]
      have sl : slotsOf (Ar.s i :: ds.map Ar.v) = [i] := by
        show i :: slotsOf (ds.map Ar.v) = [i]
        rw [slots_v]
      unfold runC
      rw [sl, if_pos (List.nodup_cons.mpr ⟨List.not_mem_nil, List.nodup_nil⟩)]
      have ad : argDs e1 (Ar.s i :: ds.map Ar.v) = (argD e1 (.s i)).map fun d => d :: ds := by
        show (argD e1 (.s i)).bind (fun d => (argDs e1 (ds.map Ar.v)).map (d :: ·)) = _
        rw [args_v]
        cases argD e1 (.s i) <;> rfl
      have ly : ∀ (outs : List D) (s : Sl), e1[i]? = some (some s) → lay (Ar.s i :: ds.map Ar.v) outs e1 = match outs with
          | [P] => (upSl P s).map fun s' => e1.set i (some s')
          | _ => none := by
        intro outs s hs
        cases outs with
        | nil => rfl
        | cons P r =>
          show (match e1[i]? with
            | some (some s) => (upSl P s).bind fun s' => lay (ds.map Ar.v) r (e1.set i (some s'))
            | _ => none) = _
          rw [hs]
          cases r with
          | nil =>
            dsimp only
            cases upSl P s with
            | none => rfl
            | some s' => exact lay_v _ ds
          | cons y ys =>
            dsimp only
            cases upSl P s with
            | none => rfl
            | some s' => exact lay_more _ y ys ds
      rw [ad]
      unfold callS argD
      dsimp only
      cases hs : e1[i]? with
      | none => rfl
      | some os =>
        cases os with
        | none => rfl
        | some s =>
          cases s with
          | val d => rfl
          | own d =>
            dsimp only [Option.map]
            cases c.run f (d :: ds) with
            | no => rfl
            | ret x outs =>
              unfold outOf
              dsimp only
              rw [ly outs _ hs]
              cases outs with
              | nil => rfl
              | cons P r => cases r <;> rfl
            | exn x outs =>
              unfold outOf
              dsimp only
              rw [ly outs _ hs]
              cases outs with
              | nil => rfl
              | cons P r => cases r <;> rfl
          | io d =>
            dsimp only [Option.map]
            cases c.run f (d :: ds) with
            | no => rfl
            | ret x outs =>
              unfold outOf
              dsimp only
              rw [ly outs _ hs]
              cases outs with
              | nil => rfl
              | cons P r => cases r <;> rfl
            | exn x outs =>
              unfold outOf
              dsimp only
              rw [ly outs _ hs]
              cases outs with
              | nil => rfl
              | cons P r => cases r <;> rfl
/-! ### statements -/
section
variable {c : Cal} {env : Env} {e k : Ex} {i : Nat} {is : List Nat} {es : List Ex} {A B : List Sm} {tg : Tg}
theorem st_nil : exs c [] env = .nx env := by rw [exs]
theorem st_cons {s : Sm} : exs c (s :: A) env = (ex1 c s env).nxt (exs c A) := by rw [exs]
theorem st_set : ex1 c (.set i e) env = (ev c e env).ou fun p e1 => nxO (putV i (slOf p) e1) := by rw [ex1]
theorem st_par : ex1 c (.par is es) env = (evL c es env).ou fun ps e1 => nxO (putL is ps e1) := by rw [ex1]
theorem st_unp : ex1 c (.unp tg e) env = (valOf (ev c e env)).ou fun d e1 => nxO (asg tg d e1) := by rw [ex1]
theorem st_put : ex1 c (.put i k e) env = (valOf (ev c e env)).ou fun v e1 => (Rs.of (rd i e1) e1).ou fun _ e2 => (valOf (ev c k e2)).ou fun kd e3 => chg i (fun x => putIx x kd v) e3 := by
  rw [ex1]
  congr 1
  funext v e1
  show Rs.ou (Rs.bind (Rs.of (rd i e1) e1) _) _ = _
  cases rd i e1 <;> rfl
theorem st_app : ex1 c (.app i e) env = (Rs.of (rd i env) env).ou fun d e0 => if isLs d then (valOf (ev c e e0)).ou fun v e1 => chg i (app1 v) e1 else .no := by
  rw [ex1]
  show Rs.ou (Rs.bind (Rs.of (rd i env) env) _) _ = _
  cases rd i env with
  | none => rfl
  | some d => 
    show Rs.ou (if isLs d = true then _ else _) _ = _
    cases h : isLs d <;> simp [Rs.of, Rs.ou, h]
theorem st_ext : ex1 c (.ext i e) env = (Rs.of (rd i env) env).ou fun d e0 => if isLs d then (valOf (ev c e e0)).ou fun v e1 => chg i (ext1 v) e1 else .no := by
  rw [ex1]
  show Rs.ou (Rs.bind (Rs.of (rd i env) env) _) _ = _
  cases rd i env with
  | none => rfl
  | some d =>
    show Rs.ou (if isLs d = true then _ else _) _ = _
    cases h : isLs d <;> simp [Rs.of, Rs.ou, h]
theorem st_expr : ex1 c (.expr e) env = (valOf (ev c e env)).ou fun _ e1 => .nx e1 := by rw [ex1]
theorem st_ret : ex1 c (.ret e) env = (valOf (ev c e env)).ou fun d e1 => .rt d e1 := by rw [ex1]
theorem st_ite : ex1 c (.ite e A B) env = (brw e (ev c e) env).ou fun x e1 => match tru x with
      | some true => exs c A e1
      | some false => exs c B e1
      | none => .no := by rw [ex1] <;> rfl
theorem st_pass : ex1 c .pass env = .nx env := by rw [ex1]
theorem evL_nil : evL c [] env = .ok [] env := by rw [evL]
theorem evL_cons : evL c (e :: es) env = (ev c e env).bind fun p e1 => (evL c es e1).bind fun ps e2 => .ok (p :: ps) e2 := by rw [evL]
end
/-! ### data -/
theorem small_lt {n : Nat} (h : n < 1000000) : small n = true := by
  unfold small
  rw [PySem.sizeLine_eq]
  exact decide_eq_true (by omega)
section
variable {i j : Int} {b : Bool} {xs : List D}
theorem tru_b : tru (.bool b) = some b := rfl
theorem lt_ii : oCmp .Lt (.int i) (.int j) = some (.bool (decide (i < j))) := rfl
theorem gt_ii : oCmp .Gt (.int i) (.int j) = some (.bool (decide (j < i))) := rfl
theorem le_ii : oCmp .LtE (.int i) (.int j) = some (.bool (decide (i ≤ j))) := by
  show some (dT (!decide (j < i))) = _
  by_cases h : j < i
  · rw [decide_eq_true h, decide_eq_false (by omega)]; rfl
  · rw [decide_eq_false h, decide_eq_true (by omega)]; rfl
theorem ge_ii : oCmp .GtE (.int i) (.int j) = some (.bool (decide (j ≤ i))) := by
  show some (dT (!decide (i < j))) = _
  by_cases h : i < j
  · rw [decide_eq_true h, decide_eq_false (by omega)]; rfl
  · rw [decide_eq_false h, decide_eq_true (by omega)]; rfl
theorem shp2_int : shp2 (.int i) (.int j) = true := by
  unfold shp2
  simp [SeqAt.shaped, PyData.canLay0, PyData.depth]
theorem eqv_ii : PyData.eqv (.int i) (.int j) = decide (i = j) := by
  rw [PyData.eqv]
  by_cases h : i = j
  · subst h; simp
  · simp [h]
theorem eq_ii : oCmp .Eq (.int i) (.int j) = some (.bool (decide (i = j))) := by rw [cmp_eq shp2_int, eqv_ii]
theorem ne_ii : oCmp .NotEq (.int i) (.int j) = some (.bool (decide (i ≠ j))) := by
  rw [cmp_ne shp2_int, eqv_ii]
  by_cases h : i = j <;> simp [h]
theorem at_0 {x : D} : L2.atI (x :: xs) 0 = some x := L2.atI_nat (j := 0) rfl
theorem at_1 {x y : D} : L2.atI (x :: y :: xs) 1 = some y := L2.atI_nat (j := 1) rfl
theorem at_2 {x y z : D} : L2.atI (x :: y :: z :: xs) 2 = some z := L2.atI_nat (j := 2) rfl
theorem at_3 {x y z u : D} : L2.atI (x :: y :: z :: u :: xs) 3 = some u := L2.atI_nat (j := 3) rfl
theorem add_ll {xs ys : List D} (h : small (xs.length + ys.length) = true) : oBin .Add (.list xs) (.list ys) = some (.list (xs ++ ys)) := by
  show (if small (xs.length + ys.length) then some (PyData.list (xs ++ ys)) else none) = _
  rw [h, if_pos rfl]
theorem add_tt {xs ys : List D} (h : small (xs.length + ys.length) = true) : oBin .Add (.tuple xs) (.tuple ys) = some (.tuple (xs ++ ys)) := by
  show (if small (xs.length + ys.length) then some (PyData.tuple (xs ++ ys)) else none) = _
  rw [h, if_pos rfl]
theorem add_ii : oBin .Add (.int i) (.int j) = some (.int (i + j)) := rfl
theorem sub_ii : oBin .Sub (.int i) (.int j) = some (.int (i - j)) := rfl
theorem div_ii (h : 0 < j) (h2 : j < 1000000) : oBin .FloorDiv (.int i) (.int j) = some (.int (i / j)) := by
  have dv : divOk j = true := by
    unfold divOk
    rw [decide_eq_true h, Bool.true_and, decide_eq_true_eq]
    have : j.natAbs.log2 < 20 := (Nat.log2_lt (by omega)).mpr (by omega)
    omega
  show (if divOk j then some (PyData.int (i / j)) else none) = _
  rw [dv, if_pos rfl]
end
/-! ### for, and comprehensions, over a list that is known -/
theorem loop_on {α : Type} {f : D → Env → Ou} (en : α → D) (I : List α → Env → Prop) (W : List α) (h : ∀ pre x post e, W = pre ++ x :: post → I pre e → ∃ e', f (en x) e = .nx e' ∧ I (pre ++ [x]) e') (e : Env) (h0 : I [] e) :
    ∃ e', loop f (W.map en) e = .nx e' ∧ I W e' := by
  have aux : ∀ (post pre : List α) (e : Env), W = pre ++ post → I pre e → ∃ e', loop f (post.map en) e = .nx e' ∧ I W e' := by
    intro post
    induction post with
    | nil => intro pre e hw hi; rw [List.append_nil] at hw; subst hw; exact ⟨e, rfl, hi⟩
    | cons x post ih =>
      intro pre e hw hi
      obtain ⟨e1, h1, h2⟩ := h pre x post e hw hi
      obtain ⟨e2, h3, h4⟩ := ih (pre ++ [x]) e1 (by rw [hw, List.append_assoc]; rfl) h2
      refine ⟨e2, ?_, h4⟩
      rw [List.map_cons, loop, h1]
      exact h3
  exact aux W [] e rfl h0
theorem turns_on {α : Type} {f : D → Env → Rs (Option D)} (en : α → D) (I : List α → List D → Env → Prop) (W : List α) (h : ∀ pre x post ys e, W = pre ++ x :: post → I pre ys e → ∃ o e', f (en x) e = .ok o e' ∧ I (pre ++ [x]) (ys ++ o.toList) e') (e : Env) (h0 : I [] [] e) :
    ∃ ys e', turns f (W.map en) e = .ok ys e' ∧ I W ys e' := by
  have aux : ∀ (post pre : List α) (ys : List D) (e : Env), W = pre ++ post → I pre ys e → ∃ zs e', turns f (post.map en) e = .ok zs e' ∧ I W (ys ++ zs) e' := by
    intro post
    induction post with
    | nil => intro pre ys e hw hi; rw [List.append_nil] at hw; subst hw; exact ⟨[], e, rfl, by rw [List.append_nil]; exact hi⟩
    | cons x post ih =>
      intro pre ys e hw hi
      obtain ⟨o, e1, h1, h2⟩ := h pre x post ys e hw hi
      obtain ⟨zs, e2, h3, h4⟩ := ih (pre ++ [x]) _ e1 (by rw [hw, List.append_assoc]; rfl) h2
      refine ⟨o.toList ++ zs, e2, ?_, by rw [← List.append_assoc]; exact h4⟩
      rw [List.map_cons, turns, h1]
      dsimp only
      rw [h3]
  obtain ⟨zs, e', h1, h2⟩ := aux W [] [] e rfl h0
  exact ⟨zs, e', h1, by simpa using h2⟩
/-! ### dicts of numbers -/
abbrev WD := List (Int × Int)
def wpair (p : Int × Int) : D × D := (.int p.1, .int p.2)
def wD (kvs : WD) : D := .dict (kvs.map wpair)
def wput (kvs : WD) (r m : Int) : WD := if kvs.any fun p => decide (p.1 = r) then kvs.map fun p => if p.1 = r then (p.1, m) else p else kvs ++ [(r, m)]
def wget (kvs : WD) (r : Int) : Option Int := (kvs.find? fun p => decide (p.1 = r)).map (·.2)
theorem kfit_w (kvs : WD) (r : Int) : kfit (kvs.map wpair) (.int r) = true := by
  unfold kfit
  rw [List.all_map]
  simp [kin, wpair]
theorem dput_w (kvs : WD) (r m : Int) : dput (kvs.map wpair) (.int r) (.int m) = (wput kvs r m).map wpair := by
  unfold dput wput
  have e1 : ((kvs.map wpair).any fun p => PyData.eqv p.1 (.int r)) = kvs.any fun p => decide (p.1 = r) := by
    rw [List.any_map]
    have : ((fun p : D × D => PyData.eqv p.1 (.int r)) ∘ wpair) = fun q => decide (q.1 = r) := by
      funext q
      exact eqv_ii
    rw [this]
  rw [e1]
  cases kvs.any fun p => decide (p.1 = r) with
  | false => simp [wpair]
  | true =>
    rw [if_pos rfl, if_pos rfl, List.map_map, List.map_map]
    congr 1
    funext p
    show (if PyData.eqv (.int p.1) (.int r) = true then (PyData.int p.1, PyData.int m) else wpair p) = wpair (if p.1 = r then (p.1, m) else p)
    rw [eqv_ii]
    by_cases h : p.1 = r <;> simp [h, wpair]
theorem dget_w (kvs : WD) (r : Int) : dget (kvs.map wpair) (.int r) = (wget kvs r).map PyData.int := by
  unfold dget wget
  rw [List.find?_map, Option.map_map, Option.map_map]
  have : ((fun q : D × D => PyData.eqv q.1 (.int r)) ∘ wpair) = fun q => decide (q.1 = r) := by
    funext q
    exact eqv_ii
  rw [this]
  rfl
theorem wput_len (kvs : WD) (r m : Int) : (wput kvs r m).length ≤ kvs.length + 1 := by
  unfold wput
  split <;> simp
theorem any_keys (kvs : WD) (r : Int) : (kvs.any fun p => decide (p.1 = r)) = decide (r ∈ kvs.map (·.1)) := by
  induction kvs with
  | nil => rfl
  | cons p kvs ih =>
    rw [List.any_cons, ih, List.map_cons]
    by_cases h : p.1 = r
    · simp [h]
    · have h2 : ¬ r = p.1 := fun z => h z.symm
      simp [h, h2]
theorem wput_keys (kvs : WD) (r m : Int) : (wput kvs r m).map (·.1) = if r ∈ kvs.map (·.1) then kvs.map (·.1) else kvs.map (·.1) ++ [r] := by
  unfold wput
  rw [any_keys]
  by_cases h : r ∈ kvs.map (·.1)
  · rw [decide_eq_true h, if_pos rfl, if_pos h, List.map_map]
    congr 1
    funext p
    show (if p.1 = r then (p.1, m) else p).1 = p.1
    split <;> rfl
  · rw [decide_eq_false h, if_neg h]
    simp
theorem put_w (kvs : WD) (r m : Int) (h : kvs.length < 100000) : putIx (wD kvs) (.int r) (.int m) = some (wD (wput kvs r m)) := by
  show (if kfit (kvs.map wpair) (.int r) && small ((kvs.map wpair).length + 1) then some (PyData.dict (dput (kvs.map wpair) (.int r) (.int m))) else none) = _
  rw [kfit_w, small_lt (by rw [List.length_map]; omega), dput_w]
  rfl
theorem idx_w (kvs : WD) (r : Int) : oIdx (wD kvs) (.int r) = (wget kvs r).map PyData.int := by
  show (if kfit (kvs.map wpair) (.int r) then dget (kvs.map wpair) (.int r) else none) = _
  rw [kfit_w, dget_w]
  rfl
theorem getOr_w (kvs : WD) (r m : Int) : dgetOr (wD kvs) (.int r) (.int m) = some (.int ((wget kvs r).getD m)) := by
  show (if kfit (kvs.map wpair) (.int r) then some ((dget (kvs.map wpair) (.int r)).getD (.int m)) else none) = _
  rw [kfit_w, dget_w]
  cases wget kvs r <;> rfl
end Rv
end
section
/-! Rv, part 30: repr, of what is not too long. -/
namespace Rv
open PySem
/-- flat to m, of the weight n, of short numbers -/
structure Rp (m n : Nat) (d : D) : Prop where
  lay : d.canLay0 = true
  dep : d.depth ≤ m
  wt : d.weight ≤ n
  sh : d.intsShort 13 = true
  sw : d.showable = true
structure Rps (m n : Nat) (ds : List D) : Prop where
  lay : PyData.canLayAll0 ds = true
  dep : PyData.depthAll ds ≤ m
  wt : PyData.weightAll ds ≤ n
  sh : PyData.intsShortAll 13 ds = true
  sw : PyData.showableAll ds = true
section
variable {m n m' n' k : Nat} {d : D} {ds : List D}
theorem Rp.mono (h : Rp m n d) (hm : m ≤ m') (hn : n ≤ n') : Rp m' n' d := ⟨h.lay, Nat.le_trans h.dep hm, Nat.le_trans h.wt hn, h.sh, h.sw⟩
theorem Rps.mono (h : Rps m n ds) (hm : m ≤ m') (hn : n ≤ n') : Rps m' n' ds := ⟨h.lay, Nat.le_trans h.dep hm, Nat.le_trans h.wt hn, h.sh, h.sw⟩
theorem Rps.nil : Rps m n [] := ⟨rfl, Nat.zero_le _, Nat.zero_le _, rfl, rfl⟩
theorem Rps.cons (h : Rp m n d) (k : Rps m n' ds) : Rps m (n + 1 + n') (d :: ds) := by
  have h1 := h.dep
  have h2 := k.dep
  have h3 := h.wt
  have h4 := k.wt
  refine ⟨by rw [PyData.canLayAll0, h.lay, k.lay]; rfl, by rw [PyData.depthAll]; omega, by rw [PyData.weightAll]; omega, by rw [PyData.intsShortAll, h.sh, k.sh]; rfl, by rw [PyData.showableAll, h.sw, k.sw]; rfl⟩
theorem Rps.tup (h : Rps m n ds) : Rp (m + 1) n (.tuple ds) := by
  have h1 := h.dep
  have h2 := h.wt
  exact ⟨by rw [PyData.canLay0]; exact h.lay, by rw [PyData.depth]; omega, by rw [PyData.weight]; exact h2, by rw [PyData.intsShort]; exact h.sh, by rw [PyData.showable]; exact h.sw⟩
theorem Rps.lst (h : Rps m n ds) : Rp (m + 1) n (.list ds) := by
  have h1 := h.dep
  have h2 := h.wt
  exact ⟨by rw [PyData.canLay0]; exact h.lay, by rw [PyData.depth]; omega, by rw [PyData.weight]; exact h2, by rw [PyData.intsShort]; exact h.sh, by rw [PyData.showable]; exact h.sw⟩
theorem Rps.map {α : Type} {f : α → D} : ∀ {l : List α}, (∀ x ∈ l, Rp m n (f x)) → Rps m (l.length * (n + 1)) (l.map f)
  | [], _ => Rps.nil
  | x :: l, h => by
    have h1 := Rps.cons (h x List.mem_cons_self) (Rps.map fun y hy => h y (List.mem_cons_of_mem _ hy))
    rw [List.map_cons, List.length_cons, Nat.succ_mul]
    exact h1.mono (Nat.le_refl _) (by omega)
theorem Rps.mem : ∀ {ds : List D}, (∀ x ∈ ds, Rp m n x) → Rps m (ds.length * (n + 1)) ds := fun h => by
  have := Rps.map (f := fun x => x) h
  rwa [List.map_id'] at this
theorem Rp.int {i : Int} (h : i.natAbs < 1000000) : Rp 0 21 (.int i) := by
  have e : i.natAbs < 10 ^ 12 := Nat.lt_trans h (by decide)
  have l : i.natAbs.log2 < 20 := by
    rcases Nat.eq_zero_or_pos i.natAbs with z | z
    · rw [z]; decide
    · exact (Nat.log2_lt (by omega)).mpr (by omega)
  refine ⟨rfl, by rw [PyData.depth]; omega, ?_, ?_, ?_⟩
  · rw [PyData.weight]
    split <;> omega
  · rw [PyData.intsShort]
    exact decide_eq_true (PyData.shown_int_le e)
  · rw [PyData.showable]
    exact decide_eq_true (by omega)
theorem Rp.bool (b : Bool) : Rp 0 0 (.bool b) := ⟨rfl, by rw [PyData.depth]; omega, by rw [PyData.weight]; omega, rfl, rfl⟩
theorem Rp.none : Rp 0 0 (.none : D) := ⟨rfl, by rw [PyData.depth]; omega, by rw [PyData.weight]; omega, rfl, rfl⟩
theorem Rp.str {x : Str} (h : PyData.strOk x = true) (hn : x.cps.size ≤ n) : Rp 0 n (.str x) := ⟨h, by rw [PyData.depth]; omega, by rw [PyData.weight]; exact hn, rfl, rfl⟩
theorem Rp.repr (h : Rp 60 1000000 d) : oB .repr [d] = some (.str d.shown) := by
  have h1 := h.dep
  have h2 := h.wt
  have ly : d.layable0 = true := by
    show (d.canLay0 && decide (d.depth ≤ 64) && decide (d.weight ≤ 2 ^ 20)) = true
    rw [h.lay, decide_eq_true (by omega), decide_eq_true (by omega)]
    rfl
  have sm : small d.shown.length = true := by
    unfold small
    rw [decide_eq_true_eq]
    exact PyData.shown_fits_of_layable0 (B := 13) (by decide) (by decide) ly h.sh
  have hd := PyData.hasDict_of_canLay d h.lay
  show (if d.showable && small d.shown.length && decide (d.depth ≤ 100) && !d.hasDict then some (PyData.str d.shown) else Option.none) = _
  rw [h.sw, sm, hd, decide_eq_true (by omega)]
  rfl
theorem pl2_str (x y : Str) : pl2 (.str x) (.str y) = true := by
  unfold pl2
  rw [PyData.plain, PyData.plain, PyData.depth, PyData.depth]
  rfl
theorem ne_same (x : Str) : oCmp .NotEq (.str x) (.str x) = some (.bool false) := by
  rw [cmp_neP (pl2_str x x)]
  simp [PyData.eqv]
/-- two that are written alike -/
theorem ne_repr {c : Cal} {A B : Ex} {env e1 e2 : Env} (ha : brw A (ev c A) env = .ok d e1) (hb : brw B (ev c B) e1 = .ok d e2) (hr : Rp 60 1000000 d) :
    ex1 c (.ite (.cmp .NotEq (.blt .repr A) (.blt .repr B)) [.ret (.cst (.bool false))] []) env = .nx e2 := by
  have h1 : ev c (.blt .repr A) env = .ok (false, .str d.shown) e1 := by
    rw [ev_blt, ha, b_ok, nw, hr.repr]
    rfl
  have h2 : ev c (.blt .repr B) e1 = .ok (false, .str d.shown) e2 := by
    rw [ev_blt, hb, b_ok, nw, hr.repr]
    rfl
  rw [st_ite, brw, va_cmp]
  dsimp only
  rw [ev_cmp, two, va_blt]
  dsimp only
  rw [h1, v_ok, b_ok, brw, va_blt]
  dsimp only
  rw [h2, v_ok, b_ok, b_ok, ne_same]
  simp [ol, Rs.of, v_ok, ou_ok, tru_b, st_nil]
end
end Rv
end
section
/-! The defs of the law's text, as the evaluator has them. Printed by gen.py. -/
namespace Rv.k08
open PySem Rv
def topS (i : Nat) : Stmt := PySem.Challenge.pw_mixahead_k08_remembering.main.body.getD i (.Pass ⟨0, 0, 0, 0⟩)
/-- nodes_of -/
def b_nodes_of : List Sm :=
  [.par [1, 2] [(.lst []), (.lst [(.tup [(.tup []), (.var 0)])])],
  .whl (.cmp .NotEq (.var 2) (.lst [])) [.unp (.t [(.v 3), (.v 4)]) (.pop 2),
    .app 1 (.tup [(.var 3), (.var 4)]),
    .ite (.cmp .NotEq (.var 4) (.tup [])) [.ext 2 (.rev (.comp [5, 6] (.t [(.v 5), (.v 6)]) .enum [(.idx (.var 4) (.neg (.cst (.int 1))))] (.tup [(.bin .Add (.var 3) (.tup [(.var 5)])), (.var 6)])))] []],
  .ret (.var 1)]
def d_nodes_of : De := ⟨"nodes_of", topS 2, ["tree", "found", "waiting", "path", "node", "at", "part"], ["tree"], ⟨1, 7, [], b_nodes_of⟩⟩
/-- own_nodes_of -/
def b_own_nodes_of : List Sm :=
  [.ret (.blt .tuple (.compIf [1, 2] (.t [(.v 1), (.v 2)]) .it [(.call 0 [(.var 0)])] (.band (.cmp .NotEq (.var 2) (.tup [])) (.cmp .Eq (.idx (.var 2) (.cst (.int 0))) (.glob "OWN" (.str "own")))) (.var 1)))]
def d_own_nodes_of : De := ⟨"own_nodes_of", topS 3, ["tree", "path", "node"], ["tree"], ⟨1, 3, [], b_own_nodes_of⟩⟩
/-- node_at -/
def b_node_at : List Sm :=
  [.set 2 (.var 0),
  .for_ (.v 3) .it [(.var 1)] [.set 2 (.idx (.idx (.var 2) (.neg (.cst (.int 1)))) (.var 3))],
  .ret (.var 2)]
def d_node_at : De := ⟨"node_at", topS 4, ["tree", "path", "node", "index"], ["tree", "path"], ⟨2, 4, [], b_node_at⟩⟩
/-- room_at -/
def b_room_at : List Sm :=
  [.set 2 (.call 2 [(.var 0), (.var 1)]),
  .ret (.ite (.band (.cmp .NotEq (.var 2) (.tup [])) (.cmp .Eq (.idx (.var 2) (.cst (.int 0))) (.glob "OWN" (.str "own")))) (.idx (.var 2) (.cst (.int 1))) (.cst .none))]
def d_room_at : De := ⟨"room_at", topS 5, ["tree", "path", "node"], ["tree", "path"], ⟨2, 3, [], b_room_at⟩⟩
/-- rooms_of -/
def b_rooms_of : List Sm :=
  [.ret (.blt .tuple (.blt .sortedSet (.comp [1] (.v 1) .it [(.call 1 [(.var 0)])] (.call 3 [(.var 0), (.var 1)]))))]
def d_rooms_of : De := ⟨"rooms_of", topS 6, ["tree", "path"], ["tree"], ⟨1, 2, [], b_rooms_of⟩⟩
/-- own_history -/
def b_own_history : List Sm :=
  [.set 2 (.lst []),
  .for_ (.t [(.v 3), (.v 4)]) .enum [(.var 1)] [.set 5 (.call 3 [(.var 0), (.slc (.var 1) [] [(.var 3)])]),
    .ite (.cmp .IsNot (.var 5) (.cst .none)) [.app 2 (.tup [(.var 5), (.var 4)])] []],
  .ret (.blt .tuple (.var 2))]
def d_own_history : De := ⟨"own_history", topS 7, ["tree", "path", "found", "at", "index", "room"], ["tree", "path"], ⟨2, 6, [], b_own_history⟩⟩
/-- histories_in -/
def b_histories_in : List Sm :=
  [.ret (.blt .sortedSet (.compIf [2] (.v 2) .it [(.call 1 [(.var 0)])] (.cmp .Eq (.call 3 [(.var 0), (.var 2)]) (.var 1)) (.call 5 [(.var 0), (.var 2)])))]
def d_histories_in : De := ⟨"histories_in", topS 9, ["tree", "room", "path"], ["tree", "room"], ⟨2, 3, [], b_histories_in⟩⟩
/-- first_forgetting -/
def b_first_forgetting : List Sm :=
  [.for_ (.v 1) .it [(.call 4 [(.var 0)])] [.ite (.cmp .Gt (.blt .len (.call 6 [(.var 0), (.var 1)])) (.cst (.int 1))) [.ret (.var 1)] []],
  .ret (.cst .none)]
def d_first_forgetting : De := ⟨"first_forgetting", topS 10, ["tree", "room"], ["tree"], ⟨1, 2, [], b_first_forgetting⟩⟩
/-- does_remember -/
def b_does_remember : List Sm :=
  [.ret (.cmp .Is (.call 7 [(.var 0)]) (.cst .none))]
def d_does_remember : De := ⟨"does_remember", topS 11, ["tree"], ["tree"], ⟨1, 1, [], b_does_remember⟩⟩
/-- histories_of -/
def b_histories_of : List Sm :=
  [.ite (.not (.call 8 [(.var 0)])) [.ret (.cst .none)] [],
  .ret (.blt .tuple (.comp [1] (.v 1) .it [(.call 4 [(.var 0)])] (.idx (.call 6 [(.var 0), (.var 1)]) (.cst (.int 0)))))]
def d_histories_of : De := ⟨"histories_of", topS 12, ["tree", "room"], ["tree"], ⟨1, 2, [], b_histories_of⟩⟩
/-- forgetting_pair -/
def b_forgetting_pair : List Sm :=
  [.set 1 (.call 7 [(.var 0)]),
  .ite (.cmp .Is (.var 1) (.cst .none)) [.ret (.cst .none)] [],
  .set 2 (.compIf [4] (.v 4) .it [(.call 1 [(.var 0)])] (.cmp .Eq (.call 3 [(.var 0), (.var 4)]) (.var 1)) (.var 4)),
  .set 3 (.compIf [4] (.v 4) .it [(.var 2)] (.cmp .NotEq (.call 5 [(.var 0), (.var 4)]) (.call 5 [(.var 0), (.idx (.var 2) (.cst (.int 0)))])) (.var 4)),
  .ret (.tup [(.idx (.var 2) (.cst (.int 0))), (.idx (.var 3) (.cst (.int 0)))])]
def d_forgetting_pair : De := ⟨"forgetting_pair", topS 13, ["tree", "room", "paths", "others", "path"], ["tree"], ⟨1, 5, [], b_forgetting_pair⟩⟩
/-- _law_pen -/
def b__law_pen : List Sm :=
  [.ret (.lst [(.blt .list (.slc (.var 0) [] [(.cst (.int 63))])), (.cst (.int 0)), (.cst (.int 0))])]
def d__law_pen : De := ⟨"_law_pen", topS 15, ["script"], ["script"], ⟨1, 1, [], b__law_pen⟩⟩
/-- _law_fresh -/
def b__law_fresh : List Sm :=
  [.par [6, 7] [(.idx (.var 0) (.cst (.int 1))), (.idx (.var 0) (.cst (.int 0)))],
  .put 0 (.cst (.int 1)) (.bin .Add (.var 6) (.cst (.int 1))),
  .set 1 (.ite (.cmp .NotEq (.var 7) (.lst [])) (.idx (.var 7) (.bin .Mod (.blt .int (.var 6)) (.blt .len (.var 7)))) (.cst (.int 0))),
  .ite (.band (.cmp .Lt (.var 6) (.blt .len (.var 7))) (.cmp .GtE (.var 1) (.bin .Pow (.cst (.int 10)) (.cst (.int 18))))) [.ret (.bin .Sub (.var 1) (.bin .Pow (.cst (.int 10)) (.cst (.int 18))))] [],
  .set 2 (.cst (.int 2305843009213693951)),
  .set 3 (.bin .Mod (.blt .int (.bin .Add (.bin .Add (.bin .Mult (.var 1) (.cst (.int 48271))) (.bin .Mult (.cst (.int 60013)) (.var 6))) (.cst (.int 31)))) (.var 2)),
  .set 4 (.var 3),
  .for_ (.v 5) .rng1 [(.cst (.int 6))] [.set 3 (.bin .Mod (.blt .int (.bin .Add (.bin .Add (.bin .Mult (.var 3) (.var 3)) (.bin .Mult (.bin .Mult (.cst (.int 70139)) (.bin .Add (.var 5) (.cst (.int 5)))) (.bin .Add (.var 6) (.cst (.int 1))))) (.var 1))) (.var 2)),
    .set 4 (.bin .Add (.bin .Mult (.var 4) (.var 2)) (.var 3))],
  .ret (.var 4)]
def d__law_fresh : De := ⟨"_law_fresh", topS 16, ["pen", "cell", "prime", "state", "found", "lap", "seat", "given"], ["pen"], ⟨1, 8, [true], b__law_fresh⟩⟩
/-- _law_draw -/
def b__law_draw : List Sm :=
  [.ite (.cmp .Lt (.idx (.var 0) (.cst (.int 2))) (.var 1)) [.put 0 (.cst (.int 2)) (.call 12 [(.var 0)])] [],
  .set 2 (.bin .Mod (.blt .int (.idx (.var 0) (.cst (.int 2)))) (.var 1)),
  .put 0 (.cst (.int 2)) (.bin .FloorDiv (.blt .int (.idx (.var 0) (.cst (.int 2)))) (.var 1)),
  .ret (.var 2)]
def d__law_draw : De := ⟨"_law_draw", topS 17, ["pen", "bound", "digit"], ["pen", "bound"], ⟨2, 3, [true], b__law_draw⟩⟩
/-- _law_one_of -/
def b__law_one_of : List Sm :=
  [.ret (.idx (.var 1) (.call 13 [(.var 0), (.blt .len (.var 1))]))]
def d__law_one_of : De := ⟨"_law_one_of", topS 18, ["pen", "some"], ["pen", "some"], ⟨2, 2, [true], b__law_one_of⟩⟩
/-- _law_whole -/
def b__law_whole : List Sm :=
  [.ret (.band (.isi (.var 0) .int) (.band (.not (.isi (.var 0) .bool)) (.chn (.var 1) (.var 0) (.var 2) .LtE .LtE)))]
def d__law_whole : De := ⟨"_law_whole", topS 19, ["value", "low", "high"], ["value", "low", "high"], ⟨3, 3, [], b__law_whole⟩⟩
/-- _law_is_marked -/
def b__law_is_marked : List Sm :=
  [.ret (.band (.isi (.var 0) .tuple) (.band (.cmp .Eq (.blt .len (.var 0)) (.var 2)) (.band (.isi (.idx (.var 0) (.cst (.int 0))) .str) (.cmp .Eq (.idx (.var 0) (.cst (.int 0))) (.var 1)))))]
def d__law_is_marked : De := ⟨"_law_is_marked", topS 20, ["value", "word", "many"], ["value", "word", "many"], ⟨3, 3, [], b__law_is_marked⟩⟩
/-- _law_is_tuple -/
def b__law_is_tuple : List Sm :=
  [.ret (.band (.isi (.var 0) .tuple) (.cmp .Eq (.blt .len (.var 0)) (.var 1)))]
def d__law_is_tuple : De := ⟨"_law_is_tuple", topS 21, ["value", "many"], ["value", "many"], ⟨2, 2, [], b__law_is_tuple⟩⟩
/-- _law_is_node -/
def b__law_is_node : List Sm :=
  [.ite (.call 16 [(.var 0), (.cst (.str "own")), (.cst (.int 3))]) [.ret (.band (.call 15 [(.idx (.var 0) (.cst (.int 1))), (.cst (.int 0)), (.cst (.int 9))]) (.band (.isi (.idx (.var 0) (.cst (.int 2))) .tuple) (.chn (.cst (.int 2)) (.blt .len (.idx (.var 0) (.cst (.int 2)))) (.cst (.int 4)) .LtE .LtE)))] [],
  .ite (.call 16 [(.var 0), (.cst (.str "theirs")), (.cst (.int 2))]) [.ret (.band (.isi (.idx (.var 0) (.cst (.int 1))) .tuple) (.chn (.cst (.int 2)) (.blt .len (.idx (.var 0) (.cst (.int 1)))) (.cst (.int 4)) .LtE .LtE))] [],
  .ret (.call 17 [(.var 0), (.cst (.int 0))])]
def d__law_is_node : De := ⟨"_law_is_node", topS 22, ["value"], ["value"], ⟨1, 1, [], b__law_is_node⟩⟩
/-- _law_nodes -/
def b__law_nodes : List Sm :=
  [.par [1, 2] [(.lst []), (.lst [(.tup [(.tup []), (.var 0)])])],
  .whl (.cmp .NotEq (.var 2) (.lst [])) [.unp (.t [(.v 3), (.v 4)]) (.pop 2),
    .app 1 (.tup [(.var 3), (.var 4)]),
    .ite (.band (.call 18 [(.var 4)]) (.cmp .NotEq (.var 4) (.tup []))) [.ext 2 (.rev (.comp [5, 6] (.t [(.v 5), (.v 6)]) .enum [(.idx (.var 4) (.neg (.cst (.int 1))))] (.tup [(.bin .Add (.var 3) (.tup [(.var 5)])), (.var 6)])))] []],
  .ret (.var 1)]
def d__law_nodes : De := ⟨"_law_nodes", topS 23, ["value", "found", "waiting", "path", "node", "at", "part"], ["value"], ⟨1, 7, [], b__law_nodes⟩⟩
/-- _law_ends -/
def b__law_ends : List Sm :=
  [.ret (.compIf [1, 2] (.t [(.v 1), (.v 2)]) .it [(.call 19 [(.var 0)])] (.cmp .Eq (.var 2) (.tup [])) (.var 1))]
def d__law_ends : De := ⟨"_law_ends", topS 24, ["tree", "path", "node"], ["tree"], ⟨1, 3, [], b__law_ends⟩⟩
/-- _law_owns -/
def b__law_owns : List Sm :=
  [.ret (.compIf [1, 2] (.t [(.v 1), (.v 2)]) .it [(.call 19 [(.var 0)])] (.band (.cmp .NotEq (.var 2) (.tup [])) (.cmp .Eq (.idx (.var 2) (.cst (.int 0))) (.cst (.str "own")))) (.tup [(.var 1), (.idx (.var 2) (.cst (.int 1)))]))]
def d__law_owns : De := ⟨"_law_owns", topS 25, ["tree", "path", "node"], ["tree"], ⟨1, 3, [], b__law_owns⟩⟩
/-- _law_history -/
def b__law_history : List Sm :=
  [.par [3, 4] [(.lst []), (.var 0)],
  .for_ (.v 2) .it [(.var 1)] [.ite (.cmp .Eq (.idx (.var 4) (.cst (.int 0))) (.cst (.str "own"))) [.app 3 (.tup [(.idx (.var 4) (.cst (.int 1))), (.var 2)])] [],
    .set 4 (.idx (.idx (.var 4) (.neg (.cst (.int 1)))) (.var 2))],
  .ret (.blt .tuple (.var 3))]
def d__law_history : De := ⟨"_law_history", topS 26, ["tree", "path", "index", "found", "node"], ["tree", "path"], ⟨2, 5, [], b__law_history⟩⟩
/-- _law_histories -/
def b__law_histories : List Sm :=
  [.set 1 .dic,
  .for_ (.t [(.v 2), (.v 3)]) .it [(.call 21 [(.var 0)])] [.put 1 (.var 3) (.bin .Add (.get2 (.var 1) (.var 3) (.lst [])) (.lst [(.call 22 [(.var 0), (.var 2)])]))],
  .ret (.var 1)]
def d__law_histories : De := ⟨"_law_histories", topS 27, ["tree", "found", "path", "room"], ["tree"], ⟨1, 4, [], b__law_histories⟩⟩
/-- _law_forgotten -/
def b__law_forgotten : List Sm :=
  [.set 1 (.call 23 [(.var 0)]),
  .ret (.compIf [2] (.v 2) .it [(.blt .sorted (.var 1))] (.cmp .Gt (.blt .lenSet (.idx (.var 1) (.var 2))) (.cst (.int 1))) (.var 2))]
def d__law_forgotten : De := ⟨"_law_forgotten", topS 28, ["tree", "histories", "room"], ["tree"], ⟨1, 3, [], b__law_forgotten⟩⟩
/-- _law_new_tree -/
def b__law_new_tree : List Sm :=
  [.ite (.bor (.cmp .Eq (.var 1) (.cst (.int 0))) (.bor (.cmp .Lt (.var 3) (.cst (.int 2))) (.cmp .Eq (.call 13 [(.var 0), (.cst (.int 4))]) (.cst (.int 0))))) [.ret (.tup [])] [],
  .par [6, 7] [(.call 14 [(.var 0), (.lst [(.cst (.int 0)), (.cst (.int 1)), (.cst (.int 2)), (.cst (.int 9))])]), (.call 13 [(.var 0), (.cst (.int 3))])],
  .set 4 (.call 14 [(.var 0), (.lst [(.cst (.int 2)), (.cst (.int 2)), (.cst (.int 2)), (.cst (.int 3)), (.cst (.int 4))])]),
  .set 4 (.ite (.cmp .Gt (.var 7) (.cst (.int 0))) (.get2 (.var 2) (.var 6) (.var 4)) (.var 4)),
  .ite (.cmp .Gt (.var 4) (.var 3)) [.ret (.tup [])] [],
  .par [8, 9] [(.lst []), (.var 3)],
  .for_ (.v 5) .rng1 [(.var 4)] [.set 10 (.blt2 .max (.cst (.int 1)) (.bin .FloorDiv (.var 9) (.bin .Sub (.var 4) (.var 5)))),
    .ite (.cmp .Eq (.call 13 [(.var 0), (.cst (.int 2))]) (.cst (.int 0))) [.set 10 (.blt2 .max (.cst (.int 1)) (.bin .Sub (.var 9) (.bin .Sub (.bin .Sub (.var 4) (.var 5)) (.cst (.int 1)))))] [],
    .ite (.cmp .Gt (.var 7) (.cst (.int 0))) [.put 2 (.var 6) (.var 4)] [],
    .set 11 (.call 25 [(.var 0), (.bin .Sub (.var 1) (.cst (.int 1))), (.var 2), (.var 10)]),
    .set 9 (.bin .Sub (.var 9) (.blt .len (.call 20 [(.var 11)]))),
    .app 8 (.var 11)],
  .ret (.ite (.cmp .Gt (.var 7) (.cst (.int 0))) (.tup [(.cst (.str "own")), (.var 6), (.blt .tuple (.var 8))]) (.tup [(.cst (.str "theirs")), (.blt .tuple (.var 8))]))]
def d__law_new_tree : De := ⟨"_law_new_tree", topS 29, ["pen", "depth", "widths", "ends", "many", "at", "room", "option", "parts", "left", "share", "part"], ["pen", "depth", "widths", "ends"], ⟨4, 12, [true, false, true], b__law_new_tree⟩⟩
/-- _law_known_tree -/
def b__law_known_tree : List Sm :=
  [.set 1 (.comp [3] (.v 3) .rng1 [(.cst (.int 4))] (.tup [(.cst (.str "own")), (.var 3), (.tup [(.tup []), (.tup [])])])),
  .set 2 (.lst [(.tup []), (.idx (.var 1) (.cst (.int 0))), (.tup [(.cst (.str "theirs")), (.tup [(.idx (.var 1) (.cst (.int 0))), (.idx (.var 1) (.cst (.int 0)))])]), (.tup [(.cst (.str "theirs")), (.tup [(.idx (.var 1) (.cst (.int 0))), (.idx (.var 1) (.cst (.int 1)))])])]),
  .set 2 (.bin .Add (.var 2) (.lst [(.tup [(.cst (.str "own")), (.cst (.int 0)), (.tup [(.idx (.var 1) (.cst (.int 1))), (.idx (.var 1) (.cst (.int 1)))])]), (.tup [(.cst (.str "own")), (.cst (.int 0)), (.tup [(.idx (.var 1) (.cst (.int 0))), (.tup [])])]), (.tup [(.cst (.str "own")), (.cst (.int 0)), (.tup [(.idx (.var 1) (.cst (.int 1))), (.idx (.var 1) (.cst (.int 2)))])])])),
  .app 2 (.tup [(.cst (.str "own")), (.cst (.int 0)), (.tup [(.tup [(.cst (.str "theirs")), (.tup [(.idx (.var 1) (.cst (.int 1))), (.idx (.var 1) (.cst (.int 2)))])]), (.tup [(.cst (.str "theirs")), (.tup [(.idx (.var 1) (.cst (.int 3))), (.idx (.var 1) (.cst (.int 1)))])])])]),
  .app 2 (.tup [(.cst (.str "own")), (.cst (.int 3)), (.tup [(.idx (.var 1) (.cst (.int 3))), (.idx (.var 1) (.cst (.int 3)))])]),
  .app 2 (.tup [(.cst (.str "theirs")), (.tup [(.tup [(.cst (.str "own")), (.cst (.int 0)), (.tup [(.idx (.var 1) (.cst (.int 1))), (.tup [])])]), (.tup [(.cst (.str "own")), (.cst (.int 1)), (.tup [(.idx (.var 1) (.cst (.int 0))), (.tup [])])])])]),
  .app 2 (.tup [(.cst (.str "own")), (.cst (.int 0)), (.tup [(.idx (.var 1) (.cst (.int 1))), (.tup [(.cst (.str "theirs")), (.tup [(.idx (.var 1) (.cst (.int 1))), (.tup [])])])])]),
  .ret (.call 14 [(.var 0), (.var 2)])]
def d__law_known_tree : De := ⟨"_law_known_tree", topS 30, ["pen", "two", "some", "room"], ["pen"], ⟨1, 4, [true], b__law_known_tree⟩⟩
/-- _law_tree -/
def b__law_tree : List Sm :=
  [.ite (.cmp .Eq (.call 13 [(.var 0), (.cst (.int 3))]) (.cst (.int 0))) [.ret (.call 26 [(.var 0)])] [],
  .set 1 (.call 25 [(.var 0), (.call 14 [(.var 0), (.lst [(.cst (.int 2)), (.cst (.int 3)), (.cst (.int 4)), (.cst (.int 8))])]), .dic, (.call 14 [(.var 0), (.lst [(.cst (.int 4)), (.cst (.int 6)), (.cst (.int 8)), (.cst (.int 12))])])]),
  .ret (.ite (.cmp .Gt (.call 13 [(.var 0), (.cst (.int 4))]) (.cst (.int 0))) (.var 1) (.call 28 [(.var 1), (.call 33 [(.var 1)])]))]
def d__law_tree : De := ⟨"_law_tree", topS 31, ["pen", "tree"], ["pen"], ⟨1, 2, [true], b__law_tree⟩⟩
/-- _law_noted -/
def b__law_noted : List Sm :=
  [.ite (.cmp .NotEq (.compIf [3] (.v 3) .it [(.var 1)] (.cmp .Gt (.var 3) (.cst (.int 9))) (.var 3)) (.lst [])) [.ret (.var 0)] [],
  .set 2 (.blt .dict (.comp [4, 5, 6] (.t [(.v 4), (.t [(.v 5), (.v 6)])]) .enum [(.call 21 [(.var 0)])] (.tup [(.var 5), (.idx (.var 1) (.var 4))]))),
  .ret (.call 29 [(.var 0), (.var 2), (.tup [])])]
def d__law_noted : De := ⟨"_law_noted", topS 32, ["tree", "notes", "told", "note", "at", "path", "room"], ["tree", "notes"], ⟨2, 7, [], b__law_noted⟩⟩
/-- _law_noted_by -/
def b__law_noted_by : List Sm :=
  [.ite (.cmp .Eq (.var 0) (.tup [])) [.ret (.var 0)] [],
  .set 3 (.blt .tuple (.comp [4, 5] (.t [(.v 4), (.v 5)]) .enum [(.idx (.var 0) (.neg (.cst (.int 1))))] (.call 29 [(.var 5), (.var 1), (.bin .Add (.var 2) (.tup [(.var 4)]))]))),
  .ret (.ite (.cmp .Eq (.idx (.var 0) (.cst (.int 0))) (.cst (.str "own"))) (.tup [(.cst (.str "own")), (.idx (.var 1) (.var 2)), (.var 3)]) (.tup [(.cst (.str "theirs")), (.var 3)]))]
def d__law_noted_by : De := ⟨"_law_noted_by", topS 33, ["tree", "told", "path", "parts", "at", "part"], ["tree", "told", "path"], ⟨3, 6, [], b__law_noted_by⟩⟩
/-- _law_is_own_path -/
def b__law_is_own_path : List Sm :=
  [.ret (.band (.call 31 [(.var 0), (.var 1)]) (.cmp .In (.var 1) (.comp [2, 3] (.t [(.v 2), (.v 3)]) .it [(.call 21 [(.var 0)])] (.var 2))))]
def d__law_is_own_path : De := ⟨"_law_is_own_path", topS 34, ["tree", "value", "path", "room"], ["tree", "value"], ⟨2, 4, [], b__law_is_own_path⟩⟩
/-- _law_is_path -/
def b__law_is_path : List Sm :=
  [.ite (.bor (.not (.isi (.var 1) .tuple)) (.cmp .NotEq (.compIf [2] (.v 2) .it [(.var 1)] (.not (.call 15 [(.var 2), (.cst (.int 0)), (.cst (.int 3))])) (.cst (.int 1))) (.lst []))) [.ret (.cst (.bool false))] [],
  .ret (.cmp .In (.var 1) (.comp [3, 4] (.t [(.v 3), (.v 4)]) .it [(.call 19 [(.var 0)])] (.var 3)))]
def d__law_is_path : De := ⟨"_law_is_path", topS 35, ["tree", "value", "index", "path", "node"], ["tree", "value"], ⟨2, 5, [], b__law_is_path⟩⟩
/-- _law_numbered -/
def b__law_numbered : List Sm :=
  [.set 1 (.lst []),
  .for_ (.v 2) .it [(.var 0)] [.set 1 (.bin .Add (.var 1) (.ite (.cmp .In (.var 2) (.var 1)) (.lst []) (.lst [(.var 2)])))],
  .ret (.blt .tuple (.comp [2] (.v 2) .it [(.var 0)] (.index (.var 1) (.var 2))))]
def d__law_numbered : De := ⟨"_law_numbered", topS 36, ["keys", "known", "key"], ["keys"], ⟨1, 3, [], b__law_numbered⟩⟩
/-- _law_least_splitting -/
def b__law_least_splitting : List Sm :=
  [.set 1 (.lst []),
  .for_ (.t [(.v 2), (.v 3)]) .it [(.call 21 [(.var 0)])] [.app 1 (.tup [(.var 3), (.call 22 [(.var 0), (.var 2)])])],
  .ret (.call 32 [(.var 1)])]
def d__law_least_splitting : De := ⟨"_law_least_splitting", topS 37, ["tree", "keys", "path", "room"], ["tree"], ⟨1, 4, [], b__law_least_splitting⟩⟩
/-- _law_wide_tree -/
def b__law_wide_tree : List Sm :=
  [.set 1 (.lst []),
  .for_ (.v 2) .rng1 [(.cst (.int 4))] [.set 3 (.tup []),
    .for_ (.v 4) .rng1 [(.cst (.int 6))] [.set 5 (.call 13 [(.var 0), (.cst (.int 10))]),
      .set 3 (.ite (.cmp .Eq (.call 13 [(.var 0), (.cst (.int 2))]) (.cst (.int 0))) (.tup [(.cst (.str "own")), (.var 5), (.tup [(.var 3), (.tup [])])]) (.tup [(.cst (.str "own")), (.var 5), (.tup [(.tup []), (.var 3)])]))],
    .app 1 (.var 3)],
  .ret (.tup [(.cst (.str "theirs")), (.blt .tuple (.var 1))])]
def d__law_wide_tree : De := ⟨"_law_wide_tree", topS 38, ["pen", "rows", "lap", "tree", "step", "room"], ["pen"], ⟨1, 6, [true], b__law_wide_tree⟩⟩
/-- _law_pair_right -/
def b__law_pair_right : List Sm :=
  [.ite (.bor (.cmp .Eq (.var 1) (.lst [])) (.not (.call 17 [(.var 2), (.cst (.int 2))]))) [.ret (.band (.cmp .Eq (.var 1) (.lst [])) (.cmp .Is (.var 2) (.cst .none)))] [],
  .ite (.bor (.not (.call 30 [(.var 0), (.idx (.var 2) (.cst (.int 0)))])) (.not (.call 30 [(.var 0), (.idx (.var 2) (.cst (.int 1)))]))) [.ret (.cst (.bool false))] [],
  .set 3 (.blt .dict (.call 21 [(.var 0)])),
  .ite (.cmp .NotEq (.idx (.var 3) (.idx (.var 2) (.cst (.int 0)))) (.idx (.var 3) (.idx (.var 2) (.cst (.int 1))))) [.ret (.cst (.bool false))] [],
  .ret (.cmp .NotEq (.call 22 [(.var 0), (.idx (.var 2) (.cst (.int 0)))]) (.call 22 [(.var 0), (.idx (.var 2) (.cst (.int 1)))]))]
def d__law_pair_right : De := ⟨"_law_pair_right", topS 39, ["tree", "rooms", "pair", "told"], ["tree", "rooms", "pair"], ⟨3, 4, [], b__law_pair_right⟩⟩
/-- law -/
def b_law : List Sm :=
  [.set 1 (.call 11 [(.var 0)]),
  .for_ (.v 2) .rng1 [(.blt2 .max (.cst (.int 3)) (.blt2 .min (.cst (.int 8)) (.blt .len (.var 0))))] [.set 3 (.ite (.cmp .Gt (.call 13 [(.var 1), (.cst (.int 5))]) (.cst (.int 0))) (.call 27 [(.var 1)]) (.call 34 [(.var 1)])),
    .set 4 (.call 28 [(.var 3), (.call 33 [(.var 3)])]),
    .for_ (.v 5) .it [(.tup [(.var 3), (.var 4)])] [.par [8, 9] [(.blt .repr (.var 5)), (.call 24 [(.var 5)])],
      .set 6 (.call 23 [(.var 5)]),
      .ite (.cmp .NotEq (.blt .repr (.call 8 [(.var 5)])) (.blt .repr (.cmp .Eq (.var 9) (.lst [])))) [.ret (.cst (.bool false))] [],
      .ite (.cmp .NotEq (.blt .repr (.call 7 [(.var 5)])) (.blt .repr (.idx (.bin .Add (.var 9) (.lst [(.cst .none)])) (.cst (.int 0))))) [.ret (.cst (.bool false))] [],
      .set 7 (.blt .tuple (.comp [10] (.v 10) .it [(.blt .sorted (.var 6))] (.idx (.idx (.var 6) (.var 10)) (.cst (.int 0))))),
      .set 7 (.ite (.cmp .Eq (.var 9) (.lst [])) (.var 7) (.cst .none)),
      .ite (.cmp .NotEq (.blt .repr (.call 9 [(.var 5)])) (.blt .repr (.var 7))) [.ret (.cst (.bool false))] [],
      .ite (.not (.call 35 [(.var 5), (.var 9), (.call 10 [(.var 5)])])) [.ret (.cst (.bool false))] [],
      .ite (.cmp .NotEq (.blt .repr (.var 5)) (.var 8)) [.ret (.cst (.bool false))] []]],
  .ret (.cst (.bool true))]
def d_law : De := ⟨"law", topS 40, ["script", "pen", "turn", "tree", "noted", "one", "histories", "due", "before", "rooms", "room"], ["script"], ⟨1, 11, [], b_law⟩⟩
def txt : Txt where
  fns := [(("nodes_of" : Str), 0), (("own_nodes_of" : Str), 1), (("node_at" : Str), 2), (("room_at" : Str), 3), (("rooms_of" : Str), 4), (("own_history" : Str), 5), (("histories_in" : Str), 6), (("first_forgetting" : Str), 7), (("does_remember" : Str), 8), (("histories_of" : Str), 9), (("forgetting_pair" : Str), 10), (("_law_pen" : Str), 11), (("_law_fresh" : Str), 12), (("_law_draw" : Str), 13), (("_law_one_of" : Str), 14), (("_law_whole" : Str), 15), (("_law_is_marked" : Str), 16), (("_law_is_tuple" : Str), 17), (("_law_is_node" : Str), 18), (("_law_nodes" : Str), 19), (("_law_ends" : Str), 20), (("_law_owns" : Str), 21), (("_law_history" : Str), 22), (("_law_histories" : Str), 23), (("_law_forgotten" : Str), 24), (("_law_new_tree" : Str), 25), (("_law_known_tree" : Str), 26), (("_law_tree" : Str), 27), (("_law_noted" : Str), 28), (("_law_noted_by" : Str), 29), (("_law_is_own_path" : Str), 30), (("_law_is_path" : Str), 31), (("_law_numbered" : Str), 32), (("_law_least_splitting" : Str), 33), (("_law_wide_tree" : Str), 34), (("_law_pair_right" : Str), 35), (("law" : Str), 36)]
  csts := [(("OWN" : Str), (.str "own"))]
  none := [("bool" : Str), ("dict" : Str), ("enumerate" : Str), ("int" : Str), ("isinstance" : Str), ("len" : Str), ("list" : Str), ("max" : Str), ("min" : Str), ("range" : Str), ("repr" : Str), ("set" : Str), ("sorted" : Str), ("str" : Str), ("tuple" : Str)]
def all : List De := [d_nodes_of, d_own_nodes_of, d_node_at, d_room_at, d_rooms_of, d_own_history, d_histories_in, d_first_forgetting, d_does_remember, d_histories_of, d_forgetting_pair, d__law_pen, d__law_fresh, d__law_draw, d__law_one_of, d__law_whole, d__law_is_marked, d__law_is_tuple, d__law_is_node, d__law_nodes, d__law_ends, d__law_owns, d__law_history, d__law_histories, d__law_forgotten, d__law_new_tree, d__law_known_tree, d__law_tree, d__law_noted, d__law_noted_by, d__law_is_own_path, d__law_is_path, d__law_numbered, d__law_least_splitting, d__law_wide_tree, d__law_pair_right, d_law]
theorem ok_nodes_of : d_nodes_of.Ok txt := ⟨⟨rfl, rfl, rfl, by decide +kernel, rfl, by decide +kernel, by decide +kernel⟩, rfl, rfl, 200, by decide +kernel⟩
theorem ok_own_nodes_of : d_own_nodes_of.Ok txt := ⟨⟨rfl, rfl, rfl, by decide +kernel, rfl, by decide +kernel, by decide +kernel⟩, rfl, rfl, 200, by decide +kernel⟩
theorem ok_node_at : d_node_at.Ok txt := ⟨⟨rfl, rfl, rfl, by decide +kernel, rfl, by decide +kernel, by decide +kernel⟩, rfl, rfl, 200, by decide +kernel⟩
theorem ok_room_at : d_room_at.Ok txt := ⟨⟨rfl, rfl, rfl, by decide +kernel, rfl, by decide +kernel, by decide +kernel⟩, rfl, rfl, 200, by decide +kernel⟩
theorem ok_rooms_of : d_rooms_of.Ok txt := ⟨⟨rfl, rfl, rfl, by decide +kernel, rfl, by decide +kernel, by decide +kernel⟩, rfl, rfl, 200, by decide +kernel⟩
theorem ok_own_history : d_own_history.Ok txt := ⟨⟨rfl, rfl, rfl, by decide +kernel, rfl, by decide +kernel, by decide +kernel⟩, rfl, rfl, 200, by decide +kernel⟩
theorem ok_histories_in : d_histories_in.Ok txt := ⟨⟨rfl, rfl, rfl, by decide +kernel, rfl, by decide +kernel, by decide +kernel⟩, rfl, rfl, 200, by decide +kernel⟩
theorem ok_first_forgetting : d_first_forgetting.Ok txt := ⟨⟨rfl, rfl, rfl, by decide +kernel, rfl, by decide +kernel, by decide +kernel⟩, rfl, rfl, 200, by decide +kernel⟩
theorem ok_does_remember : d_does_remember.Ok txt := ⟨⟨rfl, rfl, rfl, by decide +kernel, rfl, by decide +kernel, by decide +kernel⟩, rfl, rfl, 200, by decide +kernel⟩
theorem ok_histories_of : d_histories_of.Ok txt := ⟨⟨rfl, rfl, rfl, by decide +kernel, rfl, by decide +kernel, by decide +kernel⟩, rfl, rfl, 200, by decide +kernel⟩
theorem ok_forgetting_pair : d_forgetting_pair.Ok txt := ⟨⟨rfl, rfl, rfl, by decide +kernel, rfl, by decide +kernel, by decide +kernel⟩, rfl, rfl, 200, by decide +kernel⟩
theorem ok__law_pen : d__law_pen.Ok txt := ⟨⟨rfl, rfl, rfl, by decide +kernel, rfl, by decide +kernel, by decide +kernel⟩, rfl, rfl, 200, by decide +kernel⟩
theorem ok__law_fresh : d__law_fresh.Ok txt := ⟨⟨rfl, rfl, rfl, by decide +kernel, rfl, by decide +kernel, by decide +kernel⟩, rfl, rfl, 200, by decide +kernel⟩
theorem ok__law_draw : d__law_draw.Ok txt := ⟨⟨rfl, rfl, rfl, by decide +kernel, rfl, by decide +kernel, by decide +kernel⟩, rfl, rfl, 200, by decide +kernel⟩
theorem ok__law_one_of : d__law_one_of.Ok txt := ⟨⟨rfl, rfl, rfl, by decide +kernel, rfl, by decide +kernel, by decide +kernel⟩, rfl, rfl, 200, by decide +kernel⟩
theorem ok__law_whole : d__law_whole.Ok txt := ⟨⟨rfl, rfl, rfl, by decide +kernel, rfl, by decide +kernel, by decide +kernel⟩, rfl, rfl, 200, by decide +kernel⟩
theorem ok__law_is_marked : d__law_is_marked.Ok txt := ⟨⟨rfl, rfl, rfl, by decide +kernel, rfl, by decide +kernel, by decide +kernel⟩, rfl, rfl, 200, by decide +kernel⟩
theorem ok__law_is_tuple : d__law_is_tuple.Ok txt := ⟨⟨rfl, rfl, rfl, by decide +kernel, rfl, by decide +kernel, by decide +kernel⟩, rfl, rfl, 200, by decide +kernel⟩
theorem ok__law_is_node : d__law_is_node.Ok txt := ⟨⟨rfl, rfl, rfl, by decide +kernel, rfl, by decide +kernel, by decide +kernel⟩, rfl, rfl, 200, by decide +kernel⟩
theorem ok__law_nodes : d__law_nodes.Ok txt := ⟨⟨rfl, rfl, rfl, by decide +kernel, rfl, by decide +kernel, by decide +kernel⟩, rfl, rfl, 200, by decide +kernel⟩
theorem ok__law_ends : d__law_ends.Ok txt := ⟨⟨rfl, rfl, rfl, by decide +kernel, rfl, by decide +kernel, by decide +kernel⟩, rfl, rfl, 200, by decide +kernel⟩
theorem ok__law_owns : d__law_owns.Ok txt := ⟨⟨rfl, rfl, rfl, by decide +kernel, rfl, by decide +kernel, by decide +kernel⟩, rfl, rfl, 200, by decide +kernel⟩
theorem ok__law_history : d__law_history.Ok txt := ⟨⟨rfl, rfl, rfl, by decide +kernel, rfl, by decide +kernel, by decide +kernel⟩, rfl, rfl, 200, by decide +kernel⟩
theorem ok__law_histories : d__law_histories.Ok txt := ⟨⟨rfl, rfl, rfl, by decide +kernel, rfl, by decide +kernel, by decide +kernel⟩, rfl, rfl, 200, by decide +kernel⟩
theorem ok__law_forgotten : d__law_forgotten.Ok txt := ⟨⟨rfl, rfl, rfl, by decide +kernel, rfl, by decide +kernel, by decide +kernel⟩, rfl, rfl, 200, by decide +kernel⟩
theorem ok__law_new_tree : d__law_new_tree.Ok txt := ⟨⟨rfl, rfl, rfl, by decide +kernel, rfl, by decide +kernel, by decide +kernel⟩, rfl, rfl, 200, by decide +kernel⟩
theorem ok__law_known_tree : d__law_known_tree.Ok txt := ⟨⟨rfl, rfl, rfl, by decide +kernel, rfl, by decide +kernel, by decide +kernel⟩, rfl, rfl, 200, by decide +kernel⟩
theorem ok__law_tree : d__law_tree.Ok txt := ⟨⟨rfl, rfl, rfl, by decide +kernel, rfl, by decide +kernel, by decide +kernel⟩, rfl, rfl, 200, by decide +kernel⟩
theorem ok__law_noted : d__law_noted.Ok txt := ⟨⟨rfl, rfl, rfl, by decide +kernel, rfl, by decide +kernel, by decide +kernel⟩, rfl, rfl, 200, by decide +kernel⟩
theorem ok__law_noted_by : d__law_noted_by.Ok txt := ⟨⟨rfl, rfl, rfl, by decide +kernel, rfl, by decide +kernel, by decide +kernel⟩, rfl, rfl, 200, by decide +kernel⟩
theorem ok__law_is_own_path : d__law_is_own_path.Ok txt := ⟨⟨rfl, rfl, rfl, by decide +kernel, rfl, by decide +kernel, by decide +kernel⟩, rfl, rfl, 200, by decide +kernel⟩
theorem ok__law_is_path : d__law_is_path.Ok txt := ⟨⟨rfl, rfl, rfl, by decide +kernel, rfl, by decide +kernel, by decide +kernel⟩, rfl, rfl, 200, by decide +kernel⟩
theorem ok__law_numbered : d__law_numbered.Ok txt := ⟨⟨rfl, rfl, rfl, by decide +kernel, rfl, by decide +kernel, by decide +kernel⟩, rfl, rfl, 200, by decide +kernel⟩
theorem ok__law_least_splitting : d__law_least_splitting.Ok txt := ⟨⟨rfl, rfl, rfl, by decide +kernel, rfl, by decide +kernel, by decide +kernel⟩, rfl, rfl, 200, by decide +kernel⟩
theorem ok__law_wide_tree : d__law_wide_tree.Ok txt := ⟨⟨rfl, rfl, rfl, by decide +kernel, rfl, by decide +kernel, by decide +kernel⟩, rfl, rfl, 200, by decide +kernel⟩
theorem ok__law_pair_right : d__law_pair_right.Ok txt := ⟨⟨rfl, rfl, rfl, by decide +kernel, rfl, by decide +kernel, by decide +kernel⟩, rfl, rfl, 200, by decide +kernel⟩
theorem ok_law : d_law.Ok txt := ⟨⟨rfl, rfl, rfl, by decide +kernel, rfl, by decide +kernel, by decide +kernel⟩, rfl, rfl, 200, by decide +kernel⟩
theorem oks : AllP (De.Ok txt) all := ⟨ok_nodes_of, ok_own_nodes_of, ok_node_at, ok_room_at, ok_rooms_of, ok_own_history, ok_histories_in, ok_first_forgetting, ok_does_remember, ok_histories_of, ok_forgetting_pair, ok__law_pen, ok__law_fresh, ok__law_draw, ok__law_one_of, ok__law_whole, ok__law_is_marked, ok__law_is_tuple, ok__law_is_node, ok__law_nodes, ok__law_ends, ok__law_owns, ok__law_history, ok__law_histories, ok__law_forgotten, ok__law_new_tree, ok__law_known_tree, ok__law_tree, ok__law_noted, ok__law_noted_by, ok__law_is_own_path, ok__law_is_path, ok__law_numbered, ok__law_least_splitting, ok__law_wide_tree, ok__law_pair_right, ok_law, True.intro⟩
theorem fnsOk : fnsB txt all = true := by decide +kernel
end Rv.k08
end
section
/-! k08, mathematics 1: trees and their nodes. -/
namespace Rv.k08
open PySem Rv
inductive Tr where
  | leaf
  | own (r : Int) (ts : List Tr)
  | oth (ts : List Tr)
mutual
def enc : Tr → D
  | .leaf => .tuple []
  | .own r ts => .tuple [.str "own", .int r, .tuple (encs ts)]
  | .oth ts => .tuple [.str "theirs", .tuple (encs ts)]
def encs : List Tr → List D
  | [] => []
  | t :: ts => enc t :: encs ts
end
theorem encs_map : ∀ ts : List Tr, encs ts = ts.map enc
  | [] => by rw [encs]; rfl
  | t :: ts => by rw [encs, encs_map ts]; rfl
mutual
def dep : Tr → Nat
  | .leaf => 0
  | .own _ ts => deps ts + 1
  | .oth ts => deps ts + 1
def deps : List Tr → Nat
  | [] => 0
  | t :: ts => max (dep t) (deps ts)
end
mutual
theorem lay_enc : ∀ t, (enc t).canLay0 = true
  | .leaf => by rw [enc]; rfl
  | .own r ts => by
    rw [enc]
    simp only [PyData.canLay0, PyData.canLayAll0, lay_encs ts, Bool.and_true]
    decide +kernel
  | .oth ts => by
    rw [enc]
    simp only [PyData.canLay0, PyData.canLayAll0, lay_encs ts, Bool.and_true]
    decide +kernel
theorem lay_encs : ∀ ts, PyData.canLayAll0 (encs ts) = true
  | [] => by rw [encs]; rfl
  | t :: ts => by rw [encs, PyData.canLayAll0, lay_enc t, lay_encs ts]; rfl
end
mutual
theorem depth_enc : ∀ t, (enc t).depth ≤ 2 * dep t + 1
  | .leaf => by rw [enc]; simp [PyData.depth, PyData.depthAll]
  | .own r ts => by
    have := depth_encs ts
    rw [enc]
    simp only [PyData.depth, PyData.depthAll, dep]
    omega
  | .oth ts => by
    have := depth_encs ts
    rw [enc]
    simp only [PyData.depth, PyData.depthAll, dep]
    omega
theorem depth_encs : ∀ ts, PyData.depthAll (encs ts) ≤ 2 * deps ts + 1
  | [] => by rw [encs]; simp [PyData.depthAll]
  | t :: ts => by
    have := depth_enc t
    have := depth_encs ts
    rw [encs]
    simp only [PyData.depthAll, deps]
    omega
end
/-- a path -/
def pd (p : List Int) : D := .tuple (p.map PyData.int)
abbrev Nd := List Int × Tr
def item (q : Nd) : D := .tuple [pd q.1, enc q.2]
def kids : Tr → List Tr
  | .leaf => []
  | .own _ ts => ts
  | .oth ts => ts
/-- a node's children with their paths, from the i-th on -/
def subs (p : List Int) : Nat → List Tr → List Nd
  | _, [] => []
  | i, t :: ts => (p ++ [(i : Int)], t) :: subs p (i + 1) ts
mutual
def pre : List Int → Tr → List Nd
  | p, .leaf => [(p, .leaf)]
  | p, .own r ts => (p, .own r ts) :: pres p 0 ts
  | p, .oth ts => (p, .oth ts) :: pres p 0 ts
def pres : List Int → Nat → List Tr → List Nd
  | _, _, [] => []
  | p, i, t :: ts => pre (p ++ [(i : Int)]) t ++ pres p (i + 1) ts
end
theorem pres_subs : ∀ (p : List Int) (i : Nat) (ts : List Tr), pres p i ts = (subs p i ts).flatMap fun q => pre q.1 q.2
  | p, i, [] => by rw [pres]; rfl
  | p, i, t :: ts => by rw [pres, pres_subs p (i + 1) ts]; rfl
theorem pre_eq (p : List Int) (t : Tr) : pre p t = (p, t) :: (subs p 0 (kids t)).flatMap fun q => pre q.1 q.2 := by
  cases t with
  | leaf => rw [pre]; rfl
  | own r ts => rw [pre, pres_subs]; rfl
  | oth ts => rw [pre, pres_subs]; rfl
theorem lay_ints (p : List Int) : PyData.canLayAll0 (p.map PyData.int) = true := by
  induction p with
  | nil => rfl
  | cons x p ih => rw [List.map_cons, PyData.canLayAll0, ih]; rfl
theorem depth_ints (p : List Int) : PyData.depthAll (p.map PyData.int) = 0 := by
  induction p with
  | nil => rfl
  | cons x p ih => rw [List.map_cons, PyData.depthAll, ih]; simp [PyData.depth]
theorem lay_items (W : List Nd) : PyData.canLayAll0 (W.map item) = true := by
  induction W with
  | nil => rfl
  | cons q W ih => simp [item, pd, PyData.canLayAll0, PyData.canLay0, ih, lay_ints, lay_enc]
theorem depth_items {W : List Nd} (h : ∀ q ∈ W, dep q.2 ≤ 20) : PyData.depthAll (W.map item) ≤ 42 := by
  induction W with
  | nil => simp [PyData.depthAll]
  | cons q W ih =>
    have h1 := h q List.mem_cons_self
    have h2 := ih fun q hq => h q (List.mem_cons_of_mem _ hq)
    have h3 := depth_enc q.2
    simp only [List.map_cons, PyData.depthAll, item, pd, PyData.depth, depth_ints]
    omega
theorem shp_items {W : List Nd} (h : ∀ q ∈ W, dep q.2 ≤ 20) : SeqAt.shaped (.list (W.map item)) = true := by
  have := depth_items h
  unfold SeqAt.shaped
  rw [PyData.canLay0, lay_items, PyData.depth, Bool.true_and, decide_eq_true_eq]
  omega
theorem shp_enc {t : Tr} (h : dep t ≤ 20) : SeqAt.shaped (enc t) = true := by
  have := depth_enc t
  unfold SeqAt.shaped
  rw [lay_enc, Bool.true_and, decide_eq_true_eq]
  omega
theorem ne_nil (xs : List D) : PyData.eqv (.list xs) (.list []) = xs.isEmpty := by
  cases xs <;> simp [PyData.eqv, PyData.eqvAll]
theorem ne_unit (t : Tr) : PyData.eqv (enc t) (.tuple []) = match t with
  | .leaf => true
  | _ => false := by
  cases t <;> simp [enc, PyData.eqv, PyData.eqvAll]
end Rv.k08
end
section
/-! k08, mathematics 2: nodes_of. -/
namespace Rv.k08
open PySem Rv
theorem kids_at (t : Tr) (h : t ≠ .leaf) : oIdx (enc t) (.int (-1)) = some (.tuple (encs (kids t))) := by
  cases t with
  | leaf => exact absurd rfl h
  | own r ts => rw [enc]; rfl
  | oth ts => rw [enc]; rfl
def nTurn (c : Cal) : D → Env → Rs (Option D) := cTurn [5, 6] (.t [.v 5, .v 6]) (bodyOf (ev c (.tup [(.bin .Add (.var 3) (.tup [(.var 5)])), (.var 6)])))
theorem n_turn (c : Cal) (p : List Int) (hp : p.length < 1000) (i : Nat) (d : D) (a b w x : Option Sl) :
    nTurn c (.tuple [.int i, d]) [a, b, w, some (.val (pd p)), x, none, none] = .ok (some (.tuple [pd (p ++ [(i : Int)]), d])) [a, b, w, some (.val (pd p)), x, none, none] := by
  have h1 : small (p.length + 1) = true := by
    unfold small
    rw [PySem.sizeLine_eq]
    exact decide_eq_true (by omega)
  have h2 : small 1 = true := by decide
  have h3 : small 2 = true := by decide
  simp [nTurn, cTurn, asg, asgs, putV, bodyOf, ev, evs, two, brw, valOf, rd, frz, Rs.bind, Rs.of, Sl.d, pd, oBin, nw, isLD, turnEnd, hide, Ex.var?, h1, h2, h3]
theorem n_turns (c : Cal) (p : List Int) (hp : p.length < 1000) (a b w x : Option Sl) : ∀ (ts : List Tr) (i : Nat),
    turns (nTurn c) (enumG (fun i d => PyData.tuple [.int (i : Nat), d]) i (encs ts)) [a, b, w, some (.val (pd p)), x, none, none] = .ok ((subs p i ts).map item) [a, b, w, some (.val (pd p)), x, none, none]
  | [], i => by rw [encs]; rfl
  | t :: ts, i => by
    rw [encs, enumG, turns, n_turn c p hp i (enc t) a b w x]
    dsimp only
    rw [n_turns c p hp a b w x ts (i + 1)]
    rfl
theorem encs_len (ts : List Tr) : (encs ts).length = ts.length := by rw [encs_map, List.length_map]
theorem subs_len : ∀ (p : List Int) (i : Nat) (ts : List Tr), (subs p i ts).length = ts.length
  | _, _, [] => rfl
  | p, i, t :: ts => by rw [subs, List.length_cons, subs_len p (i + 1) ts, List.length_cons]
theorem n_comp (c : Cal) (p : List Int) (t : Tr) (hp : p.length < 1000) (hk : (kids t).length < 1000) (ht : t ≠ .leaf) (a b w : Option Sl) :
    ev c (.comp [5, 6] (.t [.v 5, .v 6]) .enum [(.idx (.var 4) (.neg (.cst (.int 1))))] (.tup [(.bin .Add (.var 3) (.tup [(.var 5)])), (.var 6)])) [a, b, w, some (.val (pd p)), some (.val (enc t)), none, none] =
      .ok (true, .list ((subs p 0 (kids t)).map item)) [a, b, w, some (.val (pd p)), some (.val (enc t)), none, none] := by
  have h1 : small ((subs p 0 (kids t)).map item).length = true := by
    unfold small
    rw [PySem.sizeLine_eq, List.length_map, subs_len]
    exact decide_eq_true (by omega)
  have e := n_turns c p hp a b w (some (.val (enc t))) (kids t) 0
  rw [ev]
  have it : evs c [(.idx (.var 4) (.neg (.cst (.int 1))))] [a, b, w, some (.val (pd p)), some (.val (enc t)), none, none] = .ok [.tuple (encs (kids t))] [a, b, w, some (.val (pd p)), some (.val (enc t)), none, none] := by
    simp [evs, ev, two, brw, valOf, rd, frz, Rs.bind, Rs.of, Sl.d, Ex.var?, neg1, ol, kids_at t ht]
  rw [it]
  have wk : walk .enum [.tuple (encs (kids t))] = some (enumG (fun i d => PyData.tuple [.int (i : Nat), d]) 0 (encs (kids t))) := by
    rw [← zip_enum]
    rfl
  have e' : turns (cTurn [5, 6] (.t [.v 5, .v 6]) (bodyOf (ev c (.tup [(.bin .Add (.var 3) (.tup [(.var 5)])), (.var 6)])))) (enumG (fun i d => PyData.tuple [.int (i : Nat), d]) 0 (encs (kids t))) _ = _ := e
  simp only [Rs.bind, wk, runComp, hide, Option.bind]
  simp [e', Rs.bind, unhide]
  simpa using h1
/-- the loop's body -/
def nBody (tc : Ex) : List Sm := [.unp (.t [(.v 3), (.v 4)]) (.pop 2),
    .app 1 (.tup [(.var 3), (.var 4)]),
    .ite tc [.ext 2 (.rev (.comp [5, 6] (.t [(.v 5), (.v 6)]) .enum [(.idx (.var 4) (.neg (.cst (.int 1))))] (.tup [(.bin .Add (.var 3) (.tup [(.var 5)])), (.var 6)])))] []]
def nEnv (T : D) (fs W : List Nd) (x y : Option D) : Env := [some (.val T), some (.own (.list (fs.map item))), some (.own (.list (W.map item))), x.map Sl.val, y.map Sl.val, none, none]
/-- the test whether a node is no end -/
def Tst (c : Cal) (tc : Ex) (T : D) (R : Tr → Prop) : Prop := ∀ (fs W : List Nd) (p : List Int) (t : Tr), dep t ≤ 20 → R t →
  brw tc (ev c tc) (nEnv T fs W (some (pd p)) (some (enc t))) = .ok (.bool (!PyData.eqv (enc t) (.tuple []))) (nEnv T fs W (some (pd p)) (some (enc t)))
theorem tst_plain (c : Cal) (T : D) : Tst c (.cmp .NotEq (.var 4) (.tup [])) T fun _ => True := fun fs W p t hd _ => by
  have s0 : small 0 = true := by decide
  have hs : shp2 (enc t) (.tuple []) = true := by
    unfold shp2
    rw [shp_enc hd]
    rfl
  simp [brw, Ex.var?, valOf, ev, two, rd, Rs.of, Rs.bind, evs, s0, ol, Sl.d, cmp_ne hs, nEnv]
theorem n_body (c : Cal) (tc : Ex) (T : D) (R : Tr → Prop) (htc : Tst c tc T R) (fs W : List Nd) (p : List Int) (t : Tr) (x y : Option D) (hr : R t) (hp : p.length < 1000) (hk : (kids t).length < 1000) (hd : dep t ≤ 20) (hf : fs.length < 1000000) (hw : W.length < 1000000) :
    exs c (nBody tc) (nEnv T fs (W ++ [(p, t)]) x y) = .nx (nEnv T (fs ++ [(p, t)]) (W ++ (subs p 0 (kids t)).reverse) (some (pd p)) (some (enc t))) := by
  have s1 : small (fs.length + 1) = true := by
    unfold small
    rw [PySem.sizeLine_eq]
    exact decide_eq_true (by omega)
  have s2 : small 2 = true := by decide
  have s3 : small (W.length + (subs p 0 (kids t)).length) = true := by
    unfold small
    rw [PySem.sizeLine_eq, subs_len]
    exact decide_eq_true (by omega)
  have s0 : small 0 = true := by decide
  have hs : shp2 (enc t) (.tuple []) = true := by
    unfold shp2
    rw [shp_enc hd]
    rfl
  have pop : ∀ x y, popAt 2 (nEnv T fs (W ++ [(p, t)]) x y) = .ok (false, item (p, t)) (nEnv T fs W x y) := fun x y => by
    simp [popAt, nEnv]
  have h1 : ex1 c (.unp (.t [(.v 3), (.v 4)]) (.pop 2)) (nEnv T fs (W ++ [(p, t)]) x y) = .nx (nEnv T fs W (some (pd p)) (some (enc t))) := by
    rw [ex1, ev, pop]
    cases x <;> cases y <;> simp [valOf, Rs.bind, Rs.ou, asg, asgs, item, putV, nEnv, nxO]
  have h2 : ex1 c (.app 1 (.tup [(.var 3), (.var 4)])) (nEnv T fs W (some (pd p)) (some (enc t))) = .nx (nEnv T (fs ++ [(p, t)]) W (some (pd p)) (some (enc t))) := by
    simp [ex1, recv, Ex.var?, rd, Rs.of, Rs.bind, Rs.ou, isLs, valOf, ev, evs, frz, nEnv, chg, app1, upSl, Sl.d, s1, s2, item]
  have h3 : ex1 c (.ite tc [.ext 2 (.rev (.comp [5, 6] (.t [(.v 5), (.v 6)]) .enum [(.idx (.var 4) (.neg (.cst (.int 1))))] (.tup [(.bin .Add (.var 3) (.tup [(.var 5)])), (.var 6)])))] []) (nEnv T (fs ++ [(p, t)]) W (some (pd p)) (some (enc t))) =
      .nx (nEnv T (fs ++ [(p, t)]) (W ++ (subs p 0 (kids t)).reverse) (some (pd p)) (some (enc t))) := by
    have tst := htc (fs ++ [(p, t)]) W p t hd hr
    rw [ex1, tst]
    by_cases ht : t = .leaf
    · subst ht
      simp [Rs.ou, tru, ne_unit, exs, kids, subs]
    · have e1 : PyData.eqv (enc t) (.tuple []) = false := by
        rw [ne_unit]
        cases t <;> first | exact absurd rfl ht | rfl
      have cm := n_comp c p t hp hk ht (some (.val T)) (some (.own (.list ((fs ++ [(p, t)]).map item)))) (some (.own (.list (W.map item))))
      have rv : ev c (.rev (.comp [5, 6] (.t [(.v 5), (.v 6)]) .enum [(.idx (.var 4) (.neg (.cst (.int 1))))] (.tup [(.bin .Add (.var 3) (.tup [(.var 5)])), (.var 6)]))) (nEnv T (fs ++ [(p, t)]) W (some (pd p)) (some (enc t))) =
          .ok (true, .list ((subs p 0 (kids t)).reverse.map item)) (nEnv T (fs ++ [(p, t)]) W (some (pd p)) (some (enc t))) := by
        rw [ev]
        unfold brw
        rw [show (Ex.comp [5, 6] (.t [(.v 5), (.v 6)]) .enum [(.idx (.var 4) (.neg (.cst (.int 1))))] (.tup [(.bin .Add (.var 3) (.tup [(.var 5)])), (.var 6)])).var? = none from rfl]
        dsimp only
        unfold valOf nEnv
        rw [Option.map_some, Option.map_some, cm]
        simp [Rs.bind, nw, oRev, Rs.of, isLD]
      have rc : recv isLs (.var 2) (ev c (.var 2)) (nEnv T (fs ++ [(p, t)]) W (some (pd p)) (some (enc t))) = .ok none (nEnv T (fs ++ [(p, t)]) W (some (pd p)) (some (enc t))) := by
        simp [recv, Ex.var?, nEnv, rd, Rs.of, Rs.bind, isLs, Sl.d]
      have cg : chg 2 (ext1 (.list ((subs p 0 (kids t)).reverse.map item))) (nEnv T (fs ++ [(p, t)]) W (some (pd p)) (some (enc t))) = .nx (nEnv T (fs ++ [(p, t)]) (W ++ (subs p 0 (kids t)).reverse) (some (pd p)) (some (enc t))) := by
        simp [nEnv, chg, ext1, upSl, Sl.d, s3]
      simp only [Rs.ou, tru, e1, exs, ex1, Ou.nxt, Rs.bind, valOf, rv, rc, cg, Bool.not_false]
  rw [nBody, exs, h1]
  show (exs c _ _) = _
  rw [exs, h2]
  show (exs c _ _) = _
  rw [exs, h3]
  show (exs c _ _) = _
  rw [exs]
/-- all nodes that hang from the waiting ones -/
def hang (W : List Nd) : List Nd := W.flatMap fun q => pre q.1 q.2
theorem hang_rev (W : List Nd) (p : List Int) (t : Tr) : hang ((W ++ [(p, t)]).reverse) = (p, t) :: hang ((W ++ (subs p 0 (kids t)).reverse).reverse) := by
  unfold hang
  rw [List.reverse_append, List.reverse_append, List.reverse_reverse, List.flatMap_append, List.flatMap_append]
  show pre p t ++ [] ++ _ = _
  rw [pre_eq, List.append_nil, List.cons_append]
theorem w_test (c : Cal) (T : D) (fs W : List Nd) (x y : Option D) (h : ∀ q ∈ W, dep q.2 ≤ 20) :
    brw (.cmp .NotEq (.var 2) (.lst [])) (ev c (.cmp .NotEq (.var 2) (.lst []))) (nEnv T fs W x y) = .ok (.bool (!W.isEmpty)) (nEnv T fs W x y) := by
  have hs : shp2 (.list (W.map item)) (.list []) = true := by
    unfold shp2
    rw [shp_items h]
    rfl
  have s0 : small 0 = true := by decide
  simp [brw, Ex.var?, valOf, ev, two, rd, Rs.of, Rs.bind, evs, ol, Sl.d, cmp_ne hs, ne_nil, nEnv, s0]
/-- what may be waiting -/
structure Fine (q : Nd) : Prop where
  lev : q.1.length + dep q.2 ≤ 20
  few : ∀ n ∈ pre q.1 q.2, (kids n.2).length ≤ 4
theorem deps_mem : ∀ {ts : List Tr} {t : Tr}, t ∈ ts → dep t ≤ deps ts
  | u :: ts, t, h => by
    rw [deps]
    rcases List.mem_cons.mp h with rfl | h
    · omega
    · have := deps_mem h
      omega
theorem dep_kid {t u : Tr} (h : u ∈ kids t) : dep u + 1 ≤ dep t := by
  cases t with
  | leaf => cases h
  | own r ts => have := deps_mem (show u ∈ ts from h); rw [dep]; omega
  | oth ts => have := deps_mem (show u ∈ ts from h); rw [dep]; omega
theorem subs_mem : ∀ {p : List Int} {i : Nat} {ts : List Tr} {q : Nd}, q ∈ subs p i ts → q.1.length = p.length + 1 ∧ q.2 ∈ ts
  | p, i, t :: ts, q, h => by
    rcases List.mem_cons.mp h with rfl | h
    · exact ⟨by simp, List.mem_cons_self⟩
    · obtain ⟨h1, h2⟩ := subs_mem h
      exact ⟨h1, List.mem_cons_of_mem _ h2⟩
theorem Fine.kid {p : List Int} {t : Tr} (f : Fine (p, t)) {q : Nd} (h : q ∈ subs p 0 (kids t)) : Fine q := by
  obtain ⟨h1, h2⟩ := subs_mem h
  have h3 := dep_kid h2
  have h4 := f.lev
  refine ⟨by show q.1.length + dep q.2 ≤ 20; have h4 : p.length + dep t ≤ 20 := h4; omega, fun n hn => f.few n ?_⟩
  show n ∈ pre p t
  rw [pre_eq]
  exact List.mem_cons_of_mem _ (List.mem_flatMap.mpr ⟨q, h, hn⟩)
theorem n_loop (c : Cal) (tc : Ex) (T : D) (R : Tr → Prop) (htc : Tst c tc T R) : ∀ (n : Nat) (fs W : List Nd) (x y : Option D), (hang W.reverse).length = n → (∀ q ∈ W, Fine q) → (∀ q ∈ hang W.reverse, R q.2) → fs.length + n < 1000000 →
    ∃ x' y', whil (brw (.cmp .NotEq (.var 2) (.lst [])) (ev c (.cmp .NotEq (.var 2) (.lst [])))) (exs c (nBody tc)) (nEnv T fs W x y) = .nx (nEnv T (fs ++ hang W.reverse) [] x' y')
  | n, fs, W, x, y, hn, hF, hR, hs => by
    have tst := w_test c T fs W x y fun q hq => by have := (hF q hq).lev; omega
    rcases List.eq_nil_or_concat W with rfl | ⟨W', ⟨p, t⟩, rfl⟩
    · refine ⟨x, y, ?_⟩
      rw [whil_end tst rfl]
      simp [hang]
    · rw [List.concat_eq_append] at *
      have e := hang_rev W' p t
      have f := hF (p, t) (by simp)
      have hlen : (hang (W' ++ (subs p 0 (kids t)).reverse).reverse).length + 1 = n := by
        rw [← hn, e, List.length_cons]
      have hw : W'.length ≤ (hang W'.reverse).length := by
        clear tst hF hs hn e hlen
        rw [← List.length_reverse]
        induction W'.reverse with
        | nil => exact Nat.le_refl _
        | cons q r ih =>
          show _ ≤ (pre q.1 q.2 ++ hang r).length
          rw [List.length_append, pre_eq, List.length_cons, List.length_cons]
          omega
      have hw2 : (hang W'.reverse).length ≤ (hang (W' ++ (subs p 0 (kids t)).reverse).reverse).length := by
        unfold hang
        rw [List.reverse_append, List.flatMap_append, List.length_append]
        omega
      have k4 := f.few (p, t) (by show (p, t) ∈ pre p t; rw [pre_eq]; exact List.mem_cons_self)
      have f1 := f.lev
      have bd := n_body c tc T R htc fs W' p t x y (hR (p, t) (by rw [e]; exact List.mem_cons_self)) (by have f1 : p.length + dep t ≤ 20 := f1; omega) (by have k4 : (kids t).length ≤ 4 := k4; omega) (by have f1 : p.length + dep t ≤ 20 := f1; omega) (by omega) (by omega)
      rw [whil_go tst (by simp [tru]) bd]
      obtain ⟨x', y', h⟩ := n_loop c tc T R htc (n - 1) (fs ++ [(p, t)]) (W' ++ (subs p 0 (kids t)).reverse) (some (pd p)) (some (enc t)) (by omega) (fun q hq => by
        rcases List.mem_append.mp hq with hq | hq
        · exact hF q (List.mem_append_left _ hq)
        · exact f.kid (List.mem_reverse.mp hq)) (fun q hq => hR q (by rw [e]; exact List.mem_cons_of_mem _ hq)) (by rw [List.length_append]; simp; omega)
      refine ⟨x', y', ?_⟩
      rw [h, e, List.append_assoc]
      rfl
  termination_by n => n
  decreasing_by omega
/-- nodes_of -/
theorem nodes_of (k : Nat) (t : Tr) (f : Fine ([], t)) (hs : (pre [] t).length < 1000000) : run (all.map De.g) (k + 1) 0 [enc t] = .ret (.list ((pre [] t).map item)) [] := by
  rw [run_def (g := d_nodes_of.g) rfl rfl]
  have h0 : hang ([([], t)] : List Nd).reverse = pre [] t := by
    unfold hang
    simp
  obtain ⟨x', y', h⟩ := n_loop (cal (all.map De.g) k) _ (enc t) _ (tst_plain _ _) (pre [] t).length [] [([], t)] none none (by rw [h0]) (fun q hq => by rw [List.mem_singleton.mp hq]; exact f) (fun _ _ => True.intro) (by simpa using hs)
  rw [h0] at h
  have s0 : small 0 = true := by decide
  have s1 : small 1 = true := by decide
  have s2 : small 2 = true := by decide
  have p1 : ex1 (cal (all.map De.g) k) (.par [1, 2] [(.lst []), (.lst [(.tup [(.tup []), (.var 0)])])]) (entry 6 [] [enc t]) = .nx (nEnv (enc t) [] [([], t)] none none) := by
    simp [ex1, evL, ev, evs, entry, frz, valOf, Rs.bind, Rs.ou, nxO, putL, putV, slOf, s0, s1, s2, nEnv, item, pd]
  show fin d_nodes_of.g (exs _ [_, .whl (.cmp .NotEq (.var 2) (.lst [])) (nBody _), .ret (.var 1)] (entry 6 [] [enc t])) = _
  rw [exs, p1]
  show fin d_nodes_of.g (exs _ _ _) = _
  rw [exs, ex1, h]
  simp [Ou.nxt, exs, ex1, ev, frz, valOf, Rs.bind, Rs.ou, nEnv, fin, finR, d_nodes_of, outs]
end Rv.k08
end
section
/-! k08, mathematics 3: the short walks over the nodes. -/
namespace Rv.k08
open PySem Rv
def isLeaf : Tr → Bool
  | .leaf => true
  | _ => false
def isOwn : Tr → Bool
  | .own _ _ => true
  | _ => false
def isOth : Tr → Bool
  | .oth _ => true
  | _ => false
section
variable {c : Cal} {env : Env} {j : Nat} {t : Tr}
theorem shp_unit (h : dep t ≤ 20) : shp2 (enc t) (.tuple []) = true := by
  unfold shp2
  rw [shp_enc h]
  rfl
theorem ne_leaf : PyData.eqv (enc t) (.tuple []) = isLeaf t := by
  rw [ne_unit]
  cases t <;> rfl
theorem e_ne (h : rd j env = some (enc t)) (hd : dep t ≤ 20) : ev c (.cmp .NotEq (.var j) (.tup [])) env = .ok (false, .bool (!isLeaf t)) env := by
  have s0 : small 0 = true := by decide
  simp [ev, two, brw, Ex.var?, evs, valOf, Rs.bind, Rs.of, h, ol, cmp_ne (shp_unit hd), ne_leaf, s0]
theorem e_eq (h : rd j env = some (enc t)) (hd : dep t ≤ 20) : ev c (.cmp .Eq (.var j) (.tup [])) env = .ok (false, .bool (isLeaf t)) env := by
  have s0 : small 0 = true := by decide
  simp [ev, two, brw, Ex.var?, evs, valOf, Rs.bind, Rs.of, h, ol, cmp_eq (shp_unit hd), ne_leaf, s0]
def mark : Tr → D
  | .leaf => .none
  | .own _ _ => .str "own"
  | .oth _ => .str "theirs"
theorem shp_marks {x y : Str} (hx : x = "own" ∨ x = "theirs") (hy : y = "own" ∨ y = "theirs") : shp2 (.str x) (.str y) = true := by
  rcases hx with rfl | rfl <;> rcases hy with rfl | rfl <;> decide +kernel
theorem own_ne : ((("own" : Str) == ("theirs" : Str)) = false) ∧ ((("theirs" : Str) == ("own" : Str)) = false) := by
  constructor <;> decide +kernel
theorem e_mark {e : Ex} (h : rd j env = some (enc t)) (ht : isLeaf t = false) {y : Str} (hy : y = "own" ∨ y = "theirs") (hv : e.var? = none) (he : ev c e env = .ok (false, .str y) env) :
    ev c (.cmp .Eq (.idx (.var j) (.cst (.int 0))) e) env = .ok (false, .bool (PyData.eqv (mark t) (.str y))) env := by
  cases t with
  | leaf => cases ht
  | own r ts =>
    have hi : oIdx (enc (.own r ts)) (.int 0) = some (.str "own") := by rw [enc]; rfl
    simp [ev, two, brw, va_idx, va_var, va_cst, hv, he, valOf, Rs.bind, Rs.of, h, ol, hi, cmp_eq (shp_marks (.inl rfl) hy), mark]
  | oth ts =>
    have hi : oIdx (enc (.oth ts)) (.int 0) = some (.str "theirs") := by rw [enc]; rfl
    simp [ev, two, brw, va_idx, va_var, va_cst, hv, he, valOf, Rs.bind, Rs.of, h, ol, hi, cmp_eq (shp_marks (.inr rfl) hy), mark]
theorem mark_own (h : isLeaf t = false) : PyData.eqv (mark t) (.str "own") = isOwn t := by
  cases t with
  | leaf => cases h
  | own r ts => simp [mark, isOwn, PyData.eqv]
  | oth ts => simp [mark, isOwn, PyData.eqv, own_ne.2]
theorem mark_oth (h : isLeaf t = false) : PyData.eqv (mark t) (.str "theirs") = isOth t := by
  cases t with
  | leaf => cases h
  | own r ts => simp [mark, isOth, PyData.eqv, own_ne.1]
  | oth ts => simp [mark, isOth, PyData.eqv]
theorem e_own {e : Ex} (h : rd j env = some (enc t)) (hd : dep t ≤ 20) (hv : e.var? = none) (he : ev c e env = .ok (false, .str "own") env) :
    ev c (.band (.cmp .NotEq (.var j) (.tup [])) (.cmp .Eq (.idx (.var j) (.cst (.int 0))) e)) env = .ok (false, .bool (isOwn t)) env := by
  rw [ev, e_ne h hd]
  cases ht : isLeaf t with
  | true =>
    cases t with
    | leaf => simp [valOf, Rs.bind, tru, isOwn]
    | own r ts => cases ht
    | oth ts => cases ht
  | false => simp [valOf, Rs.bind, tru, e_mark h ht (.inl rfl) hv he, mark_own ht]
theorem e_oth {e : Ex} (h : rd j env = some (enc t)) (hd : dep t ≤ 20) (hv : e.var? = none) (he : ev c e env = .ok (false, .str "theirs") env) :
    ev c (.band (.cmp .NotEq (.var j) (.tup [])) (.cmp .Eq (.idx (.var j) (.cst (.int 0))) e)) env = .ok (false, .bool (isOth t)) env := by
  rw [ev, e_ne h hd]
  cases ht : isLeaf t with
  | true =>
    cases t with
    | leaf => simp [valOf, Rs.bind, tru, isOth]
    | own r ts => cases ht
    | oth ts => cases ht
  | false => simp [valOf, Rs.bind, tru, e_mark h ht (.inr rfl) hv he, mark_oth ht]
end
/-- a list comprehension over pairs, with a test -/
theorem comp_if {c : Cal} {i j : Nat} {it elt cond : Ex} {env : Env} {W : List Nd} {P : Nd → Bool} {out : Nd → D} (hit : ev c it env = .ok (false, .list (W.map item)) env) (hh : hide [i, j] env = some env) (hu : unhide [i, j] env env = env) (hw : W.length < 1000000)
    (hturn : ∀ q ∈ W, ∃ e2, asg (.t [.v i, .v j]) (item q) env = some e2 ∧ hide [i, j] e2 = some env ∧ brw cond (ev c cond) e2 = .ok (.bool (P q)) e2 ∧ (P q = true → valOf (ev c elt e2) = .ok (out q) e2)) :
    ev c (.compIf [i, j] (.t [.v i, .v j]) .it [it] cond elt) env = .ok (true, .list ((W.filter P).map out)) env := by
  have tn : ∀ q ∈ W, cTurn [i, j] (.t [.v i, .v j]) (bodyIf (brw cond (ev c cond)) (ev c elt)) (item q) env = .ok (if P q = true then some (out q) else none) env := fun q hq => by
    obtain ⟨e2, h1, h2, h3, h4⟩ := hturn q hq
    cases hp : P q with
    | true => simp [cTurn, h1, bodyIf, h3, hp, tru, Rs.bind, h4 hp, turnEnd, h2]
    | false => simp [cTurn, h1, bodyIf, h3, hp, tru, Rs.bind, turnEnd, h2]
  have ts := turns_map item (fun q => if P q = true then some (out q) else none) env W tn
  have e1 : W.filterMap (fun q => if P q = true then some (out q) else none) = (W.filter P).map out := by
    clear tn ts hit hturn hw
    induction W with
    | nil => rfl
    | cons q W ih =>
      rw [List.filterMap_cons, List.filter_cons]
      cases P q <;> simp [ih]
  rw [e1] at ts
  have sm : small ((W.filter P).map out).length = true := by
    unfold small
    rw [PySem.sizeLine_eq, List.length_map]
    have := List.length_filter_le P W
    exact decide_eq_true (by omega)
  rw [ev]
  have hs : evs c [it] env = .ok [.list (W.map item)] env := by simp [evs, hit, valOf, Rs.bind]
  rw [hs]
  have wk : walk .it [.list (W.map item)] = some (W.map item) := rfl
  simp only [Rs.bind, wk, runComp, hh, ts, sm, hu, if_true]
/-- nodes of a tree that is fine -/
structure Good (t : Tr) : Prop where
  fine : Fine ([], t)
  few : (pre [] t).length < 1000
theorem Good.many {t : Tr} (g : Good t) : (pre [] t).length < 1000000 := Nat.lt_trans g.few (by decide)
theorem dep_pre : ∀ (n : Nat) (p : List Int) (t : Tr), dep t ≤ n → ∀ q ∈ pre p t, dep q.2 ≤ n
  | n, p, t, hn, q, hq => by
    rw [pre_eq] at hq
    rcases List.mem_cons.mp hq with rfl | hq
    · exact hn
    · obtain ⟨u, hu, hq⟩ := List.mem_flatMap.mp hq
      have h1 := dep_kid (subs_mem hu).2
      have := dep_pre (n - 1) u.1 u.2 (by omega) q hq
      omega
  termination_by n => n
  decreasing_by omega
theorem Good.dep {t : Tr} (g : Good t) : ∀ q ∈ pre [] t, dep q.2 ≤ 20 := fun q hq => dep_pre 20 [] t (by have := g.fine.lev; have h : ([] : List Int).length + k08.dep t ≤ 20 := this; simpa using h) q hq
theorem call_nodes {k : Nat} {t : Tr} {env : Env} (g : Good t) (h : env[0]? = some (some (.val (enc t)))) : ev (cal (all.map De.g) (k + 1)) (.call 0 [.var 0]) env = .ok (false, .list ((pre [] t).map item)) env := by
  have n := nodes_of k t g.fine g.many
  have sg : (cal (all.map De.g) (k + 1)).sig 0 = some ⟨1, []⟩ := rfl
  have rn : (cal (all.map De.g) (k + 1)).run 0 [enc t] = .ret (.list ((pre [] t).map item)) [] := n
  have nf : (cal (all.map De.g) (k + 1)).nw 0 = false := rfl
  simp [ev, sg, nf, evArs, frz, h, valOf, Rs.bind, runC, slotsOf, argDs, argD, rn, outOf, lay]
theorem own_nodes_of (k : Nat) (t : Tr) (g : Good t) : run (all.map De.g) (k + 2) 1 [enc t] = .ret (.tuple (((pre [] t).filter fun q => isOwn q.2).map fun q => pd q.1)) [] := by
  rw [run_def (g := d_own_nodes_of.g) rfl rfl]
  show fin d_own_nodes_of.g (exs _ b_own_nodes_of [some (.val (enc t)), none, none]) = _
  have cm := comp_if (c := cal (all.map De.g) (k + 1)) (i := 1) (j := 2) (elt := .var 1) (cond := .band (.cmp .NotEq (.var 2) (.tup [])) (.cmp .Eq (.idx (.var 2) (.cst (.int 0))) (.glob "OWN" (.str "own")))) (env := [some (.val (enc t)), none, none]) (P := fun q => isOwn q.2) (out := fun q => pd q.1) (call_nodes g rfl) rfl rfl g.many fun q hq =>
    ⟨[some (.val (enc t)), some (.val (pd q.1)), some (.val (enc q.2))], rfl, rfl, by
      rw [brw, va_band]
      simp [valOf, e_own (j := 2) (t := q.2) (env := [some (.val (enc t)), some (.val (pd q.1)), some (.val (enc q.2))]) rfl (g.dep q hq) va_glob (ev_glob (c := cal (all.map De.g) (k + 1))), Rs.bind], fun _ => by
      simp [ev, frz, valOf, Rs.bind]⟩
  simp only [d_own_nodes_of, b_own_nodes_of, exs, ex1]
  rw [ev, brw]
  simp [Ex.var?, valOf, cm, Rs.bind, nw, oB, Rs.of, isLD, Rs.ou, Ou.nxt, fin, finR, outs, entry]
/-! ### node_at, room_at -/
/-- the node at a path -/
def at_ : Tr → List Int → Option Tr
  | t, [] => some t
  | t, i :: p => match L2.atI (kids t) i with
    | some u => if isLeaf t then none else at_ u p
    | none => none
theorem atI_map {α β : Type} (f : α → β) (l : List α) (i : Int) : L2.atI (l.map f) i = (L2.atI l i).map f := by
  unfold L2.atI
  rw [List.length_map]
  cases L2.ixN l.length i with
  | none => rfl
  | some j => simp [List.getElem?_map]
theorem node_at (k : Nat) (t u : Tr) (p : List Int) (h : at_ t p = some u) : run (all.map De.g) (k + 1) 2 [enc t, pd p] = .ret (enc u) [] := by
  rw [run_def (g := d_node_at.g) rfl rfl]
  have lp : ∀ (p : List Int) (t0 : Tr) (x : Option D) (T P : D), at_ t0 p = some u → ∃ x', loop (fun x e2 => match asg (.v 3) x e2 with
      | some e3 => exs (cal (all.map De.g) k) [.set 2 (.idx (.idx (.var 2) (.neg (.cst (.int 1)))) (.var 3))] e3
      | none => .no) (p.map PyData.int) [some (.val T), some (.val P), some (.val (enc t0)), x.map Sl.val] = .nx [some (.val T), some (.val P), some (.val (enc u)), x'] := by
    intro p
    induction p with
    | nil =>
      intro t0 x T P h
      cases h
      exact ⟨_, rfl⟩
    | cons i p ih =>
      intro t0 x T P h
      unfold at_ at h
      cases e : L2.atI (kids t0) i with
      | none => rw [e] at h; cases h
      | some v =>
        rw [e] at h
        cases hl : isLeaf t0 with
        | true => rw [hl] at h; cases h
        | false =>
          rw [hl] at h
          have h : at_ v p = some u := h
          obtain ⟨x', z⟩ := ih v (some (.int i)) T P h
          refine ⟨x', ?_⟩
          have hk := kids_at t0 (fun q => by subst q; cases hl)
          have hi : oIdx (.tuple (encs (kids t0))) (.int i) = some (enc v) := by
            show L2.atI _ _ = _
            rw [encs_map, atI_map, e]
            rfl
          have st : (match asg (.v 3) (PyData.int i) [some (.val T), some (.val P), some (.val (enc t0)), x.map Sl.val] with
              | some e3 => exs (cal (all.map De.g) k) [.set 2 (.idx (.idx (.var 2) (.neg (.cst (.int 1)))) (.var 3))] e3
              | none => .no) = .nx [some (.val T), some (.val P), some (.val (enc v)), some (.val (.int i))] := by
            cases x <;> simp [asg, putV, exs, ex1, ev, two, brw, va_idx, va_var, Ex.var?, valOf, rd, Rs.bind, Rs.of, Sl.d, neg1, ol, hk, hi, Rs.ou, nxO, slOf, Ou.nxt]
          rw [List.map_cons, loop, st]
          exact z
  obtain ⟨x', z⟩ := lp p t none (enc t) (pd p) h
  have z' : loop (fun x e2 => match asg (.v 3) x e2 with
      | some e3 => exs (cal (all.map De.g) k) [.set 2 (.idx (.idx (.var 2) (.neg (.cst (.int 1)))) (.var 3))] e3
      | none => .no) (p.map PyData.int) [some (.val (enc t)), some (.val (pd p)), some (.val (enc t)), none] = _ := z
  have st : ex1 (cal (all.map De.g) k) (.for_ (.v 3) .it [(.var 1)] [.set 2 (.idx (.idx (.var 2) (.neg (.cst (.int 1)))) (.var 3))]) [some (.val (enc t)), some (.val (pd p)), some (.val (enc t)), none] = .nx [some (.val (enc t)), some (.val (pd p)), some (.val (enc u)), x'] := by
    rw [ex1]
    simp [evs, ev, frz, valOf, Rs.bind, Rs.ou]
    exact z'
  simp only [d_node_at, b_node_at]
  rw [exs, ex1]
  simp [ev, frz, entry, Rs.bind, Rs.ou, nxO, putV, slOf, Ou.nxt]
  rw [exs, st]
  simp [Ou.nxt, exs, ex1, ev, frz, valOf, Rs.bind, Rs.ou, fin, finR, outs]
end Rv.k08
end
section
/-! k08, mathematics 4: rooms. -/
namespace Rv.k08
open PySem Rv
def roomD : Tr → D
  | .own r _ => .int r
  | _ => .none
theorem room_at (k : Nat) (t u : Tr) (p : List Int) (h : at_ t p = some u) (hd : dep u ≤ 20) : run (all.map De.g) (k + 2) 3 [enc t, pd p] = .ret (roomD u) [] := by
  rw [run_def (g := d_room_at.g) rfl rfl]
  show fin d_room_at.g (exs _ b_room_at [some (.val (enc t)), some (.val (pd p)), none]) = _
  have sg : (cal (all.map De.g) (k + 1)).sig 2 = some ⟨2, []⟩ := rfl
  have rn : (cal (all.map De.g) (k + 1)).run 2 [enc t, pd p] = .ret (enc u) [] := node_at k t u p h
  have cl : ev (cal (all.map De.g) (k + 1)) (.call 2 [.var 0, .var 1]) [some (.val (enc t)), some (.val (pd p)), none] = .ok (false, enc u) [some (.val (enc t)), some (.val (pd p)), none] := by
    have nf : (cal (all.map De.g) (k + 1)).nw 2 = false := rfl
    simp [ev, sg, nf, evArs, frz, valOf, Rs.bind, runC, slotsOf, argDs, argD, rn, outOf, lay]
  have tst := e_own (c := cal (all.map De.g) (k + 1)) (j := 2) (t := u) (env := [some (.val (enc t)), some (.val (pd p)), some (.val (enc u))]) rfl hd va_glob (ev_glob (x := "OWN"))
  have st : ex1 (cal (all.map De.g) (k + 1)) (.set 2 (.call 2 [.var 0, .var 1])) [some (.val (enc t)), some (.val (pd p)), none] = .nx [some (.val (enc t)), some (.val (pd p)), some (.val (enc u))] := by
    rw [ex1, cl]
    rfl
  have bt : brw (.band (.cmp .NotEq (.var 2) (.tup [])) (.cmp .Eq (.idx (.var 2) (.cst (.int 0))) (.glob "OWN" (.str "own")))) (ev (cal (all.map De.g) (k + 1)) (.band (.cmp .NotEq (.var 2) (.tup [])) (.cmp .Eq (.idx (.var 2) (.cst (.int 0))) (.glob "OWN" (.str "own"))))) [some (.val (enc t)), some (.val (pd p)), some (.val (enc u))] =
      .ok (.bool (isOwn u)) [some (.val (enc t)), some (.val (pd p)), some (.val (enc u))] := by
    rw [brw, va_band]
    simp only [tst, valOf, Rs.bind]
  rw [b_room_at, exs, st]
  show fin d_room_at.g (exs _ _ _) = _
  rw [exs, ex1, ev, bt]
  cases u with
  | leaf => simp [isOwn, ev, Rs.bind, Rs.ou, Ou.nxt, tru, fin, finR, d_room_at, outs, roomD, valOf]
  | own r ts =>
    have hi : oIdx (enc (.own r ts)) (.int 1) = some (.int r) := by rw [enc]; rfl
    simp [isOwn, ev, two, va_var, brw, va_cst, rd, Rs.of, Sl.d, ol, hi, Rs.bind, Rs.ou, Ou.nxt, tru, fin, finR, d_room_at, outs, roomD, valOf]
  | oth ts => simp [isOwn, ev, Rs.bind, Rs.ou, Ou.nxt, tru, fin, finR, d_room_at, outs, roomD, valOf]
theorem subs_at : ∀ {p : List Int} {i : Nat} {ts : List Tr} {q : Nd}, q ∈ subs p i ts → ∃ j : Nat, q.1 = p ++ [((i + j : Nat) : Int)] ∧ ts[j]? = some q.2
  | p, i, t :: ts, q, h => by
    rcases List.mem_cons.mp h with rfl | h
    · exact ⟨0, rfl, rfl⟩
    · obtain ⟨j, h1, h2⟩ := subs_at h
      exact ⟨j + 1, by rw [h1, show i + 1 + j = i + (j + 1) by omega], by simpa using h2⟩
theorem at_pre : ∀ (n : Nat) (p : List Int) (t : Tr), dep t ≤ n → ∀ q ∈ pre p t, ∃ s, q.1 = p ++ s ∧ at_ t s = some q.2
  | n, p, t, hn, q, hq => by
    rw [pre_eq] at hq
    rcases List.mem_cons.mp hq with rfl | hq
    · exact ⟨[], by simp, rfl⟩
    · obtain ⟨u, hu, hq⟩ := List.mem_flatMap.mp hq
      have h1 := dep_kid (subs_mem hu).2
      obtain ⟨j, h2, h3⟩ := subs_at hu
      obtain ⟨s, h4, h5⟩ := at_pre (n - 1) u.1 u.2 (by omega) q hq
      refine ⟨((0 + j : Nat) : Int) :: s, by rw [h4, h2]; simp, ?_⟩
      have hk : L2.atI (kids t) ((0 + j : Nat) : Int) = some u.2 := by
        rw [Nat.zero_add]
        exact L2.atI_nat h3
      have hl : isLeaf t = false := by
        cases t with
        | leaf => cases h3
        | own r ts => rfl
        | oth ts => rfl
      rw [at_, hk, hl]
      exact h5
  termination_by n => n
  decreasing_by omega
theorem Good.at_ {t : Tr} (g : Good t) {q : Nd} (hq : q ∈ pre [] t) : k08.at_ t q.1 = some q.2 := by
  obtain ⟨s, h1, h2⟩ := at_pre 20 [] t (by have h : ([] : List Int).length + k08.dep t ≤ 20 := g.fine.lev; simpa using h) q hq
  rw [h1]
  exact h2
/-- own nodes -/
def owns (t : Tr) : List Nd := (pre [] t).filter fun q => isOwn q.2
def roomI : Tr → Int
  | .own r _ => r
  | _ => 0
theorem owns_mem {t : Tr} {q : Nd} (h : q ∈ owns t) : q ∈ pre [] t ∧ roomD q.2 = .int (roomI q.2) ∧ isOwn q.2 = true := by
  obtain ⟨h1, h2⟩ := List.mem_filter.mp h
  refine ⟨h1, ?_, h2⟩
  cases e : q.2 with
  | own r ts => rfl
  | leaf => rw [e] at h2; cases h2
  | oth ts => rw [e] at h2; cases h2
/-- a list comprehension over values, without a test -/
theorem comp_all {α : Type} {c : Cal} {i : Nat} {it elt : Ex} {env : Env} {W : List α} {en : α → D} {out : α → D} {xs : D} (hx : walk .it [xs] = some (W.map en)) (hit : ev c it env = .ok (false, xs) env) (hh : hide [i] env = some env) (hu : unhide [i] env env = env) (hw : W.length < 1000000)
    (hturn : ∀ q ∈ W, ∃ e2, asg (.v i) (en q) env = some e2 ∧ hide [i] e2 = some env ∧ valOf (ev c elt e2) = .ok (out q) e2) :
    ev c (.comp [i] (.v i) .it [it] elt) env = .ok (true, .list (W.map out)) env := by
  have tn : ∀ q ∈ W, cTurn [i] (.v i) (bodyOf (ev c elt)) (en q) env = .ok (some (out q)) env := fun q hq => by
    obtain ⟨e2, h1, h2, h3⟩ := hturn q hq
    simp [cTurn, h1, bodyOf, h3, Rs.bind, turnEnd, h2]
  have ts := turns_map en (fun q => some (out q)) env W tn
  rw [show W.filterMap (fun q => some (out q)) = W.map out from by rw [List.filterMap_eq_map']] at ts
  have sm : small (W.map out).length = true := by
    unfold small
    rw [PySem.sizeLine_eq, List.length_map]
    exact decide_eq_true (by omega)
  rw [ev]
  have hs : evs c [it] env = .ok [xs] env := by simp [evs, hit, valOf, Rs.bind]
  rw [hs]
  simp only [Rs.bind, hx, runComp, hh, ts, sm, hu, if_true]
theorem rooms_of (k : Nat) (t : Tr) (g : Good t) : run (all.map De.g) (k + 3) 4 [enc t] = .ret (.tuple ((once [] ((owns t).map fun q => PyData.int (roomI q.2))).mergeSort dle)) [] := by
  rw [run_def (g := d_rooms_of.g) rfl rfl]
  show fin d_rooms_of.g (exs _ b_rooms_of [some (.val (enc t)), none]) = _
  have lo : (owns t).length < 1000 := Nat.lt_of_le_of_lt (List.length_filter_le _ _) g.few
  have c1 : ev (cal (all.map De.g) (k + 2)) (.call 1 [.var 0]) [some (.val (enc t)), none] = .ok (false, .tuple ((owns t).map fun q => pd q.1)) [some (.val (enc t)), none] :=
    ev_call (n := 1) (ds := [enc t]) rfl (by simp [evs, ev, frz, valOf, Rs.bind]) rfl (own_nodes_of k t g)
  have cm := comp_all (c := cal (all.map De.g) (k + 2)) (i := 1) (elt := .call 3 [.var 0, .var 1]) (env := [some (.val (enc t)), none]) (W := owns t) (en := fun q => pd q.1) (out := fun q => PyData.int (roomI q.2)) rfl c1 rfl rfl (by omega) fun q hq => by
    obtain ⟨h1, h2, _⟩ := owns_mem hq
    refine ⟨[some (.val (enc t)), some (.val (pd q.1))], rfl, rfl, ?_⟩
    have := ev_call (c := cal (all.map De.g) (k + 2)) (f := 3) (n := 2) (es := [.var 0, .var 1]) (ds := [enc t, pd q.1]) (env := [some (.val (enc t)), some (.val (pd q.1))]) rfl (by simp [evs, ev, frz, valOf, Rs.bind]; rfl) rfl (room_at k t q.2 q.1 (g.at_ h1) (g.dep q h1))
    rw [this, h2]
    rfl
  have io : intsOf ((owns t).map fun q => PyData.int (roomI q.2)) = some ((owns t).map fun q => roomI q.2) := by
    induction owns t with
    | nil => rfl
    | cons q r ih =>
      rw [List.map_cons, List.map_cons, intsOf, ih]
      rfl
  obtain ⟨ms, m1, _, _⟩ := once_ints ((owns t).map fun q => roomI q.2) []
  rw [List.map_map] at m1
  have m1 : once [] ((owns t).map fun q => PyData.int (roomI q.2)) = ms.map PyData.int := m1
  have so : oB .sortedSet [.list ((owns t).map fun q => PyData.int (roomI q.2))] = some (.list ((once [] ((owns t).map fun q => PyData.int (roomI q.2))).mergeSort dle)) := by
    rw [sortedSet_ints io (by rw [List.length_map]; omega)]
    unfold oSort
    rw [m1, sortable_ints, if_pos rfl]
  simp only [b_rooms_of, exs, ex1]
  rw [ev, brw, va_blt]
  dsimp only
  rw [ev, brw]
  simp only [show (Ex.comp [1] (.v 1) .it [(.call 1 [(.var 0)])] (.call 3 [(.var 0), (.var 1)])).var? = none from rfl, cm, valOf, Rs.bind, nw, so, Rs.of, Option.map_some]
  simp [oB, isLD, Rs.ou, Ou.nxt, fin, finR, d_rooms_of, outs]
end Rv.k08
end
section
/-! k08, mathematics 5: actions_of, own_history. -/
namespace Rv.k08
open PySem Rv
def isRoom (r : Int) : Tr → Bool
  | .own r' _ => decide (r' = r)
  | _ => false
theorem shp_int (i j : Int) : shp2 (.int i) (.int j) = true := by
  unfold shp2
  simp [SeqAt.shaped, PyData.canLay0, PyData.depth]
theorem intsOf_map {α : Type} (f : α → Int) (l : List α) : intsOf (l.map fun q => PyData.int (f q)) = some (l.map f) := by
  induction l with
  | nil => rfl
  | cons q r ih =>
    rw [List.map_cons, List.map_cons, intsOf, ih]
    rfl
def wide (q : Nd) : Int := ((kids q.2).length : Nat)
/-! ### own_history -/
def here (i : Int) : Tr → List (Int × Int)
  | .own r _ => [(r, i)]
  | _ => []
def roomsTo (t : Tr) : List Int → List (Int × Int)
  | [] => []
  | i :: p => here i t ++ match L2.atI (kids t) i with
      | some u => roomsTo u p
      | none => []
theorem rooms_go {t u : Tr} {i : Int} {p : List Int} (h : L2.atI (kids t) i = some u) : roomsTo t (i :: p) = here i t ++ roomsTo u p := by
  rw [roomsTo, h]
def hpair (q : Int × Int) : D := .tuple [.int q.1, .int q.2]
end Rv.k08
end
section
/-! k08, mathematics 6: own_history. -/
namespace Rv.k08
open PySem Rv
theorem cut_to (xs : List D) (n : Nat) (h : n ≤ xs.length) : oSlc (.tuple xs) none (some (n : Int)) = some (.tuple (xs.take n)) := by
  show some (PyData.tuple (cut xs none (some (n : Int)))) = _
  unfold cut
  rw [HT.sIx_none, HT.sIx_nat, Nat.min_eq_left h, List.drop_zero, Nat.sub_zero]
theorem at_dep : ∀ (s : List Int) (t u : Tr), at_ t s = some u → dep u ≤ dep t
  | [], t, u, h => by cases h; exact Nat.le_refl _
  | i :: s, t, u, h => by
    rw [at_] at h
    cases e : L2.atI (kids t) i with
    | none => rw [e] at h; cases h
    | some v =>
      rw [e] at h
      cases hl : isLeaf t with
      | true => rw [hl] at h; cases h
      | false =>
        rw [hl] at h
        have h1 := at_dep s v u h
        have hv : v ∈ kids t := by
          unfold L2.atI at e
          cases q : L2.ixN (kids t).length i with
          | none => rw [q] at e; cases e
          | some j =>
            rw [q] at e
            exact List.mem_of_getElem? e
        have := dep_kid hv
        omega
theorem at_app : ∀ (s r : List Int) (t u : Tr), at_ t s = some u → at_ t (s ++ r) = at_ u r
  | [], r, t, u, h => by cases h; rfl
  | i :: s, r, t, u, h => by
    rw [at_] at h
    rw [List.cons_append, at_]
    cases e : L2.atI (kids t) i with
    | none => rw [e] at h; cases h
    | some v =>
      rw [e] at h
      cases hl : isLeaf t with
      | true => rw [hl] at h; cases h
      | false =>
        rw [hl] at h
        exact at_app s r v u h
def hEnv (T P : D) (fs : List (Int × Int)) (x y z : Option D) : Env := [some (.val T), some (.val P), some (.own (.list (fs.map hpair))), x.map Sl.val, y.map Sl.val, z.map Sl.val]
def hBody : List Sm := [.set 5 (.call 3 [(.var 0), (.slc (.var 1) [] [(.var 3)])]),
    .ite (.cmp .IsNot (.var 5) (.cst .none)) [.app 2 (.tup [(.var 5), (.var 4)])] []]
theorem h_body (k : Nat) (t u : Tr) (s r : List Int) (i : Int) (fs : List (Int × Int)) (z : Option D) (ht : dep t ≤ 20) (hs : at_ t s = some u) (hf : fs.length < 1000000) :
    exs (cal (all.map De.g) (k + 2)) hBody (hEnv (enc t) (pd (s ++ i :: r)) fs (some (.int (s.length : Nat))) (some (.int i)) z) =
      .nx (hEnv (enc t) (pd (s ++ i :: r)) (fs ++ here i u) (some (.int (s.length : Nat))) (some (.int i)) (some (roomD u))) := by
  have hd := at_dep s t u hs
  have sc : oSlc (pd (s ++ i :: r)) none (some ((s.length : Nat) : Int)) = some (pd s) := by
    unfold pd
    rw [cut_to _ _ (by simp), List.map_append, List.take_left' (by simp)]
  have es : evs (cal (all.map De.g) (k + 2)) [(.var 0), (.slc (.var 1) [] [(.var 3)])] (hEnv (enc t) (pd (s ++ i :: r)) fs (some (.int (s.length : Nat))) (some (.int i)) z) = .ok [enc t, pd s] (hEnv (enc t) (pd (s ++ i :: r)) fs (some (.int (s.length : Nat))) (some (.int i)) z) := by
    simp [hEnv, evs, ev, frz, valOf, Rs.bind, prt, part, Rs.of, nw, sc]
  have cl := ev_call (c := cal (all.map De.g) (k + 2)) (f := 3) (n := 2) rfl es rfl (room_at k t u s hs (by omega))
  have s1 : ex1 (cal (all.map De.g) (k + 2)) (.set 5 (.call 3 [(.var 0), (.slc (.var 1) [] [(.var 3)])])) (hEnv (enc t) (pd (s ++ i :: r)) fs (some (.int (s.length : Nat))) (some (.int i)) z) = .nx (hEnv (enc t) (pd (s ++ i :: r)) fs (some (.int (s.length : Nat))) (some (.int i)) (some (roomD u))) := by
    rw [ex1, cl]
    cases z <;> simp [Rs.ou, slOf, putV, nxO, hEnv]
  have sm : small (fs.length + 1) = true := by
    unfold small
    rw [PySem.sizeLine_eq]
    exact decide_eq_true (by omega)
  have sm2 : small 2 = true := by decide
  rw [hBody, exs, s1]
  show exs _ _ _ = _
  cases u with
  | leaf => simp [exs, ex1, brw, va_cmp, ev, two, va_var, va_cst, rd, hEnv, Rs.of, Rs.bind, valOf, Sl.d, ol, oCmp, isNone, roomD, dT, Rs.ou, tru, Ou.nxt, here]
  | oth ts => simp [exs, ex1, brw, va_cmp, ev, two, va_var, va_cst, rd, hEnv, Rs.of, Rs.bind, valOf, Sl.d, ol, oCmp, isNone, roomD, dT, Rs.ou, tru, Ou.nxt, here]
  | own r' ts => simp [exs, ex1, brw, va_cmp, ev, evs, frz, two, va_var, va_cst, rd, hEnv, Rs.of, Rs.bind, valOf, Sl.d, ol, oCmp, isNone, roomD, dT, Rs.ou, tru, Ou.nxt, recv, isLs, chg, app1, upSl, sm, sm2, hpair, here]
theorem h_loop (k : Nat) (t : Tr) (ht : dep t ≤ 20) : ∀ (r s : List Int) (u v : Tr) (fs : List (Int × Int)) (x y z : Option D), at_ t s = some u → at_ u r = some v → fs.length + r.length < 1000000 →
    ∃ x' y' z', loop (fun x e2 => match asg (.t [(.v 3), (.v 4)]) x e2 with
      | some e3 => exs (cal (all.map De.g) (k + 2)) hBody e3
      | none => .no) (enumG (fun i d => PyData.tuple [.int (i : Nat), d]) s.length (r.map PyData.int)) (hEnv (enc t) (pd (s ++ r)) fs x y z) = .nx (hEnv (enc t) (pd (s ++ r)) (fs ++ roomsTo u r) x' y' z')
  | [], s, u, v, fs, x, y, z, h1, h2, hf => ⟨x, y, z, by simp [roomsTo, enumG, loop]⟩
  | i :: r, s, u, v, fs, x, y, z, h1, h2, hf => by
    have h2' := h2
    rw [at_] at h2
    cases e : L2.atI (kids u) i with
    | none => rw [e] at h2; cases h2
    | some w =>
      rw [e] at h2
      cases hl : isLeaf u with
      | true => rw [hl] at h2; cases h2
      | false =>
        rw [hl] at h2
        have h2 : at_ w r = some v := h2
        have hw : at_ t (s ++ [i]) = some w := by
          rw [at_app s [i] t u h1, at_, e, hl]
          rfl
        have lf : (fs ++ here i u).length ≤ fs.length + 1 := by
          cases u <;> simp [here]
        have bd := h_body k t u s r i fs z ht h1 (by omega)
        have ag : asg (.t [(.v 3), (.v 4)]) (.tuple [.int (s.length : Nat), .int i]) (hEnv (enc t) (pd (s ++ i :: r)) fs x y z) = some (hEnv (enc t) (pd (s ++ i :: r)) fs (some (.int (s.length : Nat))) (some (.int i)) z) := by
          cases x <;> cases y <;> simp [asg, asgs, putV, hEnv]
        obtain ⟨x', y', z', q⟩ := h_loop k t ht r (s ++ [i]) w v _ (some (.int (s.length : Nat))) (some (.int i)) (some (roomD u)) hw h2 (Nat.lt_of_le_of_lt (Nat.add_le_add_right lf _) (by rw [List.length_cons] at hf; omega))
        refine ⟨x', y', z', ?_⟩
        rw [List.map_cons, enumG, loop]
        try dsimp only
        rw [ag]
        try dsimp only
        rw [bd]
        rw [List.length_append, List.append_assoc] at q
        rw [rooms_go e, ← List.append_assoc]
        exact q
theorem own_history (k : Nat) (t v : Tr) (p : List Int) (ht : dep t ≤ 20) (h : at_ t p = some v) (hp : p.length < 1000) : run (all.map De.g) (k + 3) 5 [enc t, pd p] = .ret (.tuple ((roomsTo t p).map hpair)) [] := by
  rw [run_def (g := d_own_history.g) rfl rfl]
  show fin d_own_history.g (exs _ [_, .for_ (.t [(.v 3), (.v 4)]) .enum [(.var 1)] hBody, .ret (.blt .tuple (.var 2))] (entry 4 [] [enc t, pd p])) = _
  have s0 : small 0 = true := by decide
  have s1 : ex1 (cal (all.map De.g) (k + 2)) (.set 2 (.lst [])) (entry 4 [] [enc t, pd p]) = .nx (hEnv (enc t) (pd p) [] none none none) := by
    simp [ex1, ev, evs, Rs.bind, Rs.ou, slOf, putV, nxO, hEnv, entry, s0]
  obtain ⟨x', y', z', q⟩ := h_loop k t ht p [] t v [] none none none rfl h (by simpa using Nat.lt_trans hp (by decide))
  have s2 : ex1 (cal (all.map De.g) (k + 2)) (.for_ (.t [(.v 3), (.v 4)]) .enum [(.var 1)] hBody) (hEnv (enc t) (pd p) [] none none none) = .nx (hEnv (enc t) (pd p) (roomsTo t p) x' y' z') := by
    rw [ex1]
    have es : evs (cal (all.map De.g) (k + 2)) [(.var 1)] (hEnv (enc t) (pd p) [] none none none) = .ok [pd p] (hEnv (enc t) (pd p) [] none none none) := by
      simp [evs, ev, frz, valOf, Rs.bind, hEnv]
    rw [es]
    have wk : walk .enum [pd p] = some (enumG (fun i d => PyData.tuple [.int (i : Nat), d]) 0 (p.map PyData.int)) := by
      rw [← zip_enum]
      rfl
    simp only [Rs.ou, wk]
    exact q
  rw [exs, s1]
  show fin _ (exs _ _ _) = _
  rw [exs, s2]
  show fin _ (exs _ _ _) = _
  simp [exs, ex1, ev, brw, va_var, rd, hEnv, Rs.of, Rs.bind, Sl.d, nw, oB, isLD, valOf, Rs.ou, Ou.nxt, fin, finR, d_own_history, outs]
end Rv.k08
end
section
/-! k08, mathematics 7: is_met_again, meets_twice. -/
namespace Rv.k08
open PySem Rv
/-- a list comprehension over tuples, without a test -/
theorem comp_two {α : Type} {c : Cal} {i j : Nat} {it elt : Ex} {env : Env} {W : List α} {en : α → D} {out : α → D} {xs : D} (hx : walk .it [xs] = some (W.map en)) (hit : ev c it env = .ok (false, xs) env) (hh : hide [i, j] env = some env) (hu : unhide [i, j] env env = env) (hw : W.length < 1000000)
    (hturn : ∀ q ∈ W, ∃ e2, asg (.t [.v i, .v j]) (en q) env = some e2 ∧ hide [i, j] e2 = some env ∧ valOf (ev c elt e2) = .ok (out q) e2) :
    ev c (.comp [i, j] (.t [.v i, .v j]) .it [it] elt) env = .ok (true, .list (W.map out)) env := by
  have tn : ∀ q ∈ W, cTurn [i, j] (.t [.v i, .v j]) (bodyOf (ev c elt)) (en q) env = .ok (some (out q)) env := fun q hq => by
    obtain ⟨e2, h1, h2, h3⟩ := hturn q hq
    simp [cTurn, h1, bodyOf, h3, Rs.bind, turnEnd, h2]
  have ts := turns_map en (fun q => some (out q)) env W tn
  rw [show W.filterMap (fun q => some (out q)) = W.map out from by rw [List.filterMap_eq_map']] at ts
  have sm : small (W.map out).length = true := by
    unfold small
    rw [PySem.sizeLine_eq, List.length_map]
    exact decide_eq_true (by omega)
  rw [ev]
  have hs : evs c [it] env = .ok [xs] env := by simp [evs, hit, valOf, Rs.bind]
  rw [hs]
  simp only [Rs.bind, hx, runComp, hh, ts, sm, hu, if_true]
theorem roomsTo_len : ∀ (p : List Int) (t : Tr), (roomsTo t p).length ≤ p.length
  | [], t => Nat.le_refl _
  | i :: p, t => by
    rw [roomsTo, List.length_append, List.length_cons]
    have h1 : (here i t).length ≤ 1 := by cases t <;> simp [here]
    cases e : L2.atI (kids t) i with
    | none => simp; omega
    | some u =>
      have := roomsTo_len p u
      show (here i t).length + (roomsTo u p).length ≤ _
      omega
theorem shp_rooms (r : Int) (l : List Int) : shp2 (.int r) (.list (l.map PyData.int)) = true := by
  unfold shp2 SeqAt.shaped
  rw [PyData.canLay0, PyData.canLay0, lay_ints, PyData.depth, PyData.depth, depth_ints]
  decide
theorem any_ints (r : Int) (l : List Int) : ((l.map PyData.int).any fun z => PyData.eqv z (.int r)) = decide (r ∈ l) := by
  induction l with
  | nil => rfl
  | cons x l ih =>
    rw [List.map_cons, List.any_cons, ih, eqv_int]
    by_cases h1 : x = r
    · subst h1; simp
    · have h2 : ¬ r = x := fun z => h1 z.symm
      simp [h1, h2]
end Rv.k08
end
section
/-! k08, mathematics 8: the pen. -/
namespace Rv.k08
open PySem Rv
def penD (g : List Int) (s d : Int) : D := .list [.list (g.map PyData.int), .int s, .int d]
theorem shp_gs (g : List Int) : shp2 (.list (g.map PyData.int)) (.list []) = true := by
  unfold shp2 SeqAt.shaped
  rw [PyData.canLay0, lay_ints, PyData.depth, depth_ints]
  decide
theorem mul_s1 (i j : Int) (h : j.natAbs < 2 ^ 60) : mulOk i j = true := by
  unfold mulOk
  rw [decide_eq_true h, Bool.or_true]
theorem mul_s2 (i j : Int) (h : i.natAbs < 2 ^ 60) : mulOk i j = true := by
  unfold mulOk
  rw [decide_eq_true h, Bool.or_true, Bool.true_or]
/-- the start: seat, the pen's seat moved on, the cell -/
theorem fresh_a (c : Cal) (g : List Int) (s d : Int) (h : 0 ≤ s) : ∃ cell : Int, exs c (b__law_fresh.take 3) [some (.io (penD g s d)), none, none, none, none, none, none, none] =
    .nx [some (.io (penD g (s + 1) d)), some (.val (.int cell)), none, none, none, none, some (.val (.int s)), some (.val (.list (g.map PyData.int)))] := by
  have s0 : small 0 = true := by decide
  have a1 : ∀ (x : D) (xs : List D), L2.atI (x :: xs) 0 = some x := fun x xs => L2.atI_nat (j := 0) rfl
  have a2 : L2.atI [PyData.list (g.map PyData.int), .int s, .int d] 1 = some (.int s) := L2.atI_nat (j := 1) rfl
  have p1 : ex1 c (.par [6, 7] [(.idx (.var 0) (.cst (.int 1))), (.idx (.var 0) (.cst (.int 0)))]) [some (.io (penD g s d)), none, none, none, none, none, none, none] = .nx [some (.io (penD g s d)), none, none, none, none, none, some (.val (.int s)), some (.val (.list (g.map PyData.int)))] := by
    simp [ex1, evL, ev, two, brw, va_var, va_cst, rd, Rs.of, Rs.bind, Sl.d, valOf, ol, oIdx, penD, a1, a2, Rs.ou, nxO, putL, putV, slOf]
  have i1 : L2.ixN 3 1 = some 1 := by decide
  have p2 : ex1 c (.put 0 (.cst (.int 1)) (.bin .Add (.var 6) (.cst (.int 1)))) [some (.io (penD g s d)), none, none, none, none, none, some (.val (.int s)), some (.val (.list (g.map PyData.int)))] = .nx [some (.io (penD g (s + 1) d)), none, none, none, none, none, some (.val (.int s)), some (.val (.list (g.map PyData.int)))] := by
    simp [ex1, ev, two, brw, va_var, va_cst, rd, Rs.of, Rs.bind, Sl.d, valOf, nw, oBin, isLD, penD, Rs.ou, nxO, recv, chg, putIx, i1, upSl]
  by_cases hg : g = []
  · subst hg
    refine ⟨0, ?_⟩
    have p3 : ex1 c (.set 1 (.ite (.cmp .NotEq (.var 7) (.lst [])) (.idx (.var 7) (.bin .Mod (.blt .int (.var 6)) (.blt .len (.var 7)))) (.cst (.int 0)))) [some (.io (penD [] (s + 1) d)), none, none, none, none, none, some (.val (.int s)), some (.val (.list []))] = .nx [some (.io (penD [] (s + 1) d)), some (.val (.int 0)), none, none, none, none, some (.val (.int s)), some (.val (.list []))] := by
      simp [ex1, ev, evs, two, brw, va_var, va_cst, va_cmp, va_lst, rd, Rs.of, Rs.bind, Sl.d, valOf, ol, cmp_ne (show shp2 (.list []) (.list []) = true from shp_gs []), ne_nil, s0, tru, Rs.ou, nxO, putV, slOf]
    show exs c [_, _, _] _ = _
    rw [exs, p1, nxt_nx, exs]
    rw [p2, nxt_nx, exs]
    rw [show ([] : List Int).map PyData.int = [] from rfl, p3]
    rfl
  · have hl : 0 < (g.length : Int) := by
      have := List.length_pos_iff.mpr hg
      omega
    have hl2 : 0 < g.length := by omega
    have hm0 := Int.emod_nonneg s (Int.ne_of_gt hl)
    have hm1 := Int.emod_lt_of_pos s hl
    obtain ⟨j, hj⟩ := Int.eq_ofNat_of_zero_le hm0
    have hj2 : j < g.length := by omega
    refine ⟨g[j], ?_⟩
    have ix : L2.atI (g.map PyData.int) (s % (g.length : Int)) = some (.int g[j]) := by
      rw [hj]
      refine L2.atI_nat ?_
      rw [List.getElem?_map, List.getElem?_eq_getElem hj2]
      rfl
    have em : (g.map PyData.int).isEmpty = false := by
      cases g with
      | nil => exact absurd rfl hg
      | cons x r => rfl
    have p3 : ex1 c (.set 1 (.ite (.cmp .NotEq (.var 7) (.lst [])) (.idx (.var 7) (.bin .Mod (.blt .int (.var 6)) (.blt .len (.var 7)))) (.cst (.int 0)))) [some (.io (penD g (s + 1) d)), none, none, none, none, none, some (.val (.int s)), some (.val (.list (g.map PyData.int)))] = .nx [some (.io (penD g (s + 1) d)), some (.val (.int g[j])), none, none, none, none, some (.val (.int s)), some (.val (.list (g.map PyData.int)))] := by
      simp [ex1, ev, evs, two, brw, va_var, va_cst, va_cmp, va_lst, va_bin, va_blt, rd, Rs.of, Rs.bind, Sl.d, valOf, ol, nw, oB, oBin, isLD, oIdx, cmp_ne (shp_gs g), ne_nil, em, s0, tru, hl, hl2, ix, Rs.ou, nxO, putV, slOf]
    show exs c [_, _, _] _ = _
    rw [exs, p1, nxt_nx, exs]
    rw [p2, nxt_nx, exs, p3]
    rfl
/-- the prime -/
abbrev prime : Int := 2305843009213693951
def fLap : List Sm := [.set 3 (.bin .Mod (.blt .int (.bin .Add (.bin .Add (.bin .Mult (.var 3) (.var 3)) (.bin .Mult (.bin .Mult (.cst (.int 70139)) (.bin .Add (.var 5) (.cst (.int 5)))) (.bin .Add (.var 6) (.cst (.int 1))))) (.var 1))) (.var 2)),
    .set 4 (.bin .Add (.bin .Mult (.var 4) (.var 2)) (.var 3))]
theorem mul_small {i j : Int} (h1 : i.natAbs < 2 ^ 10000) (h2 : j.natAbs < 2 ^ 10000) : mulOk i j = true := by
  have l : ∀ n : Nat, n < 2 ^ 10000 → n.log2 ≤ 10000 := fun n h => by
    by_cases hn : n = 0
    · subst hn; decide
    · exact Nat.le_of_lt ((Nat.log2_lt hn).mpr h)
  have := l _ h1
  have := l _ h2
  unfold mulOk
  rw [decide_eq_true (show i.natAbs.log2 + j.natAbs.log2 < 1000000 by omega), Bool.true_or, Bool.true_or]
end Rv.k08
end
section
/-! k08, mathematics 9: _law_fresh. -/
namespace Rv.k08
open PySem Rv
def fEnv (P : D) (cell st fo s : Int) (lap : Option Int) (g : D) : Env := [some (.io P), some (.val (.int cell)), some (.val (.int prime)), some (.val (.int st)), some (.val (.int fo)), lap.map fun l => Sl.val (.int l), some (.val (.int s)), some (.val g)]
theorem nat_prime : prime.natAbs < 2 ^ 61 := by decide
theorem f_lap (c : Cal) (P g : D) (cell st fo s l : Int) (n : Nat) (h1 : 0 ≤ st) (h2 : st < prime) (h3 : 0 ≤ fo) (h4 : fo < prime ^ (n + 1)) (hn : n ≤ 6) (hl : 0 ≤ l) (hl2 : l < 6) :
    ∃ st' fo', 0 ≤ st' ∧ st' < prime ∧ 0 ≤ fo' ∧ fo' < prime ^ (n + 2) ∧ exs c fLap (fEnv P cell st fo s (some l) g) = .nx (fEnv P cell st' fo' s (some l) g) := by
  have pe : prime = 2305843009213693951 := rfl
  have pp0 : 0 < prime := by decide
  have b1 : mulOk st st = true := mul_small (Nat.lt_of_lt_of_le (by omega : st.natAbs < 2 ^ 61) (Nat.pow_le_pow_right (by decide) (by decide))) (Nat.lt_of_lt_of_le (by omega : st.natAbs < 2 ^ 61) (Nat.pow_le_pow_right (by decide) (by decide)))
  have b2 : mulOk 70139 (l + 5) = true := mul_s2 _ _ (by decide)
  have b3 : mulOk (70139 * (l + 5)) (s + 1) = true := mul_s2 _ _ (by omega)
  have p7 : prime ^ (n + 1) ≤ prime ^ 7 := by
    have : n = 0 ∨ n = 1 ∨ n = 2 ∨ n = 3 ∨ n = 4 ∨ n = 5 ∨ n = 6 := by omega
    rcases this with rfl | rfl | rfl | rfl | rfl | rfl | rfl <;> decide
  have fb : fo.natAbs < 2 ^ 10000 := by
    have : fo < prime ^ 7 := Int.lt_of_lt_of_le h4 p7
    have e : (prime ^ 7 : Int) < 2 ^ 430 := by decide
    have : fo < 2 ^ 430 := Int.lt_trans this e
    have : fo.natAbs < 2 ^ 430 := by omega
    exact Nat.lt_of_lt_of_le this (Nat.pow_le_pow_right (by decide) (by decide))
  have b4 : mulOk fo prime = true := mul_small fb (Nat.lt_of_lt_of_le nat_prime (Nat.pow_le_pow_right (by decide) (by decide)))
  have q0 := Int.emod_nonneg (st * st + 70139 * (l + 5) * (s + 1) + cell) (show prime ≠ 0 by decide)
  have q1 := Int.emod_lt_of_pos (st * st + 70139 * (l + 5) * (s + 1) + cell) (show 0 < prime by decide)
  refine ⟨(st * st + 70139 * (l + 5) * (s + 1) + cell) % prime, fo * prime + (st * st + 70139 * (l + 5) * (s + 1) + cell) % prime, q0, q1, by
    have := Int.mul_nonneg h3 (show 0 ≤ prime by decide)
    omega, ?_, ?_⟩
  · have e : prime ^ (n + 2) = prime ^ (n + 1) * prime := Int.pow_succ _ _
    rw [e]
    have h5 : (fo + 1) * prime ≤ prime ^ (n + 1) * prime := Int.mul_le_mul_of_nonneg_right (by omega) (by decide)
    rw [Int.add_mul] at h5
    omega
  · simp [fLap, exs, ex1, fEnv, ev, two, brw, va_var, va_cst, va_bin, va_blt, rd, Rs.of, Rs.bind, Sl.d, valOf, nw, oBin, oB, isLD, b1, b2, b3, b4, pp0, Rs.ou, nxO, putV, slOf, Ou.nxt]
end Rv.k08
end
section
/-! k08, mathematics 10: _law_fresh. -/
namespace Rv.k08
open PySem Rv
structure Bd (n : Nat) (st fo : Int) : Prop where
  a : 0 ≤ st
  b : st < prime
  c : 0 ≤ fo
  d : fo < prime ^ (n + 1)
theorem f_lap2 (c : Cal) (P g : D) (cell st fo s l : Int) (n : Nat) (h : Bd n st fo) (hn : n ≤ 6) (hl : 0 ≤ l ∧ l < 6) : ∃ st' fo', Bd (n + 1) st' fo' ∧ exs c fLap (fEnv P cell st fo s (some l) g) = .nx (fEnv P cell st' fo' s (some l) g) := by
  obtain ⟨st', fo', k1, k2, k3, k4, bd⟩ := f_lap c P g cell st fo s l n h.a h.b h.c h.d hn hl.1 hl.2
  exact ⟨st', fo', ⟨k1, k2, k3, k4⟩, bd⟩
theorem f_put (P : D) (cell st fo s l : Int) (lap : Option Int) (g : D) : asg (.v 5) (.int l) (fEnv P cell st fo s lap g) = some (fEnv P cell st fo s (some l) g) := by
  cases lap <;> simp [asg, putV, fEnv]
noncomputable def fStep (c : Cal) : D → Env → Ou := fun x e2 => match asg (.v 5) x e2 with
  | some e3 => exs c fLap e3
  | none => .no
theorem f_loop (c : Cal) (P g : D) (cell s : Int) (ls : List Int) : ∀ (n : Nat) (st fo : Int) (lap : Option Int), (∀ l ∈ ls, 0 ≤ l ∧ l < 6) → n + ls.length ≤ 6 → Bd n st fo →
    ∃ st' fo' lap', loop (fStep c) (ls.map PyData.int) (fEnv P cell st fo s lap g) = .nx (fEnv P cell st' fo' s lap' g) := by
  induction ls with
  | nil => intro n st fo lap _ _ _; exact ⟨st, fo, lap, rfl⟩
  | cons l ls ih =>
    intro n st fo lap h0 hn h
    rw [List.length_cons] at hn
    obtain ⟨st', fo', k, bd⟩ := f_lap2 c P g cell st fo s l n h (by omega) (h0 l List.mem_cons_self)
    obtain ⟨st2, fo2, lap2, q⟩ := ih (n + 1) st' fo' (some l) (fun l hl => h0 l (List.mem_cons_of_mem _ hl)) (by omega) k
    refine ⟨st2, fo2, lap2, ?_⟩
    rw [List.map_cons, loop]
    have : fStep c (.int l) (fEnv P cell st fo s lap g) = .nx (fEnv P cell st' fo' s (some l) g) := by
      unfold fStep
      rw [f_put]
      exact bd
    rw [this]
    exact q
theorem f_test (c : Cal) (e18 : Ex) (pv : e18.var? = none) (pw : ∀ env, ev c e18 env = .ok (false, .int (1000000000000000000)) env) (P : D) (cell s : Int) (g : List Int) :
    ex1 c (.ite (.band (.cmp .Lt (.var 6) (.blt .len (.var 7))) (.cmp .GtE (.var 1) e18)) [.ret (.bin .Sub (.var 1) e18)] []) [some (.io P), some (.val (.int cell)), none, none, none, none, some (.val (.int s)), some (.val (.list (g.map PyData.int)))] =
      if s < (g.length : Int) ∧ 1000000000000000000 ≤ cell then .rt (.int (cell - 1000000000000000000)) [some (.io P), some (.val (.int cell)), none, none, none, none, some (.val (.int s)), some (.val (.list (g.map PyData.int)))]
      else .nx [some (.io P), some (.val (.int cell)), none, none, none, none, some (.val (.int s)), some (.val (.list (g.map PyData.int)))] := by
  by_cases c1 : s < (g.length : Int)
  · by_cases c2 : cell < 1000000000000000000
    · rw [if_neg (by omega)]
      simp [ex1, exs, ev, two, brw, va_var, va_blt, va_band, pv, pw, rd, Rs.of, Rs.bind, Sl.d, valOf, nw, ol, oB, isLD, oCmp, lt1, dT, tru, c1, c2, Rs.ou]
    · rw [if_pos (by omega)]
      simp [ex1, exs, ev, two, brw, va_var, va_blt, va_band, pv, pw, rd, Rs.of, Rs.bind, Sl.d, valOf, nw, ol, oB, oBin, isLD, oCmp, lt1, dT, tru, c1, c2, Rs.ou, Ou.nxt]
  · rw [if_neg (by omega)]
    simp [ex1, exs, ev, two, brw, va_var, va_blt, va_band, pv, pw, rd, Rs.of, Rs.bind, Sl.d, valOf, nw, ol, oB, isLD, oCmp, lt1, dT, tru, c1, Rs.ou]
/-- _law_fresh: some number; the pen's seat has moved on -/
theorem fresh (k : Nat) (g : List Int) (s d : Int) (h : 0 ≤ s) : ∃ f : Int, run (all.map De.g) (k + 1) 12 [penD g s d] = .ret (.int f) [penD g (s + 1) d] := by
  rw [run_def (g := d__law_fresh.g) rfl rfl]
  obtain ⟨cell, e1⟩ := fresh_a (cal (all.map De.g) k) g s d h
  have app : ∀ (a b : List Sm) (env env' : Env), exs (cal (all.map De.g) k) a env = .nx env' → exs (cal (all.map De.g) k) (a ++ b) env = exs (cal (all.map De.g) k) b env' := by
    intro a b
    induction a with
    | nil => intro env env' q; rw [exs] at q; cases q; rfl
    | cons x a ih =>
      intro env env' q
      rw [exs] at q
      rw [List.cons_append, exs]
      cases z : ex1 (cal (all.map De.g) k) x env with
      | no => rw [z] at q; cases q
      | nx e => rw [z] at q; exact ih e env' q
      | rt d e => rw [z] at q; cases q
      | ex y e => rw [z] at q; cases q
  have e2 := app (b__law_fresh.take 3) (b__law_fresh.drop 3) _ _ e1
  rw [List.take_append_drop] at e2
  show ∃ f : Int, fin d__law_fresh.g (exs _ b__law_fresh [some (.io (penD g s d)), none, none, none, none, none, none, none]) = _
  rw [e2]
  have pw : ∀ env, ev (cal (all.map De.g) k) (.bin .Pow (.cst (.int 10)) (.cst (.int 18))) env = .ok (false, .int 1000000000000000000) env := fun env => by
    have p : oBin .Pow (.int 10) (.int 18) = some (.int 1000000000000000000) := by
      show (if powOk 10 18 then some (PyData.int (10 ^ (18 : Int).toNat)) else none) = _
      rw [show powOk 10 18 = true by decide +kernel]
      rfl
    rw [ev, two, va_cst]
    simp [ev_cst, valOf, Rs.bind, brw, va_cst, p, nw, Rs.of, isLD]
  have ft := f_test (cal (all.map De.g) k) (.bin .Pow (.cst (.int 10)) (.cst (.int 18))) va_bin pw (penD g (s + 1) d) cell s g
  have dr : b__law_fresh.drop 3 = (.ite (.band (.cmp .Lt (.var 6) (.blt .len (.var 7))) (.cmp .GtE (.var 1) (.bin .Pow (.cst (.int 10)) (.cst (.int 18))))) [.ret (.bin .Sub (.var 1) (.bin .Pow (.cst (.int 10)) (.cst (.int 18))))] []) ::
      [.set 2 (.cst (.int prime)),
      .set 3 (.bin .Mod (.blt .int (.bin .Add (.bin .Add (.bin .Mult (.var 1) (.cst (.int 48271))) (.bin .Mult (.cst (.int 60013)) (.var 6))) (.cst (.int 31)))) (.var 2)),
      .set 4 (.var 3),
      .for_ (.v 5) .rng1 [(.cst (.int 6))] fLap,
      .ret (.var 4)] := rfl
  rw [dr, exs, ft]
  by_cases c1 : s < (g.length : Int) ∧ 1000000000000000000 ≤ cell
  · rw [if_pos c1]
    exact ⟨cell - 1000000000000000000, rfl⟩
  · rw [if_neg c1, nxt_nx]
    have pp0 : 0 < prime := by decide
    have m1 : mulOk cell 48271 = true := mul_s1 _ _ (by decide)
    have m2 : mulOk 60013 s = true := mul_s2 _ _ (by decide)
    have q0 := Int.emod_nonneg (cell * 48271 + 60013 * s + 31) (show prime ≠ 0 by decide)
    have q1 := Int.emod_lt_of_pos (cell * 48271 + 60013 * s + 31) pp0
    have s1 : exs (cal (all.map De.g) k) [.set 2 (.cst (.int prime)), .set 3 (.bin .Mod (.blt .int (.bin .Add (.bin .Add (.bin .Mult (.var 1) (.cst (.int 48271))) (.bin .Mult (.cst (.int 60013)) (.var 6))) (.cst (.int 31)))) (.var 2)), .set 4 (.var 3)]
        [some (.io (penD g (s + 1) d)), some (.val (.int cell)), none, none, none, none, some (.val (.int s)), some (.val (.list (g.map PyData.int)))] = .nx (fEnv (penD g (s + 1) d) cell ((cell * 48271 + 60013 * s + 31) % prime) ((cell * 48271 + 60013 * s + 31) % prime) s none (.list (g.map PyData.int))) := by
      simp [exs, ex1, fEnv, ev, frz, two, brw, va_var, va_cst, va_bin, va_blt, rd, Rs.of, Rs.bind, Sl.d, valOf, nw, oBin, oB, isLD, m1, m2, pp0, Rs.ou, nxO, putV, slOf, Ou.nxt]
    have e3 := app _ [.for_ (.v 5) .rng1 [(.cst (.int 6))] fLap, .ret (.var 4)] _ _ s1
    obtain ⟨st', fo', lap', lp⟩ := f_loop (cal (all.map De.g) k) (penD g (s + 1) d) (.list (g.map PyData.int)) cell s [0, 1, 2, 3, 4, 5] 0 _ _ none (by decide) (by decide) ⟨q0, q1, q0, by rw [Int.pow_succ, Int.pow_zero, Int.one_mul]; exact q1⟩
    have s2 : ex1 (cal (all.map De.g) k) (.for_ (.v 5) .rng1 [(.cst (.int 6))] fLap) (fEnv (penD g (s + 1) d) cell ((cell * 48271 + 60013 * s + 31) % prime) ((cell * 48271 + 60013 * s + 31) % prime) s none (.list (g.map PyData.int))) = .nx (fEnv (penD g (s + 1) d) cell st' fo' s lap' (.list (g.map PyData.int))) := by
      rw [ex1]
      have es : ∀ env, evs (cal (all.map De.g) k) [(.cst (.int 6))] env = .ok [.int 6] env := fun env => by simp [evs, ev_cst, valOf, Rs.bind]
      rw [es]
      have wk : walk .rng1 [.int 6] = some ([0, 1, 2, 3, 4, 5].map PyData.int) := rfl
      simp only [Rs.ou, wk]
      exact lp
    refine ⟨fo', ?_⟩
    show fin _ (exs _ ([_, _, _] ++ [_, _]) _) = _
    rw [e3, exs, s2, nxt_nx]
    simp [exs, ex1, ev, frz, fEnv, Rs.bind, valOf, Rs.ou, Ou.nxt, fin, finR, d__law_fresh, outs]
end Rv.k08
end
section
/-! k08, mathematics 11: _law_draw, _law_one_of. -/
namespace Rv.k08
open PySem Rv
theorem pen2 (g : List Int) (s d : Int) : L2.atI [PyData.list (g.map PyData.int), .int s, .int d] 2 = some (.int d) := L2.atI_nat (j := 2) rfl
theorem draw_a (k : Nat) (g : List Int) (s d b : Int) (h : 0 ≤ s) : ∃ s' d', 0 ≤ s' ∧ ex1 (cal (all.map De.g) (k + 1)) (.ite (.cmp .Lt (.idx (.var 0) (.cst (.int 2))) (.var 1)) [.put 0 (.cst (.int 2)) (.call 12 [(.var 0)])] []) [some (.io (penD g s d)), some (.val (.int b)), none] =
    .nx [some (.io (penD g s' d')), some (.val (.int b)), none] := by
  by_cases c : d < b
  · obtain ⟨f, hf⟩ := fresh k g s d h
    refine ⟨s + 1, f, by omega, ?_⟩
    have cl := ev_callS (c := cal (all.map De.g) (k + 1)) (f := 12) (n := 1) (es := []) (ds := []) (i := 0) (P' := penD g (s + 1) d) (s := .io (penD g s d)) (s' := .io (penD g (s + 1) d)) (env := [some (.io (penD g s d)), some (.val (.int b)), none]) rfl ⟨penD g s d, rfl⟩ (by rw [evs]) rfl rfl rfl hf rfl
    have i2 : L2.ixN 3 2 = some 2 := by decide
    have st : ex1 (cal (all.map De.g) (k + 1)) (.put 0 (.cst (.int 2)) (.call 12 [(.var 0)])) [some (.io (penD g s d)), some (.val (.int b)), none] = .nx [some (.io (penD g (s + 1) f)), some (.val (.int b)), none] := by
      rw [ex1, cl]
      simp [Rs.ou, valOf, Rs.bind, recv, va_var, rd, Rs.of, ev_cst, chg, Sl.d, penD, putIx, i2, upSl]
    have ts : brw (.cmp .Lt (.idx (.var 0) (.cst (.int 2))) (.var 1)) (ev (cal (all.map De.g) (k + 1)) (.cmp .Lt (.idx (.var 0) (.cst (.int 2))) (.var 1))) [some (.io (penD g s d)), some (.val (.int b)), none] = .ok (.bool true) [some (.io (penD g s d)), some (.val (.int b)), none] := by
      simp [brw, va_cmp, ev, two, va_idx, va_var, va_cst, rd, Rs.of, Rs.bind, Sl.d, valOf, ol, oIdx, penD, pen2, oCmp, lt1, dT, c]
    rw [ex1, ts]
    simp only [Rs.ou, tru, exs, st, Ou.nxt]
  · refine ⟨s, d, h, ?_⟩
    have ts : brw (.cmp .Lt (.idx (.var 0) (.cst (.int 2))) (.var 1)) (ev (cal (all.map De.g) (k + 1)) (.cmp .Lt (.idx (.var 0) (.cst (.int 2))) (.var 1))) [some (.io (penD g s d)), some (.val (.int b)), none] = .ok (.bool false) [some (.io (penD g s d)), some (.val (.int b)), none] := by
      simp [brw, va_cmp, ev, two, va_idx, va_var, va_cst, rd, Rs.of, Rs.bind, Sl.d, valOf, ol, oIdx, penD, pen2, oCmp, lt1, dT, c]
    rw [ex1, ts]
    simp [Rs.ou, tru, exs]
/-- _law_draw -/
theorem draw (k : Nat) (g : List Int) (s d b : Int) (h : 0 ≤ s) (hb : 0 < b) (hb2 : b < 1000) : ∃ x s' d', 0 ≤ x ∧ x < b ∧ 0 ≤ s' ∧ run (all.map De.g) (k + 2) 13 [penD g s d, .int b] = .ret (.int x) [penD g s' d'] := by
  rw [run_def (g := d__law_draw.g) rfl rfl]
  obtain ⟨s', d', h', st⟩ := draw_a k g s d b h
  refine ⟨d' % b, s', d' / b, Int.emod_nonneg _ (by omega), Int.emod_lt_of_pos _ hb, h', ?_⟩
  have dv : divOk b = true := by
    unfold divOk
    rw [decide_eq_true hb, Bool.true_and, decide_eq_true_eq]
    exact Nat.lt_of_le_of_lt (Nat.log2_le_self _) (by omega)
  have i2 : L2.ixN 3 2 = some 2 := by decide
  show fin d__law_draw.g (exs _ b__law_draw [some (.io (penD g s d)), some (.val (.int b)), none]) = _
  rw [b__law_draw, exs, st, nxt_nx]
  simp [exs, ex1, ev, frz, two, brw, va_var, va_cst, va_blt, va_idx, rd, Rs.of, Rs.bind, Sl.d, valOf, nw, ol, oIdx, penD, pen2, oBin, oB, isLD, hb, dv, Rs.ou, nxO, putV, slOf, Ou.nxt, recv, chg, putIx, i2, upSl, fin, finR, d__law_draw, outs]
end Rv.k08
end
section
/-! k08, mathematics 12: _law_one_of. -/
namespace Rv.k08
open PySem Rv
theorem one_of (k : Nat) (g : List Int) (s d : Int) (xs : List D) (h : 0 ≤ s) (hx : xs ≠ []) (hl : xs.length < 1000) : ∃ x s' d', x ∈ xs ∧ 0 ≤ s' ∧ run (all.map De.g) (k + 3) 14 [penD g s d, .list xs] = .ret x [penD g s' d'] := by
  rw [run_def (g := d__law_one_of.g) rfl rfl]
  have l0 := List.length_pos_iff.mpr hx
  obtain ⟨x, s', d', h1, h2, h3, hr⟩ := draw k g s d (xs.length : Nat) h (by omega) (by omega)
  obtain ⟨j, hj⟩ := Int.eq_ofNat_of_zero_le h1
  subst hj
  have hj : j < xs.length := by omega
  refine ⟨xs[j], s', d', List.getElem_mem hj, h3, ?_⟩
  have es : evs (cal (all.map De.g) (k + 2)) [(.blt .len (.var 1))] [some (.io (penD g s d)), some (.val (.list xs))] = .ok [.int (xs.length : Nat)] [some (.io (penD g s d)), some (.val (.list xs))] := by
    simp [evs, ev, brw, va_var, rd, Rs.of, Rs.bind, Sl.d, nw, oB, isLD, valOf]
  have cl := ev_callS (c := cal (all.map De.g) (k + 2)) (f := 13) (n := 2) (i := 0) (P' := penD g s' d') (s := .io (penD g s d)) (s' := .io (penD g s' d')) rfl ⟨penD g s d, rfl⟩ es rfl rfl rfl hr rfl
  have ix : L2.atI xs ((j : Nat) : Int) = some xs[j] := L2.atI_nat (List.getElem?_eq_getElem hj)
  show fin d__law_one_of.g (exs _ b__law_one_of [some (.io (penD g s d)), some (.val (.list xs))]) = _
  rw [b__law_one_of, exs, ex1, ev, two, va_var]
  dsimp only
  rw [show rd 1 [some (.io (penD g s d)), some (.val (.list xs))] = some (.list xs) from rfl]
  simp only [Rs.of, Rs.bind]
  rw [brw, va_call]
  dsimp only
  rw [cl]
  simp [valOf, Rs.bind, rd, Sl.d, Rs.of, ol, oIdx, ix, Rs.ou, Ou.nxt, fin, finR, d__law_one_of, outs]
end Rv.k08
end
section
/-! k08, mathematics 13: _law_is_node. -/
namespace Rv.k08
open PySem Rv
theorem eqv_i (i j : Int) : PyData.eqv (.int i) (.int j) = decide (i = j) := eqv_int i j
/-- _law_is_marked, a tuple of another length -/
theorem marked_no (k : Nat) (xs : List D) (w : Str) (m : Int) (h : (xs.length : Int) ≠ m) : run (all.map De.g) (k + 1) 16 [.tuple xs, .str w, .int m] = .ret (.bool false) [] := by
  rw [run_def (g := d__law_is_marked.g) rfl rfl]
  show fin d__law_is_marked.g (exs _ b__law_is_marked [some (.val (.tuple xs)), some (.val (.str w)), some (.val (.int m))]) = _
  simp [b__law_is_marked, exs, ex1, ev, two, brw, va_var, va_cst, va_blt, va_isi, va_idx, rd, Rs.of, Rs.bind, Sl.d, valOf, nw, ol, oB, isLD, oIs, dT, tru, cmp_eq (shp_int (xs.length : Int) m), eqv_i, h, Rs.ou, Ou.nxt, fin, finR, d__law_is_marked, outs]
theorem marked_yes (k : Nat) (y w : Str) (xs : List D) (m : Int) (h : ((xs.length + 1 : Nat) : Int) = m) (hy : y = "own" ∨ y = "theirs") (hw : w = "own" ∨ w = "theirs") : run (all.map De.g) (k + 1) 16 [.tuple (.str y :: xs), .str w, .int m] = .ret (.bool (y == w)) [] := by
  rw [run_def (g := d__law_is_marked.g) rfl rfl]
  have hi : oIdx (.tuple (.str y :: xs)) (.int 0) = some (.str y) := L2.atI_nat (j := 0) rfl
  subst h
  show fin d__law_is_marked.g (exs _ b__law_is_marked [some (.val (.tuple (.str y :: xs))), some (.val (.str w)), some (.val (.int ((xs.length + 1 : Nat) : Int)))]) = _
  have ce := cmp_eq (shp_int ((xs.length + 1 : Nat) : Int) ((xs.length + 1 : Nat) : Int))
  rw [eqv_i, decide_eq_true rfl] at ce
  have ln : oB .len [.tuple (.str y :: xs)] = some (.int ((xs.length + 1 : Nat) : Int)) := rfl
  have cs := cmp_eq (shp_marks hy hw)
  have es : PyData.eqv (.str y) (.str w) = (y == w) := by simp [PyData.eqv]
  rw [es] at cs
  simp only [b__law_is_marked, exs, ex1, ev, two, brw, va_var, va_cst, va_blt, va_isi, va_idx, rd, Rs.of, Rs.bind, Sl.d, valOf, nw, ol, ln, isLD, oIs, dT, tru, ce, hi, cs, Rs.ou, Ou.nxt, List.getElem?_cons_zero, List.getElem?_cons_succ, Option.map_some]
  rfl
end Rv.k08
end
section
/-! k08, mathematics 14: _law_is_node. -/
namespace Rv.k08
open PySem Rv
/-- a node as the law will have it -/
def okN : Tr → Prop
  | .leaf => True
  | .own r ts => 0 ≤ r ∧ r ≤ 9 ∧ 2 ≤ ts.length ∧ ts.length ≤ 4
  | .oth ts => 2 ≤ ts.length ∧ ts.length ≤ 4
theorem whole (k : Nat) (v lo hi : Int) (h1 : lo ≤ v) (h2 : v ≤ hi) : run (all.map De.g) (k + 1) 15 [.int v, .int lo, .int hi] = .ret (.bool true) [] := by
  rw [run_def (g := d__law_whole.g) rfl rfl]
  show fin d__law_whole.g (exs _ b__law_whole [some (.val (.int v)), some (.val (.int lo)), some (.val (.int hi))]) = _
  have n1 : ¬ v < lo := by omega
  have n2 : ¬ hi < v := by omega
  simp [b__law_whole, exs, ex1, ev, frz, brw, va_var, va_isi, rd, Rs.of, Rs.bind, Sl.d, valOf, ol, oIs, dT, tru, oCmp, lt1, n1, n2, Rs.ou, Ou.nxt, fin, finR, d__law_whole, outs]
theorem is_tuple0 (k : Nat) : run (all.map De.g) (k + 1) 17 [.tuple [], .int 0] = .ret (.bool true) [] := by
  rw [run_def (g := d__law_is_tuple.g) rfl rfl]
  show fin d__law_is_tuple.g (exs _ b__law_is_tuple [some (.val (.tuple [])), some (.val (.int 0))]) = _
  simp [b__law_is_tuple, exs, ex1, ev, two, brw, va_var, va_blt, va_isi, rd, Rs.of, Rs.bind, Sl.d, valOf, nw, ol, oB, isLD, oIs, dT, tru, cmp_eq (shp_int 0 0), eqv_i, Rs.ou, Ou.nxt, fin, finR, d__law_is_tuple, outs]
theorem chn24 (c : Cal) (e : Ex) (env : Env) (n : Int) (he : ev c e env = .ok (false, .int n) env) (h1 : 2 ≤ n) (h2 : n ≤ 4) : ev c (.chn (.cst (.int 2)) e (.cst (.int 4)) .LtE .LtE) env = .ok (false, .bool true) env := by
  have n1 : ¬ n < 2 := by omega
  have n2 : ¬ 4 < n := by omega
  rw [ev, ev_cst]
  simp [valOf, Rs.bind, he, ev_cst, oCmp, lt1, dT, n1, n2, ol, Rs.of]
/-- _law_is_node -/
theorem is_node (k : Nat) (t : Tr) (h : okN t) : run (all.map De.g) (k + 2) 18 [enc t] = .ret (.bool true) [] := by
  rw [run_def (g := d__law_is_node.g) rfl rfl]
  show fin d__law_is_node.g (exs _ b__law_is_node [some (.val (enc t))]) = _
  have e1 : ∀ (w : Str) (m : Int), evs (cal (all.map De.g) (k + 1)) [(.var 0), (.cst (.str w)), (.cst (.int m))] [some (.val (enc t))] = .ok [enc t, .str w, .int m] [some (.val (enc t))] := fun w m => by
    simp [evs, ev, frz, valOf, Rs.bind]
  have mk : ∀ (w : Str) (m : Int) (b : Bool), run (all.map De.g) (k + 1) 16 [enc t, .str w, .int m] = .ret (.bool b) [] →
      brw (.call 16 [(.var 0), (.cst (.str w)), (.cst (.int m))]) (ev (cal (all.map De.g) (k + 1)) (.call 16 [(.var 0), (.cst (.str w)), (.cst (.int m))])) [some (.val (enc t))] = .ok (.bool b) [some (.val (enc t))] := fun w m b hr => by
    have z := ev_call (c := cal (all.map De.g) (k + 1)) (f := 16) (n := 3) rfl (e1 w m) rfl hr
    rw [brw, va_call]
    dsimp only
    rw [z]
    rfl
  cases t with
  | leaf =>
    have m1 := mk "own" 3 false (by rw [enc]; exact marked_no k [] _ _ (by decide))
    have m2 := mk "theirs" 2 false (by rw [enc]; exact marked_no k [] _ _ (by decide))
    have e2 : evs (cal (all.map De.g) (k + 1)) [(.var 0), (.cst (.int 0))] [some (.val (enc .leaf))] = .ok [enc .leaf, .int 0] [some (.val (enc .leaf))] := by
      simp [evs, ev, frz, valOf, Rs.bind]
    have m3 := ev_call (c := cal (all.map De.g) (k + 1)) (f := 17) (n := 2) rfl e2 rfl (show run (all.map De.g) (k + 1) 17 [enc .leaf, .int 0] = _ by rw [enc]; exact is_tuple0 k)
    simp only [b__law_is_node, exs, ex1, m1, m2, m3, Rs.ou, tru, Ou.nxt, valOf, Rs.bind]
    rfl
  | own r ts =>
    obtain ⟨h1, h2, h3, h4⟩ := h
    have m1 := mk "own" 3 true (by rw [enc]; have := marked_yes k "own" "own" [.int r, .tuple (encs ts)] 3 rfl (.inl rfl) (.inl rfl); simpa using this)
    have hi1 : oIdx (enc (.own r ts)) (.int 1) = some (.int r) := by rw [enc]; rfl
    have hi2 : oIdx (enc (.own r ts)) (.int 2) = some (.tuple (encs ts)) := by rw [enc]; rfl
    have e2 : evs (cal (all.map De.g) (k + 1)) [(.idx (.var 0) (.cst (.int 1))), (.cst (.int 0)), (.cst (.int 9))] [some (.val (enc (.own r ts)))] = .ok [.int r, .int 0, .int 9] [some (.val (enc (.own r ts)))] := by
      simp [evs, ev, two, brw, va_var, va_cst, rd, Rs.of, Sl.d, ol, hi1, valOf, Rs.bind]
    have m2 := ev_call (c := cal (all.map De.g) (k + 1)) (f := 15) (n := 3) rfl e2 rfl (whole k r 0 9 h1 h2)
    have ln : ev (cal (all.map De.g) (k + 1)) (.blt .len (.idx (.var 0) (.cst (.int 2)))) [some (.val (enc (.own r ts)))] = .ok (false, .int (ts.length : Nat)) [some (.val (enc (.own r ts)))] := by
      simp [ev, two, brw, va_idx, va_var, va_cst, rd, Rs.of, Sl.d, ol, hi2, valOf, Rs.bind, nw, oB, isLD, encs_len]
    have m3 := chn24 _ _ _ _ ln (by omega) (by omega)
    have m4 : ev (cal (all.map De.g) (k + 1)) (.isi (.idx (.var 0) (.cst (.int 2))) .tuple) [some (.val (enc (.own r ts)))] = .ok (false, .bool true) [some (.val (enc (.own r ts)))] := by
      simp [ev, two, brw, va_idx, va_var, va_cst, rd, Rs.of, Sl.d, ol, hi2, valOf, Rs.bind, oIs, dT]
    have m5 : ev (cal (all.map De.g) (k + 1)) (.band (.call 15 [(.idx (.var 0) (.cst (.int 1))), (.cst (.int 0)), (.cst (.int 9))]) (.band (.isi (.idx (.var 0) (.cst (.int 2))) .tuple) (.chn (.cst (.int 2)) (.blt .len (.idx (.var 0) (.cst (.int 2)))) (.cst (.int 4)) .LtE .LtE))) [some (.val (enc (.own r ts)))] = .ok (false, .bool true) [some (.val (enc (.own r ts)))] := by
      rw [ev, m2]
      simp only [valOf, Rs.bind, tru]
      rw [ev, m4]
      simp only [valOf, Rs.bind, tru, m3]
    simp only [b__law_is_node, exs, ex1, m1, m5, Rs.ou, tru, Ou.nxt, valOf, Rs.bind]
    rfl
  | oth ts =>
    obtain ⟨h3, h4⟩ := h
    have m1 := mk "own" 3 false (by rw [enc]; exact marked_no k _ _ _ (by simp))
    have m2 := mk "theirs" 2 true (by rw [enc]; have := marked_yes k "theirs" "theirs" [.tuple (encs ts)] 2 rfl (.inr rfl) (.inr rfl); simpa using this)
    have hi2 : oIdx (enc (.oth ts)) (.int 1) = some (.tuple (encs ts)) := by rw [enc]; rfl
    have ln : ev (cal (all.map De.g) (k + 1)) (.blt .len (.idx (.var 0) (.cst (.int 1)))) [some (.val (enc (.oth ts)))] = .ok (false, .int (ts.length : Nat)) [some (.val (enc (.oth ts)))] := by
      simp [ev, two, brw, va_idx, va_var, va_cst, rd, Rs.of, Sl.d, ol, hi2, valOf, Rs.bind, nw, oB, isLD, encs_len]
    have m3 := chn24 _ _ _ _ ln (by omega) (by omega)
    have m4 : ev (cal (all.map De.g) (k + 1)) (.isi (.idx (.var 0) (.cst (.int 1))) .tuple) [some (.val (enc (.oth ts)))] = .ok (false, .bool true) [some (.val (enc (.oth ts)))] := by
      simp [ev, two, brw, va_idx, va_var, va_cst, rd, Rs.of, Sl.d, ol, hi2, valOf, Rs.bind, oIs, dT]
    have m5 : ev (cal (all.map De.g) (k + 1)) (.band (.isi (.idx (.var 0) (.cst (.int 1))) .tuple) (.chn (.cst (.int 2)) (.blt .len (.idx (.var 0) (.cst (.int 1)))) (.cst (.int 4)) .LtE .LtE)) [some (.val (enc (.oth ts)))] = .ok (false, .bool true) [some (.val (enc (.oth ts)))] := by
      rw [ev, m4]
      simp only [valOf, Rs.bind, tru, m3]
    simp only [b__law_is_node, exs, ex1, m1, m2, m5, Rs.ou, tru, Ou.nxt, valOf, Rs.bind]
    rfl
end Rv.k08
end
section
/-! k08, mathematics 15: the law's own walks over the nodes. -/
namespace Rv.k08
open PySem Rv
def okA (t : Tr) : Prop := ∀ q ∈ pre [] t, okN q.2
theorem tst_law (k : Nat) (T : D) : Tst (cal (all.map De.g) (k + 2)) (.band (.call 18 [(.var 4)]) (.cmp .NotEq (.var 4) (.tup []))) T okN := fun fs W p t hd ho => by
  have cl : ev (cal (all.map De.g) (k + 2)) (.call 18 [(.var 4)]) (nEnv T fs W (some (pd p)) (some (enc t))) = .ok (false, .bool true) (nEnv T fs W (some (pd p)) (some (enc t))) :=
    ev_call (n := 1) (ds := [enc t]) rfl (by simp [evs, ev, frz, nEnv, valOf, Rs.bind]) rfl (is_node k t ho)
  have ne := e_ne (c := cal (all.map De.g) (k + 2)) (j := 4) (t := t) (env := nEnv T fs W (some (pd p)) (some (enc t))) (by simp [rd, nEnv, Sl.d]) hd
  rw [brw, va_band]
  dsimp only
  rw [ev_band, cl, v_ok, b_ok]
  simp only [tru_b]
  rw [ne, v_ok, b_ok, v_ok, ne_leaf]
theorem law_nodes (k : Nat) (t : Tr) (g : Good t) (o : okA t) : run (all.map De.g) (k + 3) 19 [enc t] = .ret (.list ((pre [] t).map item)) [] := by
  rw [run_def (g := d__law_nodes.g) rfl rfl]
  have h0 : hang ([([], t)] : List Nd).reverse = pre [] t := by
    unfold hang
    simp
  obtain ⟨x', y', h⟩ := n_loop (cal (all.map De.g) (k + 2)) _ (enc t) _ (tst_law k _) (pre [] t).length [] [([], t)] none none (by rw [h0]) (fun q hq => by rw [List.mem_singleton.mp hq]; exact g.fine) (by rw [h0]; exact o) (by have := g.many; simpa using this)
  rw [h0] at h
  have s0 : small 0 = true := by decide
  have s1 : small 1 = true := by decide
  have s2 : small 2 = true := by decide
  have p1 : ex1 (cal (all.map De.g) (k + 2)) (.par [1, 2] [(.lst []), (.lst [(.tup [(.tup []), (.var 0)])])]) (entry 6 [] [enc t]) = .nx (nEnv (enc t) [] [([], t)] none none) := by
    simp [ex1, evL, ev, evs, entry, frz, valOf, Rs.bind, Rs.ou, nxO, putL, putV, slOf, s0, s1, s2, nEnv, item, pd]
  show fin d__law_nodes.g (exs _ [_, .whl (.cmp .NotEq (.var 2) (.lst [])) (nBody _), .ret (.var 1)] (entry 6 [] [enc t])) = _
  rw [exs, p1]
  show fin d__law_nodes.g (exs _ _ _) = _
  rw [exs, ex1, h]
  simp [Ou.nxt, exs, ex1, ev, frz, valOf, Rs.bind, Rs.ou, nEnv, fin, finR, d__law_nodes, outs]
theorem call_law_nodes {k : Nat} {t : Tr} {env : Env} (g : Good t) (o : okA t) (h : env[0]? = some (some (.val (enc t)))) : ev (cal (all.map De.g) (k + 3)) (.call 19 [.var 0]) env = .ok (false, .list ((pre [] t).map item)) env :=
  ev_call (n := 1) (ds := [enc t]) rfl (by simp [evs, ev, frz, h, valOf, Rs.bind]) rfl (law_nodes k t g o)
theorem law_ends (k : Nat) (t : Tr) (g : Good t) (o : okA t) : run (all.map De.g) (k + 4) 20 [enc t] = .ret (.list (((pre [] t).filter fun q => isLeaf q.2).map fun q => pd q.1)) [] := by
  rw [run_def (g := d__law_ends.g) rfl rfl]
  show fin d__law_ends.g (exs _ b__law_ends [some (.val (enc t)), none, none]) = _
  have cm := comp_if (c := cal (all.map De.g) (k + 3)) (i := 1) (j := 2) (elt := .var 1) (cond := .cmp .Eq (.var 2) (.tup [])) (env := [some (.val (enc t)), none, none]) (P := fun q => isLeaf q.2) (out := fun q => pd q.1) (call_law_nodes g o rfl) rfl rfl g.many fun q hq =>
    ⟨[some (.val (enc t)), some (.val (pd q.1)), some (.val (enc q.2))], rfl, rfl, by
      rw [brw]
      simp [Ex.var?, valOf, e_eq (j := 2) (t := q.2) (env := [some (.val (enc t)), some (.val (pd q.1)), some (.val (enc q.2))]) rfl (g.dep q hq), Rs.bind], fun _ => by
      simp [ev, frz, valOf, Rs.bind]⟩
  simp [b__law_ends, exs, ex1, cm, valOf, Rs.bind, Rs.ou, Ou.nxt, fin, finR, d__law_ends, outs]
theorem law_owns (k : Nat) (t : Tr) (g : Good t) (o : okA t) : run (all.map De.g) (k + 4) 21 [enc t] = .ret (.list ((owns t).map fun q => .tuple [pd q.1, .int (roomI q.2)])) [] := by
  rw [run_def (g := d__law_owns.g) rfl rfl]
  show fin d__law_owns.g (exs _ b__law_owns [some (.val (enc t)), none, none]) = _
  have s2 : small 2 = true := by decide
  have cm := comp_if (c := cal (all.map De.g) (k + 3)) (i := 1) (j := 2) (elt := .tup [(.var 1), (.idx (.var 2) (.cst (.int 1)))]) (cond := .band (.cmp .NotEq (.var 2) (.tup [])) (.cmp .Eq (.idx (.var 2) (.cst (.int 0))) (.cst (.str "own")))) (env := [some (.val (enc t)), none, none]) (P := fun q => isOwn q.2) (out := fun q => .tuple [pd q.1, .int (roomI q.2)]) (call_law_nodes g o rfl) rfl rfl g.many fun q hq =>
    ⟨[some (.val (enc t)), some (.val (pd q.1)), some (.val (enc q.2))], rfl, rfl, by
      rw [brw, va_band]
      dsimp only
      rw [e_own (j := 2) (t := q.2) (env := [some (.val (enc t)), some (.val (pd q.1)), some (.val (enc q.2))]) rfl (g.dep q hq) va_cst ev_cst]
      rfl, fun hp => by
      have hp : isOwn q.2 = true := hp
      cases e : q.2 with
      | leaf => rw [e] at hp; cases hp
      | oth ts => rw [e] at hp; cases hp
      | own r ts =>
        have hi : oIdx (enc (.own r ts)) (.int 1) = some (.int r) := by rw [enc]; rfl
        simp [ev, evs, two, brw, Ex.var?, frz, rd, Rs.of, Sl.d, ol, hi, valOf, Rs.bind, s2, roomI]⟩
  simp [b__law_owns, exs, ex1, cm, valOf, Rs.bind, Rs.ou, Ou.nxt, fin, finR, d__law_owns, outs, owns]
def oths (t : Tr) : List Nd := (pre [] t).filter fun q => isOth q.2
/-! ### _law_history -/
def lhEnv (T P : D) (i : Option D) (fs : List (Int × Int)) (u : Tr) : Env := [some (.val T), some (.val P), i.map Sl.val, some (.own (.list (fs.map hpair))), some (.val (enc u))]
def lhBody : List Sm := [.ite (.cmp .Eq (.idx (.var 4) (.cst (.int 0))) (.cst (.str "own"))) [.app 3 (.tup [(.idx (.var 4) (.cst (.int 1))), (.var 2)])] [],
    .set 4 (.idx (.idx (.var 4) (.neg (.cst (.int 1)))) (.var 2))]
theorem lh_body (c : Cal) (T P : D) (i : Int) (fs : List (Int × Int)) (u v : Tr) (hl : isLeaf u = false) (hv : L2.atI (kids u) i = some v) (hf : fs.length < 100000) :
    exs c lhBody (lhEnv T P (some (.int i)) fs u) = .nx (lhEnv T P (some (.int i)) (fs ++ here i u) v) := by
  have em := e_mark (c := c) (j := 4) (t := u) (env := lhEnv T P (some (.int i)) fs u) (e := .cst (.str "own")) (y := "own") (by simp [rd, lhEnv, Sl.d]) hl (.inl rfl) va_cst ev_cst
  rw [mark_own hl] at em
  have ki : oIdx (.tuple (encs (kids u))) (.int i) = some (enc v) := by
    show L2.atI (encs (kids u)) i = _
    rw [encs_map]
    unfold L2.atI at hv ⊢
    rw [List.length_map]
    cases q : L2.ixN (kids u).length i with
    | none => rw [q] at hv; cases hv
    | some j =>
      rw [q] at hv
      have hv : (kids u)[j]? = some v := hv
      show ((kids u).map enc)[j]? = _
      rw [List.getElem?_map, hv]
      rfl
  have hk := kids_at u (by intro e; rw [e] at hl; cases hl)
  have sm : small (fs.length + 1) = true := small_lt (by omega)
  have sm2 : small 2 = true := by decide
  have s2 : ∀ gs, ex1 c (.set 4 (.idx (.idx (.var 4) (.neg (.cst (.int 1)))) (.var 2))) (lhEnv T P (some (.int i)) gs u) = .nx (lhEnv T P (some (.int i)) gs v) := fun gs => by
    simp [st_nil, st_cons, st_set, st_par, st_unp, st_put, st_app, st_ext, st_expr, st_ret, st_ite, st_pass, evL_nil, evL_cons, evs_nil, evs_cons, ev_var, ev_cst, ev_glob, ev_tup, ev_lst, ev_dic, ev_bin, ev_cmp, ev_chn, ev_band, ev_bor, ev_not, ev_neg, ev_ite, ev_blt, ev_blt2, ev_isi, ev_idx, ev_slc, ev_rev, ev_pop, ev_get, ev_get2, ev_index, two, brw, Ex.var?, valOf, Rs.bind, Rs.of, Rs.ou, Ou.nxt, nw, ol, slOf, nxO, rd, frz, Sl.d, putV_none, putV_val, putV_own, putV_map, putV_mapc, putL, asg, asgs, chg, upSl, app1, ext1, isLs, isDc, isLD, recv, later, tru_b, lt_ii, gt_ii, le_ii, ge_ii, eq_ii, ne_ii, at_0, at_1, at_2, at_3, add_ll, add_tt, oIdx, dT, small_lt, fin, finR, outs, callV, callS, lhEnv, neg1, hk, ki, -oIdx]
  rw [lhBody, exs, ex1]
  have bt : brw (.cmp .Eq (.idx (.var 4) (.cst (.int 0))) (.cst (.str "own"))) (ev c (.cmp .Eq (.idx (.var 4) (.cst (.int 0))) (.cst (.str "own")))) (lhEnv T P (some (.int i)) fs u) = .ok (.bool (isOwn u)) (lhEnv T P (some (.int i)) fs u) := by
    rw [brw, va_cmp]
    dsimp only
    rw [em]
    rfl
  rw [bt, ou_ok]
  cases u with
  | leaf => cases hl
  | oth ts => simp only [isOwn, tru_b, st_nil, nxt_nx, st_cons, s2, here, List.append_nil]
  | own r ts =>
    have hi : oIdx (enc (.own r ts)) (.int 1) = some (.int r) := by rw [enc]; rfl
    have s1 : ex1 c (.app 3 (.tup [(.idx (.var 4) (.cst (.int 1))), (.var 2)])) (lhEnv T P (some (.int i)) fs (.own r ts)) = .nx (lhEnv T P (some (.int i)) (fs ++ here i (.own r ts)) (.own r ts)) := by
      simp [st_nil, st_cons, st_set, st_par, st_unp, st_put, st_app, st_ext, st_expr, st_ret, st_ite, st_pass, evL_nil, evL_cons, evs_nil, evs_cons, ev_var, ev_cst, ev_glob, ev_tup, ev_lst, ev_dic, ev_bin, ev_cmp, ev_chn, ev_band, ev_bor, ev_not, ev_neg, ev_ite, ev_blt, ev_blt2, ev_isi, ev_idx, ev_slc, ev_rev, ev_pop, ev_get, ev_get2, ev_index, two, brw, Ex.var?, valOf, Rs.bind, Rs.of, Rs.ou, Ou.nxt, nw, ol, slOf, nxO, rd, frz, Sl.d, putV_none, putV_val, putV_own, putV_map, putV_mapc, putL, asg, asgs, chg, upSl, app1, ext1, isLs, isDc, isLD, recv, later, tru_b, lt_ii, gt_ii, le_ii, ge_ii, eq_ii, ne_ii, at_0, at_1, at_2, at_3, add_ll, add_tt, oIdx, dT, small_lt, fin, finR, outs, callV, callS, lhEnv, hi, sm, sm2, here, hpair, -oIdx]
    simp only [isOwn, tru_b, st_nil, nxt_nx, st_cons, s2, s1]
theorem lh_loop (c : Cal) (T P : D) : ∀ (r : List Int) (u v : Tr) (fs : List (Int × Int)) (x : Option D), at_ u r = some v → fs.length + r.length < 100000 →
    ∃ x', loop (fun x e2 => match asg (.v 2) x e2 with
      | some e3 => exs c lhBody e3
      | none => .no) (r.map PyData.int) (lhEnv T P x fs u) = .nx (lhEnv T P x' (fs ++ roomsTo u r) v)
  | [], u, v, fs, x, h2, hf => ⟨x, by cases h2; simp [roomsTo, loop]⟩
  | i :: r, u, v, fs, x, h2, hf => by
    rw [at_] at h2
    cases e : L2.atI (kids u) i with
    | none => rw [e] at h2; cases h2
    | some w =>
      rw [e] at h2
      cases hl : isLeaf u with
      | true => rw [hl] at h2; cases h2
      | false =>
        rw [hl] at h2
        have h2 : at_ w r = some v := h2
        have lf : (fs ++ here i u).length ≤ fs.length + 1 := by
          cases u <;> simp [here]
        have bd := lh_body c T P i fs u w hl e (by omega)
        have ag : asg (.v 2) (.int i) (lhEnv T P x fs u) = some (lhEnv T P (some (.int i)) fs u) := by
          cases x <;> simp [asg, putV, lhEnv]
        obtain ⟨x', q⟩ := lh_loop c T P r w v _ (some (.int i)) h2 (Nat.lt_of_le_of_lt (Nat.add_le_add_right lf _) (by rw [List.length_cons] at hf; omega))
        refine ⟨x', ?_⟩
        rw [List.map_cons, loop]
        try dsimp only
        rw [ag]
        try dsimp only
        rw [bd, rooms_go e, ← List.append_assoc]
        exact q
theorem law_history (k : Nat) (t v : Tr) (p : List Int) (h : at_ t p = some v) (hp : p.length < 1000) : run (all.map De.g) (k + 1) 22 [enc t, pd p] = .ret (.tuple ((roomsTo t p).map hpair)) [] := by
  rw [run_def (g := d__law_history.g) rfl rfl]
  show fin d__law_history.g (exs _ [_, .for_ (.v 2) .it [(.var 1)] lhBody, .ret (.blt .tuple (.var 3))] [some (.val (enc t)), some (.val (pd p)), none, none, none]) = _
  have s1 : ex1 (cal (all.map De.g) k) (.par [3, 4] [(.lst []), (.var 0)]) [some (.val (enc t)), some (.val (pd p)), none, none, none] = .nx (lhEnv (enc t) (pd p) none [] t) := by
    simp [st_nil, st_cons, st_set, st_par, st_unp, st_put, st_app, st_ext, st_expr, st_ret, st_ite, st_pass, evL_nil, evL_cons, evs_nil, evs_cons, ev_var, ev_cst, ev_glob, ev_tup, ev_lst, ev_dic, ev_bin, ev_cmp, ev_chn, ev_band, ev_bor, ev_not, ev_neg, ev_ite, ev_blt, ev_blt2, ev_isi, ev_idx, ev_slc, ev_rev, ev_pop, ev_get, ev_get2, ev_index, two, brw, Ex.var?, valOf, Rs.bind, Rs.of, Rs.ou, Ou.nxt, nw, ol, slOf, nxO, rd, frz, Sl.d, putV_none, putV_val, putV_own, putV_map, putV_mapc, putL, asg, asgs, chg, upSl, app1, ext1, isLs, isDc, isLD, recv, later, tru_b, lt_ii, gt_ii, le_ii, ge_ii, eq_ii, ne_ii, at_0, at_1, at_2, at_3, add_ll, add_tt, oIdx, dT, small_lt, fin, finR, outs, callV, callS, lhEnv]
  obtain ⟨x', q⟩ := lh_loop (cal (all.map De.g) k) (enc t) (pd p) p t v [] none h (by simp; omega)
  have s2 : ex1 (cal (all.map De.g) k) (.for_ (.v 2) .it [(.var 1)] lhBody) (lhEnv (enc t) (pd p) none [] t) = .nx (lhEnv (enc t) (pd p) x' (roomsTo t p) v) := by
    rw [ex1]
    have es : evs (cal (all.map De.g) k) [(.var 1)] (lhEnv (enc t) (pd p) none [] t) = .ok [pd p] (lhEnv (enc t) (pd p) none [] t) := by
      simp [st_nil, st_cons, st_set, st_par, st_unp, st_put, st_app, st_ext, st_expr, st_ret, st_ite, st_pass, evL_nil, evL_cons, evs_nil, evs_cons, ev_var, ev_cst, ev_glob, ev_tup, ev_lst, ev_dic, ev_bin, ev_cmp, ev_chn, ev_band, ev_bor, ev_not, ev_neg, ev_ite, ev_blt, ev_blt2, ev_isi, ev_idx, ev_slc, ev_rev, ev_pop, ev_get, ev_get2, ev_index, two, brw, Ex.var?, valOf, Rs.bind, Rs.of, Rs.ou, Ou.nxt, nw, ol, slOf, nxO, rd, frz, Sl.d, putV_none, putV_val, putV_own, putV_map, putV_mapc, putL, asg, asgs, chg, upSl, app1, ext1, isLs, isDc, isLD, recv, later, tru_b, lt_ii, gt_ii, le_ii, ge_ii, eq_ii, ne_ii, at_0, at_1, at_2, at_3, add_ll, add_tt, oIdx, dT, small_lt, fin, finR, outs, callV, callS, lhEnv]
    rw [es]
    have wk : walk .it [pd p] = some (p.map PyData.int) := rfl
    simp only [Rs.ou, wk]
    exact q
  rw [st_cons, s1, nxt_nx, st_cons, s2, nxt_nx]
  simp [st_nil, st_cons, st_set, st_par, st_unp, st_put, st_app, st_ext, st_expr, st_ret, st_ite, st_pass, evL_nil, evL_cons, evs_nil, evs_cons, ev_var, ev_cst, ev_glob, ev_tup, ev_lst, ev_dic, ev_bin, ev_cmp, ev_chn, ev_band, ev_bor, ev_not, ev_neg, ev_ite, ev_blt, ev_blt2, ev_isi, ev_idx, ev_slc, ev_rev, ev_pop, ev_get, ev_get2, ev_index, two, brw, Ex.var?, valOf, Rs.bind, Rs.of, Rs.ou, Ou.nxt, nw, ol, slOf, nxO, rd, frz, Sl.d, putV_none, putV_val, putV_own, putV_map, putV_mapc, putL, asg, asgs, chg, upSl, app1, ext1, isLs, isDc, isLD, recv, later, tru_b, lt_ii, gt_ii, le_ii, ge_ii, eq_ii, ne_ii, at_0, at_1, at_2, at_3, add_ll, add_tt, oIdx, dT, small_lt, fin, finR, outs, callV, callS, lhEnv, oB, d__law_history]
end Rv.k08
end
section
/-! k08, mathematics 16: _law_meets, _law_widths. -/
namespace Rv.k08
open PySem Rv
def isMet (t : Tr) (q : Nd) : Bool := decide (roomI q.2 ∈ (roomsTo t q.1).map (·.1))
def mEnv (T : D) (fs : List Nd) (x y : Option D) : Env := [some (.val T), some (.own (.list (fs.map fun q => pd q.1))), x.map Sl.val, y.map Sl.val, none]
def mBody : List Sm := [.ite (.cmp .In (.var 3) (.comp [4] (.v 4) .it [(.call 22 [(.var 0), (.var 2)])] (.idx (.var 4) (.cst (.int 0))))) [.app 1 (.var 2)] []]
theorem cmp_in (r : Int) (l : List Int) : oCmp .In (.int r) (.list (l.map PyData.int)) = some (.bool (decide (r ∈ l))) := by
  show (if shp2 _ _ then some (dT _) else none) = _
  rw [shp_rooms, if_pos rfl, any_ints]
  rfl
theorem Good.len {t : Tr} (g : Good t) : ∀ q ∈ pre [] t, q.1.length < 1000 := by
  have aux : ∀ (n : Nat) (p : List Int) (t : Tr), k08.dep t ≤ n → ∀ q ∈ pre p t, q.1.length ≤ p.length + n := by
    intro n
    induction n with
    | zero =>
      intro p t hn q hq
      rw [pre_eq] at hq
      rcases List.mem_cons.mp hq with rfl | hq
      · exact Nat.le_refl _
      · obtain ⟨u, hu, hq⟩ := List.mem_flatMap.mp hq
        have := dep_kid (subs_mem hu).2
        omega
    | succ n ih =>
      intro p t hn q hq
      rw [pre_eq] at hq
      rcases List.mem_cons.mp hq with rfl | hq
      · show p.length ≤ _
        omega
      · obtain ⟨u, hu, hq⟩ := List.mem_flatMap.mp hq
        have h1 := dep_kid (subs_mem hu).2
        have h2 := (subs_mem hu).1
        have := ih u.1 u.2 (by omega) q hq
        omega
  intro q hq
  have h : ([] : List Int).length + k08.dep t ≤ 20 := g.fine.lev
  have := aux 20 [] t (by simpa using h) q hq
  simp at this
  omega
theorem m_body (k : Nat) (t : Tr) (g : Good t) (fs : List Nd) (q : Nd) (hq : q ∈ owns t) (hf : fs.length < 100000) :
    exs (cal (all.map De.g) (k + 1)) mBody (mEnv (enc t) fs (some (pd q.1)) (some (.int (roomI q.2)))) = .nx (mEnv (enc t) (fs ++ [q].filter (isMet t)) (some (pd q.1)) (some (.int (roomI q.2)))) := by
  obtain ⟨h1, h2, h3⟩ := owns_mem hq
  have hl := g.len q h1
  have lr := roomsTo_len q.1 t
  have c1 : ev (cal (all.map De.g) (k + 1)) (.call 22 [.var 0, .var 2]) (mEnv (enc t) fs (some (pd q.1)) (some (.int (roomI q.2)))) = .ok (false, .tuple ((roomsTo t q.1).map hpair)) (mEnv (enc t) fs (some (pd q.1)) (some (.int (roomI q.2)))) :=
    ev_call (n := 2) (ds := [enc t, pd q.1]) rfl (by simp [st_nil, st_cons, st_set, st_par, st_unp, st_put, st_app, st_ext, st_expr, st_ret, st_ite, st_pass, evL_nil, evL_cons, evs_nil, evs_cons, ev_var, ev_cst, ev_glob, ev_tup, ev_lst, ev_dic, ev_bin, ev_cmp, ev_chn, ev_band, ev_bor, ev_not, ev_neg, ev_ite, ev_blt, ev_blt2, ev_isi, ev_idx, ev_slc, ev_rev, ev_pop, ev_get, ev_get2, ev_index, two, brw, Ex.var?, valOf, Rs.bind, Rs.of, Rs.ou, Ou.nxt, nw, ol, slOf, nxO, rd, frz, Sl.d, putV_none, putV_val, putV_own, putV_map, putV_mapc, putL, asg, asgs, chg, upSl, app1, ext1, isLs, isDc, isLD, recv, later, tru_b, lt_ii, gt_ii, le_ii, ge_ii, eq_ii, ne_ii, at_0, at_1, at_2, at_3, add_ll, add_tt, oIdx, dT, small_lt, fin, finR, outs, callV, callS, mEnv]) rfl (law_history k t q.2 q.1 (g.at_ h1) hl)
  have cm := comp_all (c := cal (all.map De.g) (k + 1)) (i := 4) (elt := .idx (.var 4) (.cst (.int 0))) (W := roomsTo t q.1) (en := hpair) (out := fun q => PyData.int q.1) rfl c1 rfl rfl (by omega) fun p _ =>
    ⟨[some (.val (enc t)), some (.own (.list (fs.map fun q => pd q.1))), some (.val (pd q.1)), some (.val (.int (roomI q.2))), some (.val (hpair p))], rfl, rfl, by simp [st_nil, st_cons, st_set, st_par, st_unp, st_put, st_app, st_ext, st_expr, st_ret, st_ite, st_pass, evL_nil, evL_cons, evs_nil, evs_cons, ev_var, ev_cst, ev_glob, ev_tup, ev_lst, ev_dic, ev_bin, ev_cmp, ev_chn, ev_band, ev_bor, ev_not, ev_neg, ev_ite, ev_blt, ev_blt2, ev_isi, ev_idx, ev_slc, ev_rev, ev_pop, ev_get, ev_get2, ev_index, two, brw, Ex.var?, valOf, Rs.bind, Rs.of, Rs.ou, Ou.nxt, nw, ol, slOf, nxO, rd, frz, Sl.d, putV_none, putV_val, putV_own, putV_map, putV_mapc, putL, asg, asgs, chg, upSl, app1, ext1, isLs, isDc, isLD, recv, later, tru_b, lt_ii, gt_ii, le_ii, ge_ii, eq_ii, ne_ii, at_0, at_1, at_2, at_3, add_ll, add_tt, oIdx, dT, small_lt, fin, finR, outs, callV, callS, hpair]⟩
  have e : ((roomsTo t q.1).map fun q => PyData.int q.1) = ((roomsTo t q.1).map (·.1)).map PyData.int := by rw [List.map_map]; rfl
  rw [e] at cm
  have tst : brw (.cmp .In (.var 3) (.comp [4] (.v 4) .it [(.call 22 [(.var 0), (.var 2)])] (.idx (.var 4) (.cst (.int 0))))) (ev (cal (all.map De.g) (k + 1)) (.cmp .In (.var 3) (.comp [4] (.v 4) .it [(.call 22 [(.var 0), (.var 2)])] (.idx (.var 4) (.cst (.int 0)))))) (mEnv (enc t) fs (some (pd q.1)) (some (.int (roomI q.2)))) =
      .ok (.bool (isMet t q)) (mEnv (enc t) fs (some (pd q.1)) (some (.int (roomI q.2)))) := by
    rw [brw, va_cmp]
    dsimp only
    rw [ev_cmp, two, va_var]
    dsimp only
    rw [show rd 3 (mEnv (enc t) fs (some (pd q.1)) (some (.int (roomI q.2)))) = some (.int (roomI q.2)) from rfl, of_some, b_ok, brw, va_comp]
    dsimp only
    rw [cm, v_ok, b_ok, show rd 3 (mEnv (enc t) fs (some (pd q.1)) (some (.int (roomI q.2)))) = some (.int (roomI q.2)) from rfl, Option.map_some, of_some, b_ok, cmp_in]
    rfl
  rw [mBody, st_cons, st_ite, tst, ou_ok]
  have sm : small (fs.length + 1) = true := small_lt (by omega)
  cases hm : isMet t q with
  | false => simp [tru_b, st_nil, hm, nxt_nx]
  | true =>
    simp [st_nil, st_cons, st_set, st_par, st_unp, st_put, st_app, st_ext, st_expr, st_ret, st_ite, st_pass, evL_nil, evL_cons, evs_nil, evs_cons, ev_var, ev_cst, ev_glob, ev_tup, ev_lst, ev_dic, ev_bin, ev_cmp, ev_chn, ev_band, ev_bor, ev_not, ev_neg, ev_ite, ev_blt, ev_blt2, ev_isi, ev_idx, ev_slc, ev_rev, ev_pop, ev_get, ev_get2, ev_index, two, brw, Ex.var?, valOf, Rs.bind, Rs.of, Rs.ou, Ou.nxt, nw, ol, slOf, nxO, rd, frz, Sl.d, putV_none, putV_val, putV_own, putV_map, putV_mapc, putL, asg, asgs, chg, upSl, app1, ext1, isLs, isDc, isLD, recv, later, tru_b, lt_ii, gt_ii, le_ii, ge_ii, eq_ii, ne_ii, at_0, at_1, at_2, at_3, add_ll, add_tt, oIdx, dT, small_lt, fin, finR, outs, callV, callS, mEnv, hm, sm]
/-! ### _law_widths -/
def wids (W : List Nd) : WD := (W.filter fun q => isOwn q.2).foldl (fun a q => wput a (roomI q.2) (wide q)) []
theorem wids_len : ∀ (W : List Nd) (a : WD), (W.foldl (fun a q => wput a (roomI q.2) (wide q)) a).length ≤ a.length + W.length
  | [], a => by simp
  | q :: W, a => by
    have h1 := wids_len W (wput a (roomI q.2) (wide q))
    have h2 := wput_len a (roomI q.2) (wide q)
    rw [List.foldl_cons, List.length_cons]
    omega
def wEnv (T : D) (kvs : WD) (x y : Option D) : Env := [some (.val T), some (.own (wD kvs)), x.map Sl.val, y.map Sl.val]
def wBody : List Sm := [.ite (.band (.cmp .NotEq (.var 3) (.tup [])) (.cmp .Eq (.idx (.var 3) (.cst (.int 0))) (.cst (.str "own")))) [.put 1 (.idx (.var 3) (.cst (.int 1))) (.blt .len (.idx (.var 3) (.cst (.int 2))))] []]
theorem w_body (c : Cal) (T : D) (kvs : WD) (q : Nd) (hd : dep q.2 ≤ 20) (hf : kvs.length < 100000) :
    exs c wBody (wEnv T kvs (some (pd q.1)) (some (enc q.2))) = .nx (wEnv T (if isOwn q.2 then wput kvs (roomI q.2) (wide q) else kvs) (some (pd q.1)) (some (enc q.2))) := by
  have tst := e_own (c := c) (j := 3) (t := q.2) (e := .cst (.str "own")) (env := wEnv T kvs (some (pd q.1)) (some (enc q.2))) (by simp [rd, wEnv, Sl.d]) hd va_cst ev_cst
  rw [wBody, st_cons, st_ite, brw, va_band]
  dsimp only
  rw [tst, v_ok, ou_ok]
  cases e : q.2 with
  | leaf => simp [isOwn, tru_b, st_nil, nxt_nx]
  | oth ts => simp [isOwn, tru_b, st_nil, nxt_nx]
  | own r ts =>
    have hi1 : oIdx (enc (.own r ts)) (.int 1) = some (.int r) := by rw [enc]; rfl
    have hi2 : oIdx (enc (.own r ts)) (.int 2) = some (.tuple (encs ts)) := by rw [enc]; rfl
    have hw : wide q = ((encs ts).length : Nat) := by unfold wide; rw [e, encs_len]; rfl
    have pw := put_w kvs r ((encs ts).length : Nat) hf
    simp [isOwn, tru_b, st_nil, nxt_nx, st_cons, hw, roomI]
    simp [st_nil, st_cons, st_set, st_par, st_unp, st_put, st_app, st_ext, st_expr, st_ret, st_ite, st_pass, evL_nil, evL_cons, evs_nil, evs_cons, ev_var, ev_cst, ev_glob, ev_tup, ev_lst, ev_dic, ev_bin, ev_cmp, ev_chn, ev_band, ev_bor, ev_not, ev_neg, ev_ite, ev_blt, ev_blt2, ev_isi, ev_idx, ev_slc, ev_rev, ev_pop, ev_get, ev_get2, ev_index, two, brw, Ex.var?, valOf, Rs.bind, Rs.of, Rs.ou, Ou.nxt, nw, ol, slOf, nxO, rd, frz, Sl.d, putV_none, putV_val, putV_own, putV_map, putV_mapc, putL, asg, asgs, chg, upSl, app1, ext1, isLs, isDc, isLD, recv, later, tru_b, lt_ii, gt_ii, le_ii, ge_ii, eq_ii, ne_ii, at_0, at_1, at_2, at_3, add_ll, add_tt, oIdx, dT, small_lt, fin, finR, outs, callV, callS, wEnv, hi1, hi2, oB, pw, -oIdx]
end Rv.k08
end
section
/-! k08, mathematics 17: the nodes without their paths; how many there are; dicts of widths. -/
namespace Rv.k08
open PySem Rv
mutual
def nds : Tr → List Tr
  | .leaf => [.leaf]
  | .own r ts => .own r ts :: ndss ts
  | .oth ts => .oth ts :: ndss ts
def ndss : List Tr → List Tr
  | [] => []
  | t :: ts => nds t ++ ndss ts
end
mutual
theorem pre_snd : ∀ (p : List Int) (t : Tr), (pre p t).map (·.2) = nds t
  | p, .leaf => by rw [pre, nds]; rfl
  | p, .own r ts => by rw [pre, nds, List.map_cons, pres_snd p 0 ts]
  | p, .oth ts => by rw [pre, nds, List.map_cons, pres_snd p 0 ts]
theorem pres_snd : ∀ (p : List Int) (i : Nat) (ts : List Tr), (pres p i ts).map (·.2) = ndss ts
  | p, i, [] => by rw [pres, ndss]; rfl
  | p, i, t :: ts => by rw [pres, ndss, List.map_append, pre_snd _ t, pres_snd p (i + 1) ts]
end
def lv (t : Tr) : Nat := ((nds t).filter isLeaf).length
def lvs (ts : List Tr) : Nat := ((ndss ts).filter isLeaf).length
theorem lvs_cons (t : Tr) (ts : List Tr) : lvs (t :: ts) = lv t + lvs ts := by
  unfold lvs lv
  rw [ndss, List.filter_append, List.length_append]
theorem lvs_app (ts us : List Tr) : lvs (ts ++ us) = lvs ts + lvs us := by
  induction ts with
  | nil => simp [lvs, ndss]
  | cons t ts ih => rw [List.cons_append, lvs_cons, lvs_cons, ih]; omega
theorem lv_own (r : Int) (ts : List Tr) : lv (.own r ts) = lvs ts := by
  unfold lvs lv
  rw [nds, List.filter_cons]
  rfl
theorem lv_oth (ts : List Tr) : lv (.oth ts) = lvs ts := by
  unfold lvs lv
  rw [nds, List.filter_cons]
  rfl
theorem lv_leaf : lv .leaf = 1 := by
  unfold lv
  rw [nds]
  rfl
mutual
theorem nds_lv : ∀ t : Tr, (∀ u ∈ nds t, okN u) → (nds t).length + 1 ≤ 2 * lv t
  | .leaf, _ => by rw [lv_leaf, nds]; simp
  | .own r ts, h => by
    rw [nds] at h
    have h1 := nds_lvs ts fun u hu => h u (List.mem_cons_of_mem _ hu)
    obtain ⟨_, _, h2, _⟩ : okN (.own r ts) := h _ List.mem_cons_self
    rw [lv_own, nds, List.length_cons]
    omega
  | .oth ts, h => by
    rw [nds] at h
    have h1 := nds_lvs ts fun u hu => h u (List.mem_cons_of_mem _ hu)
    obtain ⟨h2, _⟩ : okN (.oth ts) := h _ List.mem_cons_self
    rw [lv_oth, nds, List.length_cons]
    omega
theorem nds_lvs : ∀ ts : List Tr, (∀ u ∈ ndss ts, okN u) → (ndss ts).length + ts.length ≤ 2 * lvs ts
  | [], _ => by simp [ndss]
  | t :: ts, h => by
    rw [ndss] at h
    have h1 := nds_lv t fun u hu => h u (List.mem_append_left _ hu)
    have h2 := nds_lvs ts fun u hu => h u (List.mem_append_right _ hu)
    rw [lvs_cons, ndss, List.length_append, List.length_cons]
    omega
end
theorem lv_pos (t : Tr) (h : ∀ u ∈ nds t, okN u) : 1 ≤ lv t := by
  have := nds_lv t h
  omega
theorem nds_pre {t : Tr} {P : Tr → Prop} (h : ∀ u ∈ nds t, P u) (p : List Int) : ∀ q ∈ pre p t, P q.2 := fun q hq => h q.2 (by
  rw [← pre_snd p t]
  exact List.mem_map_of_mem hq)
theorem pre_nds {t : Tr} {P : Tr → Prop} (p : List Int) (h : ∀ q ∈ pre p t, P q.2) : ∀ u ∈ nds t, P u := fun u hu => by
  rw [← pre_snd p t] at hu
  obtain ⟨q, hq, rfl⟩ := List.mem_map.mp hu
  exact h q hq
theorem pre_len (p : List Int) (t : Tr) : (pre p t).length = (nds t).length := by rw [← pre_snd p t, List.length_map]
theorem kids_okN {t : Tr} (h : okN t) : (kids t).length ≤ 4 := by
  cases t with
  | leaf => exact Nat.zero_le _
  | own r ts => exact h.2.2.2
  | oth ts => exact h.2
theorem good_of {t : Tr} (h : ∀ u ∈ nds t, okN u) (hd : dep t ≤ 20) (hl : lv t ≤ 400) : Good t := by
  have h1 := nds_lv t h
  exact ⟨⟨by simpa using hd, nds_pre (P := fun u => (kids u).length ≤ 4) (fun u hu => kids_okN (h u hu)) []⟩, by rw [pre_len]; omega⟩
theorem okA_of {t : Tr} (h : ∀ u ∈ nds t, okN u) : okA t := nds_pre h []
theorem ends_len (t : Tr) : ((pre [] t).filter fun q => isLeaf q.2).length = lv t := by
  unfold lv
  rw [← pre_snd [] t, List.filter_map, List.length_map]
  rfl
/-! ### dicts of widths -/
theorem wget_put (W : WD) (r m x : Int) : wget (wput W r m) x = if x = r then some m else wget W x := by
  unfold wput
  rw [any_keys]
  by_cases h : r ∈ W.map (·.1)
  · rw [decide_eq_true h, if_pos rfl]
    unfold wget
    rw [List.find?_map, Option.map_map]
    have e : ((fun p : Int × Int => decide (p.1 = x)) ∘ fun p : Int × Int => if p.1 = r then (p.1, m) else p) = fun p => decide (p.1 = x) := by
      funext p
      show decide ((if p.1 = r then (p.1, m) else p).1 = x) = _
      split <;> rfl
    rw [e]
    by_cases hx : x = r
    · subst hx
      rw [if_pos rfl]
      cases hf : W.find? fun p => decide (p.1 = x) with
      | none =>
        obtain ⟨p, hp, hpr⟩ := List.mem_map.mp h
        have := List.find?_eq_none.mp hf p hp
        simp [hpr] at this
      | some p =>
        have := List.find?_some hf
        simp at this
        simp [this]
    · rw [if_neg hx]
      cases hf : W.find? fun p => decide (p.1 = x) with
      | none => rfl
      | some p =>
        have := List.find?_some hf
        simp at this
        simp [this, hx]
  · rw [decide_eq_false h]
    simp only [Bool.false_eq_true, if_false]
    unfold wget
    rw [List.find?_append]
    by_cases hx : x = r
    · subst hx
      have : W.find? (fun p => decide (p.1 = x)) = none := by
        rw [List.find?_eq_none]
        intro p hp hpx
        simp at hpx
        exact h (List.mem_map.mpr ⟨p, hp, hpx⟩)
      simp [this]
    · have h2 : ¬ r = x := fun z => hx z.symm
      simp [hx, h2]
structure WOk (W : WD) : Prop where
  nd : (W.map (·.1)).Nodup
  rng : ∀ p ∈ W, 0 ≤ p.1 ∧ p.1 ≤ 9 ∧ 2 ≤ p.2 ∧ p.2 ≤ 4
theorem nodup_len : ∀ (l R : List Int), l.Nodup → (∀ x ∈ l, x ∈ R) → l.length ≤ R.length
  | [], R, _, _ => Nat.zero_le _
  | x :: l, R, h, hs => by
    obtain ⟨h1, h2⟩ := List.nodup_cons.mp h
    have hx := hs x List.mem_cons_self
    have := nodup_len l (R.erase x) h2 fun y hy => (List.mem_erase_of_ne (by rintro rfl; exact h1 hy)).mpr (hs y (List.mem_cons_of_mem _ hy))
    rw [List.length_erase_of_mem hx] at this
    have := List.length_pos_of_mem hx
    rw [List.length_cons]
    omega
theorem WOk.len {W : WD} (h : WOk W) : W.length ≤ 10 := by
  have := nodup_len (W.map (·.1)) [0, 1, 2, 3, 4, 5, 6, 7, 8, 9] h.nd fun x hx => by
    obtain ⟨p, hp, rfl⟩ := List.mem_map.mp hx
    obtain ⟨h1, h2, _⟩ := h.rng p hp
    simp
    omega
  simpa using this
theorem WOk.get {W : WD} (h : WOk W) {r m : Int} (e : wget W r = some m) : 2 ≤ m ∧ m ≤ 4 := by
  unfold wget at e
  cases hf : W.find? fun p => decide (p.1 = r) with
  | none => rw [hf] at e; cases e
  | some p =>
    rw [hf] at e
    cases e
    exact (h.rng p (List.mem_of_find?_eq_some hf)).2.2
theorem WOk.put {W : WD} (h : WOk W) {r m : Int} (h1 : 0 ≤ r ∧ r ≤ 9) (h2 : 2 ≤ m ∧ m ≤ 4) : WOk (wput W r m) := by
  constructor
  · rw [wput_keys]
    split
    · exact h.nd
    · rename_i hn
      rw [List.nodup_append]
      refine ⟨h.nd, by simp, fun a ha b hb => ?_⟩
      rw [List.mem_singleton.mp hb]
      rintro rfl
      exact hn ha
  · intro p hp
    unfold wput at hp
    split at hp
    · obtain ⟨q, hq, rfl⟩ := List.mem_map.mp hp
      have := h.rng q hq
      split
      · rename_i e
        exact ⟨this.1, this.2.1, h2.1, h2.2⟩
      · exact this
    · rcases List.mem_append.mp hp with hp | hp
      · exact h.rng p hp
      · rw [List.mem_singleton.mp hp]
        exact ⟨h1.1, h1.2, h2.1, h2.2⟩
def Ext (W W' : WD) : Prop := ∀ r m, wget W r = some m → wget W' r = some m
theorem Ext.refl (W : WD) : Ext W W := fun _ _ h => h
theorem Ext.trans {A B C : WD} (h1 : Ext A B) (h2 : Ext B C) : Ext A C := fun r m h => h2 r m (h1 r m h)
theorem ext_put {W : WD} {r m : Int} (h : (wget W r).getD m = m) : Ext W (wput W r m) := fun x y hx => by
  rw [wget_put]
  split
  · rename_i e
    subst e
    rw [hx] at h
    exact congrArg some h.symm
  · exact hx
end Rv.k08
end
section
/-! k08, mathematics 18: _law_new_tree. -/
namespace Rv.k08
open PySem Rv
theorem ev_callT {c : Cal} {f i j : Nat} {a b : Ex} {env : Env} {ba bb : Bool} {x y d P Q : D} {s s' t t' : Sl} (sg : c.sig f = some ⟨4, [true, false, true]⟩) (ij : i ≠ j) (hs : env[i]? = some (some s)) (ms : s.mine = true) (ht : env[j]? = some (some t)) (mt : t.mine = true)
    (ha : ev c a env = .ok (ba, x) env) (hb : ev c b env = .ok (bb, y) env) (hr : c.run f [s.d, x, t.d, y] = .ret d [P, Q]) (us : upSl P s = some s') (ut : upSl Q t = some t') (nf : c.nw f = false := by rfl) :
    ev c (.call f [.var i, a, .var j, b]) env = .ok (false, d) ((env.set i (some s')).set j (some t')) := by
  rw [ev, sg, nf]
  dsimp only
  have r1 : rd i env = some s.d := by unfold rd; rw [hs]
  have r2 : rd j env = some t.d := by unfold rd; rw [ht]
  have a1 : evArs c [true, false, true] [.var i, a, .var j, b] env = .ok [.s i, .v x, .s j, .v y] env := by
    simp [evArs, Ex.var?, r1, r2, ha, hb, Rs.of, Rs.bind, valOf]
  rw [a1]
  have g1 : argD env (.s i) = some s.d := by
    unfold argD
    dsimp only
    rw [hs]
    cases s with
    | val d => cases ms
    | own d => rfl
    | io d => rfl
  have g2 : argD env (.s j) = some t.d := by
    unfold argD
    dsimp only
    rw [ht]
    cases t with
    | val d => cases mt
    | own d => rfl
    | io d => rfl
  have ad : argDs env [.s i, .v x, .s j, .v y] = some [s.d, x, t.d, y] := by
    have g3 : ∀ z, argD env (.v z) = some z := fun _ => rfl
    simp only [argDs, g1, g2, g3, Option.bind, Option.map]
  have nd : (slotsOf [.s i, .v x, .s j, .v y]).Nodup := by
    show [i, j].Nodup
    simp [ij]
  have ly : lay [.s i, .v x, .s j, .v y] [P, Q] env = some ((env.set i (some s')).set j (some t')) := by
    have h2 : (env.set i (some s'))[j]? = some (some t) := by rw [List.getElem?_set_ne ij, ht]
    simp only [lay, hs, us, Option.bind, h2, ut]
  rw [b_ok, if_pos (show [Ar.s i, .v x, .s j, .v y].length = 4 from rfl)]
  unfold runC
  rw [if_pos nd, ad]
  dsimp only
  rw [hr]
  unfold outOf
  dsimp only
  rw [ly]
  rfl
theorem c13 {k i : Nat} {a : Ex} {env : Env} : ev (cal (all.map De.g) k) (.call 13 [.var i, a]) env = (Rs.of (rd i env) env).bind fun _ e0 => (evs (cal (all.map De.g) k) [a] e0).bind fun ds e1 => callS (fun d => run (all.map De.g) k 13 (d :: ds)) i e1 := ev_call1 (n := 2) rfl rfl
theorem c14 {k i : Nat} {a : Ex} {env : Env} : ev (cal (all.map De.g) k) (.call 14 [.var i, a]) env = (Rs.of (rd i env) env).bind fun _ e0 => (evs (cal (all.map De.g) k) [a] e0).bind fun ds e1 => callS (fun d => run (all.map De.g) k 14 (d :: ds)) i e1 := ev_call1 (n := 2) rfl rfl
theorem c21 {k : Nat} {a : Ex} {env : Env} : ev (cal (all.map De.g) k) (.call 20 [a]) env = (evs (cal (all.map De.g) k) [a] env).bind fun ds e1 => callV (run (all.map De.g) k 20 ds) e1 := ev_call0 (n := 1) rfl rfl
/-- what is known of a drawn tree -/
structure NT (W W' : WD) (t : Tr) (d : Nat) (n : Int) : Prop where
  okn : ∀ u ∈ nds t, okN u
  wid : ∀ r ts, Tr.own r ts ∈ nds t → wget W' r = some (ts.length : Nat)
  dep : dep t ≤ d
  lvn : (lv t : Int) ≤ max 1 n
  ext : Ext W W'
  wok : WOk W'
theorem NT.leaf {W : WD} (d : Nat) (n : Int) (h : WOk W) : NT W W .leaf d n :=
  ⟨fun u hu => by rw [nds] at hu; rw [List.mem_singleton.mp hu]; trivial, fun r ts h => by rw [nds] at h; simp at h, by rw [k08.dep]; omega, by rw [lv_leaf]; omega, Ext.refl W, h⟩
def ntEnv (P : D) (d : Int) (W : WD) (n many : Int) (at' : Option D) (room opt : Int) (parts : List Tr) (left : Int) (share : Option D) (part : Option D) : Env :=
  [some (.io P), some (.val (.int d)), some (.io (wD W)), some (.val (.int n)), some (.val (.int many)), at'.map Sl.val, some (.val (.int room)), some (.val (.int opt)), some (.own (.list (encs parts))), some (.val (.int left)), share.map Sl.val, part.map Sl.val]
def ntBody : List Sm := [.set 10 (.blt2 .max (.cst (.int 1)) (.bin .FloorDiv (.var 9) (.bin .Sub (.var 4) (.var 5)))),
    .ite (.cmp .Eq (.call 13 [(.var 0), (.cst (.int 2))]) (.cst (.int 0))) [.set 10 (.blt2 .max (.cst (.int 1)) (.bin .Sub (.var 9) (.bin .Sub (.bin .Sub (.var 4) (.var 5)) (.cst (.int 1)))))] [],
    .ite (.cmp .Gt (.var 7) (.cst (.int 0))) [.put 2 (.var 6) (.var 4)] [],
    .set 11 (.call 25 [(.var 0), (.bin .Sub (.var 1) (.cst (.int 1))), (.var 2), (.var 10)]),
    .set 9 (.bin .Sub (.var 9) (.blt .len (.call 20 [(.var 11)]))),
    .app 8 (.var 11)]
theorem max_ii (i j : Int) : oB .max [.int i, .int j] = some (.int (max i j)) := by
  show some (PyData.int (if j > i then j else i)) = _
  congr 2
  split <;> omega
theorem share_le (left m : Int) (h1 : 1 ≤ m) (h2 : m ≤ left) : left / m ≤ left - (m - 1) := by
  have h3 := Int.mul_ediv_add_emod left m
  have h4 := Int.emod_nonneg left (show m ≠ 0 by omega)
  have h5 : 1 ≤ left / m := by
    rw [Int.le_ediv_iff_mul_le (by omega)]
    omega
  have h6 : 0 ≤ (m - 1) * (left / m - 1) := Int.mul_nonneg (by omega) (by omega)
  have h7 : (m - 1) * (left / m - 1) = m * (left / m) - m - left / m + 1 := by
    rw [Int.mul_sub, Int.sub_mul]
    omega
  omega
theorem encs_app (ts us : List Tr) : encs (ts ++ us) = encs ts ++ encs us := by rw [encs_map, encs_map, encs_map, List.map_append]
/-- a lap of _law_new_tree -/
theorem nt_body (k d : Nat) (g : List Int) (s e n many room opt left : Int) (i : Nat) (W : WD) (parts : List Tr) (share : Option D) (part : Option D) (hs : 0 ≤ s) (hW : WOk W) (hm : 2 ≤ many ∧ many ≤ 4) (hi : (i : Int) < many) (hr : 0 ≤ room ∧ room ≤ 9)
    (hwg : 0 < opt → (wget W room).getD many = many) (hl : many - i ≤ left) (hl2 : left ≤ 100) (hd : d ≤ 8) (hp : parts.length = i)
    (ih : ∀ (s e : Int) (W : WD) (n : Int), 0 ≤ s → WOk W → n ≤ 100 → 1 ≤ n → ∃ t s' e' W', 0 ≤ s' ∧ NT W W' t d n ∧ run (all.map De.g) (k + 10) 25 [penD g s e, .int (d : Nat), wD W, .int n] = .ret (enc t) [penD g s' e', wD W']) :
    ∃ s' e' W' share' t, 0 ≤ s' ∧ NT W W' t d (left - (many - i - 1)) ∧ (0 < opt → wget W' room = some many) ∧
      exs (cal (all.map De.g) (k + 10)) ntBody (ntEnv (penD g s e) ((d : Nat) + 1) W n many (some (.int (i : Nat))) room opt parts left share part) =
        .nx (ntEnv (penD g s' e') ((d : Nat) + 1) W' n many (some (.int (i : Nat))) room opt (parts ++ [t]) (left - (lv t : Nat)) (some (.int share')) (some (enc t))) := by
  obtain ⟨x, s1, e1, x0, x1, hs1, dr⟩ := draw (k + 8) g s e 2 hs (by omega) (by omega)
  have dv : oBin .FloorDiv (.int left) (.int (many - i)) = some (.int (left / (many - i))) := div_ii (by omega) (by omega)
  have q1 : ex1 (cal (all.map De.g) (k + 10)) (.set 10 (.blt2 .max (.cst (.int 1)) (.bin .FloorDiv (.var 9) (.bin .Sub (.var 4) (.var 5))))) (ntEnv (penD g s e) ((d : Nat) + 1) W n many (some (.int (i : Nat))) room opt parts left share part) =
      .nx (ntEnv (penD g s e) ((d : Nat) + 1) W n many (some (.int (i : Nat))) room opt parts left (some (.int (max 1 (left / (many - i))))) part) := by
    simp [st_nil, st_cons, st_set, st_par, st_unp, st_put, st_app, st_ext, st_expr, st_ret, st_ite, st_pass, evL_nil, evL_cons, evs_nil, evs_cons, ev_var, ev_cst, ev_glob, ev_tup, ev_lst, ev_dic, ev_bin, ev_cmp, ev_chn, ev_band, ev_bor, ev_not, ev_neg, ev_ite, ev_blt, ev_blt2, ev_isi, ev_idx, ev_slc, ev_rev, ev_pop, ev_get, ev_get2, ev_index, two, brw, Ex.var?, valOf, Rs.bind, Rs.of, Rs.ou, Ou.nxt, nw, ol, slOf, nxO, rd, frz, Sl.d, putV_none, putV_val, putV_own, putV_map, putV_mapc, putL, asg, asgs, chg, upSl, app1, ext1, isLs, isDc, isLD, recv, later, tru_b, lt_ii, gt_ii, le_ii, ge_ii, eq_ii, ne_ii, at_0, at_1, at_2, at_3, add_ll, add_tt, oIdx, dT, small_lt, fin, finR, outs, callV, callS, ntEnv, sub_ii, dv, max_ii, putV_map (x := share)]
  have sle := share_le left (many - i) (by omega) hl
  have q2 : ∃ sh, 1 ≤ sh ∧ sh ≤ left - (many - i - 1) ∧ ex1 (cal (all.map De.g) (k + 10)) (.ite (.cmp .Eq (.call 13 [(.var 0), (.cst (.int 2))]) (.cst (.int 0))) [.set 10 (.blt2 .max (.cst (.int 1)) (.bin .Sub (.var 9) (.bin .Sub (.bin .Sub (.var 4) (.var 5)) (.cst (.int 1)))))] []) (ntEnv (penD g s e) ((d : Nat) + 1) W n many (some (.int (i : Nat))) room opt parts left (some (.int (max 1 (left / (many - i))))) part) =
      .nx (ntEnv (penD g s1 e1) ((d : Nat) + 1) W n many (some (.int (i : Nat))) room opt parts left (some (.int sh)) part) := by
    by_cases h0 : x = 0
    · refine ⟨max 1 (left - (many - i - 1)), by omega, by omega, ?_⟩
      simp [st_nil, st_cons, st_set, st_par, st_unp, st_put, st_app, st_ext, st_expr, st_ret, st_ite, st_pass, evL_nil, evL_cons, evs_nil, evs_cons, ev_var, ev_cst, ev_glob, ev_tup, ev_lst, ev_dic, ev_bin, ev_cmp, ev_chn, ev_band, ev_bor, ev_not, ev_neg, ev_ite, ev_blt, ev_blt2, ev_isi, ev_idx, ev_slc, ev_rev, ev_pop, ev_get, ev_get2, ev_index, two, brw, Ex.var?, valOf, Rs.bind, Rs.of, Rs.ou, Ou.nxt, nw, ol, slOf, nxO, rd, frz, Sl.d, putV_none, putV_val, putV_own, putV_map, putV_mapc, putL, asg, asgs, chg, upSl, app1, ext1, isLs, isDc, isLD, recv, later, tru_b, lt_ii, gt_ii, le_ii, ge_ii, eq_ii, ne_ii, at_0, at_1, at_2, at_3, add_ll, add_tt, oIdx, dT, small_lt, fin, finR, outs, callV, callS, ntEnv, c13, dr, h0, sub_ii, max_ii]
    · refine ⟨max 1 (left / (many - i)), by omega, by omega, ?_⟩
      simp [st_nil, st_cons, st_set, st_par, st_unp, st_put, st_app, st_ext, st_expr, st_ret, st_ite, st_pass, evL_nil, evL_cons, evs_nil, evs_cons, ev_var, ev_cst, ev_glob, ev_tup, ev_lst, ev_dic, ev_bin, ev_cmp, ev_chn, ev_band, ev_bor, ev_not, ev_neg, ev_ite, ev_blt, ev_blt2, ev_isi, ev_idx, ev_slc, ev_rev, ev_pop, ev_get, ev_get2, ev_index, two, brw, Ex.var?, valOf, Rs.bind, Rs.of, Rs.ou, Ou.nxt, nw, ol, slOf, nxO, rd, frz, Sl.d, putV_none, putV_val, putV_own, putV_map, putV_mapc, putL, asg, asgs, chg, upSl, app1, ext1, isLs, isDc, isLD, recv, later, tru_b, lt_ii, gt_ii, le_ii, ge_ii, eq_ii, ne_ii, at_0, at_1, at_2, at_3, add_ll, add_tt, oIdx, dT, small_lt, fin, finR, outs, callV, callS, ntEnv, c13, dr, h0]
  obtain ⟨sh, sh1, sh2, q2⟩ := q2
  have q3 : ∃ W1, Ext W W1 ∧ WOk W1 ∧ (0 < opt → wget W1 room = some many) ∧ ex1 (cal (all.map De.g) (k + 10)) (.ite (.cmp .Gt (.var 7) (.cst (.int 0))) [.put 2 (.var 6) (.var 4)] []) (ntEnv (penD g s1 e1) ((d : Nat) + 1) W n many (some (.int (i : Nat))) room opt parts left (some (.int sh)) part) =
      .nx (ntEnv (penD g s1 e1) ((d : Nat) + 1) W1 n many (some (.int (i : Nat))) room opt parts left (some (.int sh)) part) := by
    by_cases h0 : 0 < opt
    · refine ⟨wput W room many, ext_put (hwg h0), hW.put hr hm, fun _ => by rw [wget_put, if_pos rfl], ?_⟩
      have pw := put_w W room many (by have := hW.len; omega)
      simp [st_nil, st_cons, st_set, st_par, st_unp, st_put, st_app, st_ext, st_expr, st_ret, st_ite, st_pass, evL_nil, evL_cons, evs_nil, evs_cons, ev_var, ev_cst, ev_glob, ev_tup, ev_lst, ev_dic, ev_bin, ev_cmp, ev_chn, ev_band, ev_bor, ev_not, ev_neg, ev_ite, ev_blt, ev_blt2, ev_isi, ev_idx, ev_slc, ev_rev, ev_pop, ev_get, ev_get2, ev_index, two, brw, Ex.var?, valOf, Rs.bind, Rs.of, Rs.ou, Ou.nxt, nw, ol, slOf, nxO, rd, frz, Sl.d, putV_none, putV_val, putV_own, putV_map, putV_mapc, putL, asg, asgs, chg, upSl, app1, ext1, isLs, isDc, isLD, recv, later, tru_b, lt_ii, gt_ii, le_ii, ge_ii, eq_ii, ne_ii, at_0, at_1, at_2, at_3, add_ll, add_tt, oIdx, dT, small_lt, fin, finR, outs, callV, callS, ntEnv, h0, pw]
    · refine ⟨W, Ext.refl W, hW, fun h => absurd h h0, ?_⟩
      simp [st_nil, st_cons, st_set, st_par, st_unp, st_put, st_app, st_ext, st_expr, st_ret, st_ite, st_pass, evL_nil, evL_cons, evs_nil, evs_cons, ev_var, ev_cst, ev_glob, ev_tup, ev_lst, ev_dic, ev_bin, ev_cmp, ev_chn, ev_band, ev_bor, ev_not, ev_neg, ev_ite, ev_blt, ev_blt2, ev_isi, ev_idx, ev_slc, ev_rev, ev_pop, ev_get, ev_get2, ev_index, two, brw, Ex.var?, valOf, Rs.bind, Rs.of, Rs.ou, Ou.nxt, nw, ol, slOf, nxO, rd, frz, Sl.d, putV_none, putV_val, putV_own, putV_map, putV_mapc, putL, asg, asgs, chg, upSl, app1, ext1, isLs, isDc, isLD, recv, later, tru_b, lt_ii, gt_ii, le_ii, ge_ii, eq_ii, ne_ii, at_0, at_1, at_2, at_3, add_ll, add_tt, oIdx, dT, small_lt, fin, finR, outs, callV, callS, ntEnv, h0]
  obtain ⟨W1, x1', w1, g1, q3⟩ := q3
  obtain ⟨t, s2, e2, W2, hs2, nt, rn⟩ := ih s1 e1 W1 sh hs1 w1 (by omega) sh1
  have q4 : ex1 (cal (all.map De.g) (k + 10)) (.set 11 (.call 25 [(.var 0), (.bin .Sub (.var 1) (.cst (.int 1))), (.var 2), (.var 10)])) (ntEnv (penD g s1 e1) ((d : Nat) + 1) W1 n many (some (.int (i : Nat))) room opt parts left (some (.int sh)) part) =
      .nx (ntEnv (penD g s2 e2) ((d : Nat) + 1) W2 n many (some (.int (i : Nat))) room opt parts left (some (.int sh)) (some (enc t))) := by
    have ha : ev (cal (all.map De.g) (k + 10)) (.bin .Sub (.var 1) (.cst (.int 1))) (ntEnv (penD g s1 e1) ((d : Nat) + 1) W1 n many (some (.int (i : Nat))) room opt parts left (some (.int sh)) part) = .ok (false, .int (d : Nat)) (ntEnv (penD g s1 e1) ((d : Nat) + 1) W1 n many (some (.int (i : Nat))) room opt parts left (some (.int sh)) part) := by
      simp [st_nil, st_cons, st_set, st_par, st_unp, st_put, st_app, st_ext, st_expr, st_ret, st_ite, st_pass, evL_nil, evL_cons, evs_nil, evs_cons, ev_var, ev_cst, ev_glob, ev_tup, ev_lst, ev_dic, ev_bin, ev_cmp, ev_chn, ev_band, ev_bor, ev_not, ev_neg, ev_ite, ev_blt, ev_blt2, ev_isi, ev_idx, ev_slc, ev_rev, ev_pop, ev_get, ev_get2, ev_index, two, brw, Ex.var?, valOf, Rs.bind, Rs.of, Rs.ou, Ou.nxt, nw, ol, slOf, nxO, rd, frz, Sl.d, putV_none, putV_val, putV_own, putV_map, putV_mapc, putL, asg, asgs, chg, upSl, app1, ext1, isLs, isDc, isLD, recv, later, tru_b, lt_ii, gt_ii, le_ii, ge_ii, eq_ii, ne_ii, at_0, at_1, at_2, at_3, add_ll, add_tt, oIdx, dT, small_lt, fin, finR, outs, callV, callS, ntEnv, sub_ii]
    have hb : ev (cal (all.map De.g) (k + 10)) (.var 10) (ntEnv (penD g s1 e1) ((d : Nat) + 1) W1 n many (some (.int (i : Nat))) room opt parts left (some (.int sh)) part) = .ok (false, .int sh) (ntEnv (penD g s1 e1) ((d : Nat) + 1) W1 n many (some (.int (i : Nat))) room opt parts left (some (.int sh)) part) := by
      simp [st_nil, st_cons, st_set, st_par, st_unp, st_put, st_app, st_ext, st_expr, st_ret, st_ite, st_pass, evL_nil, evL_cons, evs_nil, evs_cons, ev_var, ev_cst, ev_glob, ev_tup, ev_lst, ev_dic, ev_bin, ev_cmp, ev_chn, ev_band, ev_bor, ev_not, ev_neg, ev_ite, ev_blt, ev_blt2, ev_isi, ev_idx, ev_slc, ev_rev, ev_pop, ev_get, ev_get2, ev_index, two, brw, Ex.var?, valOf, Rs.bind, Rs.of, Rs.ou, Ou.nxt, nw, ol, slOf, nxO, rd, frz, Sl.d, putV_none, putV_val, putV_own, putV_map, putV_mapc, putL, asg, asgs, chg, upSl, app1, ext1, isLs, isDc, isLD, recv, later, tru_b, lt_ii, gt_ii, le_ii, ge_ii, eq_ii, ne_ii, at_0, at_1, at_2, at_3, add_ll, add_tt, oIdx, dT, small_lt, fin, finR, outs, callV, callS, ntEnv]
    have cl := ev_callT (c := cal (all.map De.g) (k + 10)) (f := 25) (i := 0) (j := 2) (s := .io (penD g s1 e1)) (t := .io (wD W1)) (s' := .io (penD g s2 e2)) (t' := .io (wD W2)) rfl (by omega) rfl rfl rfl rfl ha hb rn rfl rfl
    rw [st_set, cl]
    cases part <;> simp [Rs.ou, slOf, nxO, ntEnv, putV]
  have gd : Good t := good_of nt.okn (by have := nt.dep; omega) (by have := nt.lvn; omega)
  have le := law_ends (k + 6) t gd (okA_of nt.okn)
  have q5 : ex1 (cal (all.map De.g) (k + 10)) (.set 9 (.bin .Sub (.var 9) (.blt .len (.call 20 [(.var 11)])))) (ntEnv (penD g s2 e2) ((d : Nat) + 1) W2 n many (some (.int (i : Nat))) room opt parts left (some (.int sh)) (some (enc t))) =
      .nx (ntEnv (penD g s2 e2) ((d : Nat) + 1) W2 n many (some (.int (i : Nat))) room opt parts (left - (lv t : Nat)) (some (.int sh)) (some (enc t))) := by
    have en := ends_len t
    simp [st_nil, st_cons, st_set, st_par, st_unp, st_put, st_app, st_ext, st_expr, st_ret, st_ite, st_pass, evL_nil, evL_cons, evs_nil, evs_cons, ev_var, ev_cst, ev_glob, ev_tup, ev_lst, ev_dic, ev_bin, ev_cmp, ev_chn, ev_band, ev_bor, ev_not, ev_neg, ev_ite, ev_blt, ev_blt2, ev_isi, ev_idx, ev_slc, ev_rev, ev_pop, ev_get, ev_get2, ev_index, two, brw, Ex.var?, valOf, Rs.bind, Rs.of, Rs.ou, Ou.nxt, nw, ol, slOf, nxO, rd, frz, Sl.d, putV_none, putV_val, putV_own, putV_map, putV_mapc, putL, asg, asgs, chg, upSl, app1, ext1, isLs, isDc, isLD, recv, later, tru_b, lt_ii, gt_ii, le_ii, ge_ii, eq_ii, ne_ii, at_0, at_1, at_2, at_3, add_ll, add_tt, oIdx, dT, small_lt, fin, finR, outs, callV, callS, ntEnv, c21, le, oB, sub_ii, en]
  have q6 : ex1 (cal (all.map De.g) (k + 10)) (.app 8 (.var 11)) (ntEnv (penD g s2 e2) ((d : Nat) + 1) W2 n many (some (.int (i : Nat))) room opt parts (left - (lv t : Nat)) (some (.int sh)) (some (enc t))) =
      .nx (ntEnv (penD g s2 e2) ((d : Nat) + 1) W2 n many (some (.int (i : Nat))) room opt (parts ++ [t]) (left - (lv t : Nat)) (some (.int sh)) (some (enc t))) := by
    have sm : small ((encs parts).length + 1) = true := small_lt (by rw [encs_len]; omega)
    simp [st_nil, st_cons, st_set, st_par, st_unp, st_put, st_app, st_ext, st_expr, st_ret, st_ite, st_pass, evL_nil, evL_cons, evs_nil, evs_cons, ev_var, ev_cst, ev_glob, ev_tup, ev_lst, ev_dic, ev_bin, ev_cmp, ev_chn, ev_band, ev_bor, ev_not, ev_neg, ev_ite, ev_blt, ev_blt2, ev_isi, ev_idx, ev_slc, ev_rev, ev_pop, ev_get, ev_get2, ev_index, two, brw, Ex.var?, valOf, Rs.bind, Rs.of, Rs.ou, Ou.nxt, nw, ol, slOf, nxO, rd, frz, Sl.d, putV_none, putV_val, putV_own, putV_map, putV_mapc, putL, asg, asgs, chg, upSl, app1, ext1, isLs, isDc, isLD, recv, later, tru_b, lt_ii, gt_ii, le_ii, ge_ii, eq_ii, ne_ii, at_0, at_1, at_2, at_3, add_ll, add_tt, oIdx, dT, small_lt, fin, finR, outs, callV, callS, ntEnv, sm, encs_app, encs]
  refine ⟨s2, e2, W2, sh, t, hs2, ⟨nt.okn, nt.wid, nt.dep, by have := nt.lvn; omega, x1'.trans nt.ext, nt.wok⟩, fun h => nt.ext _ _ (g1 h), ?_⟩
  rw [ntBody, st_cons, q1, nxt_nx, st_cons, q2, nxt_nx, st_cons, q3, nxt_nx, st_cons, q4, nxt_nx, st_cons, q5, nxt_nx, st_cons, q6, nxt_nx, st_nil]
theorem one_of_int (k : Nat) (g : List Int) (s d : Int) (ns : List Int) (h : 0 ≤ s) (hx : ns ≠ []) (hl : ns.length < 1000) : ∃ x s' d', x ∈ ns ∧ 0 ≤ s' ∧ run (all.map De.g) (k + 3) 14 [penD g s d, .list (ns.map PyData.int)] = .ret (.int x) [penD g s' d'] := by
  obtain ⟨x, s', d', hm, hs, hr⟩ := one_of k g s d (ns.map PyData.int) h (by simpa using hx) (by simpa using hl)
  obtain ⟨y, hy, rfl⟩ := List.mem_map.mp hm
  exact ⟨y, s', d', hy, hs, hr⟩
/-- _law_new_tree -/
theorem new_tree : ∀ (d : Nat), d ≤ 8 → ∀ (K : Nat), d + 10 ≤ K → ∀ (g : List Int) (s e : Int) (W : WD) (n : Int), 0 ≤ s → WOk W → n ≤ 100 → 1 ≤ n →
    ∃ t s' e' W', 0 ≤ s' ∧ NT W W' t d n ∧ run (all.map De.g) K 25 [penD g s e, .int (d : Nat), wD W, .int n] = .ret (enc t) [penD g s' e', wD W']
  | 0, hd, K, hK, g, s, e, W, n, hs, hW, hn, hn1 => by
    obtain ⟨k, rfl⟩ : ∃ k, K = k + 1 := ⟨K - 1, by omega⟩
    refine ⟨.leaf, s, e, W, hs, NT.leaf 0 n hW, ?_⟩
    rw [run_def (g := d__law_new_tree.g) rfl rfl]
    show fin d__law_new_tree.g (exs _ b__law_new_tree [some (.io (penD g s e)), some (.val (.int 0)), some (.io (wD W)), some (.val (.int n)), none, none, none, none, none, none, none, none]) = _
    rw [b__law_new_tree, st_cons]
    simp [st_nil, st_cons, st_set, st_par, st_unp, st_put, st_app, st_ext, st_expr, st_ret, st_ite, st_pass, evL_nil, evL_cons, evs_nil, evs_cons, ev_var, ev_cst, ev_glob, ev_tup, ev_lst, ev_dic, ev_bin, ev_cmp, ev_chn, ev_band, ev_bor, ev_not, ev_neg, ev_ite, ev_blt, ev_blt2, ev_isi, ev_idx, ev_slc, ev_rev, ev_pop, ev_get, ev_get2, ev_index, two, brw, Ex.var?, valOf, Rs.bind, Rs.of, Rs.ou, Ou.nxt, nw, ol, slOf, nxO, rd, frz, Sl.d, putV_none, putV_val, putV_own, putV_map, putV_mapc, putL, asg, asgs, chg, upSl, app1, ext1, isLs, isDc, isLD, recv, later, tru_b, lt_ii, gt_ii, le_ii, ge_ii, eq_ii, ne_ii, at_0, at_1, at_2, at_3, add_ll, add_tt, oIdx, dT, small_lt, fin, finR, outs, callV, callS, enc, d__law_new_tree]
  | d + 1, hd, K, hK, g, s, e, W, n, hs, hW, hn, hn1 => by
    obtain ⟨k, rfl⟩ : ∃ k, K = k + 10 + 1 := ⟨K - 11, by omega⟩
    have cast : ((d + 1 : Nat) : Int) = (d : Nat) + 1 := by omega
    have d0 : ¬ ((d : Nat) : Int) + 1 = 0 := by omega
    rw [cast, run_def (g := d__law_new_tree.g) rfl rfl]
    show ∃ t s' e' W', _ ∧ _ ∧ fin d__law_new_tree.g (exs (cal (all.map De.g) (k + 10)) b__law_new_tree [some (.io (penD g s e)), some (.val (.int ((d : Nat) + 1))), some (.io (wD W)), some (.val (.int n)), none, none, none, none, none, none, none, none]) = _
    by_cases n2 : n < 2
    · refine ⟨.leaf, s, e, W, hs, NT.leaf (d + 1) n hW, ?_⟩
      rw [b__law_new_tree, st_cons]
      simp [st_nil, st_cons, st_set, st_par, st_unp, st_put, st_app, st_ext, st_expr, st_ret, st_ite, st_pass, evL_nil, evL_cons, evs_nil, evs_cons, ev_var, ev_cst, ev_glob, ev_tup, ev_lst, ev_dic, ev_bin, ev_cmp, ev_chn, ev_band, ev_bor, ev_not, ev_neg, ev_ite, ev_blt, ev_blt2, ev_isi, ev_idx, ev_slc, ev_rev, ev_pop, ev_get, ev_get2, ev_index, two, brw, Ex.var?, valOf, Rs.bind, Rs.of, Rs.ou, Ou.nxt, nw, ol, slOf, nxO, rd, frz, Sl.d, putV_none, putV_val, putV_own, putV_map, putV_mapc, putL, asg, asgs, chg, upSl, app1, ext1, isLs, isDc, isLD, recv, later, tru_b, lt_ii, gt_ii, le_ii, ge_ii, eq_ii, ne_ii, at_0, at_1, at_2, at_3, add_ll, add_tt, oIdx, dT, small_lt, fin, finR, outs, callV, callS, enc, d__law_new_tree, d0, n2]
    obtain ⟨x, s1, e1, x0, x1, hs1, dr⟩ := draw (k + 8) g s e 4 hs (by omega) (by omega)
    by_cases hx : x = 0
    · subst hx
      refine ⟨.leaf, s1, e1, W, hs1, NT.leaf (d + 1) n hW, ?_⟩
      rw [b__law_new_tree, st_cons]
      simp [st_nil, st_cons, st_set, st_par, st_unp, st_put, st_app, st_ext, st_expr, st_ret, st_ite, st_pass, evL_nil, evL_cons, evs_nil, evs_cons, ev_var, ev_cst, ev_glob, ev_tup, ev_lst, ev_dic, ev_bin, ev_cmp, ev_chn, ev_band, ev_bor, ev_not, ev_neg, ev_ite, ev_blt, ev_blt2, ev_isi, ev_idx, ev_slc, ev_rev, ev_pop, ev_get, ev_get2, ev_index, two, brw, Ex.var?, valOf, Rs.bind, Rs.of, Rs.ou, Ou.nxt, nw, ol, slOf, nxO, rd, frz, Sl.d, putV_none, putV_val, putV_own, putV_map, putV_mapc, putL, asg, asgs, chg, upSl, app1, ext1, isLs, isDc, isLD, recv, later, tru_b, lt_ii, gt_ii, le_ii, ge_ii, eq_ii, ne_ii, at_0, at_1, at_2, at_3, add_ll, add_tt, oIdx, dT, small_lt, fin, finR, outs, callV, callS, enc, d__law_new_tree, d0, n2, c13, dr]
    have q1 : ex1 (cal (all.map De.g) (k + 10)) (.ite (.bor (.cmp .Eq (.var 1) (.cst (.int 0))) (.bor (.cmp .Lt (.var 3) (.cst (.int 2))) (.cmp .Eq (.call 13 [(.var 0), (.cst (.int 4))]) (.cst (.int 0))))) [.ret (.tup [])] []) [some (.io (penD g s e)), some (.val (.int ((d : Nat) + 1))), some (.io (wD W)), some (.val (.int n)), none, none, none, none, none, none, none, none] =
        .nx [some (.io (penD g s1 e1)), some (.val (.int ((d : Nat) + 1))), some (.io (wD W)), some (.val (.int n)), none, none, none, none, none, none, none, none] := by
      simp [st_nil, st_cons, st_set, st_par, st_unp, st_put, st_app, st_ext, st_expr, st_ret, st_ite, st_pass, evL_nil, evL_cons, evs_nil, evs_cons, ev_var, ev_cst, ev_glob, ev_tup, ev_lst, ev_dic, ev_bin, ev_cmp, ev_chn, ev_band, ev_bor, ev_not, ev_neg, ev_ite, ev_blt, ev_blt2, ev_isi, ev_idx, ev_slc, ev_rev, ev_pop, ev_get, ev_get2, ev_index, two, brw, Ex.var?, valOf, Rs.bind, Rs.of, Rs.ou, Ou.nxt, nw, ol, slOf, nxO, rd, frz, Sl.d, putV_none, putV_val, putV_own, putV_map, putV_mapc, putL, asg, asgs, chg, upSl, app1, ext1, isLs, isDc, isLD, recv, later, tru_b, lt_ii, gt_ii, le_ii, ge_ii, eq_ii, ne_ii, at_0, at_1, at_2, at_3, add_ll, add_tt, oIdx, dT, small_lt, fin, finR, outs, callV, callS, d0, n2, c13, dr, hx]
    obtain ⟨room, s2, e2, hroom, hs2, dr2⟩ := one_of_int (k + 7) g s1 e1 [0, 1, 2, 9] hs1 (by simp) (by simp)
    have hroom : 0 ≤ room ∧ room ≤ 9 := by simp at hroom; omega
    obtain ⟨opt, s3, e3, o0, o1, hs3, dr3⟩ := draw (k + 8) g s2 e2 3 hs2 (by omega) (by omega)
    have q2 : ex1 (cal (all.map De.g) (k + 10)) (.par [6, 7] [(.call 14 [(.var 0), (.lst [(.cst (.int 0)), (.cst (.int 1)), (.cst (.int 2)), (.cst (.int 9))])]), (.call 13 [(.var 0), (.cst (.int 3))])]) [some (.io (penD g s1 e1)), some (.val (.int ((d : Nat) + 1))), some (.io (wD W)), some (.val (.int n)), none, none, none, none, none, none, none, none] =
        .nx [some (.io (penD g s3 e3)), some (.val (.int ((d : Nat) + 1))), some (.io (wD W)), some (.val (.int n)), none, none, some (.val (.int room)), some (.val (.int opt)), none, none, none, none] := by
      simp at dr2
      simp [st_nil, st_cons, st_set, st_par, st_unp, st_put, st_app, st_ext, st_expr, st_ret, st_ite, st_pass, evL_nil, evL_cons, evs_nil, evs_cons, ev_var, ev_cst, ev_glob, ev_tup, ev_lst, ev_dic, ev_bin, ev_cmp, ev_chn, ev_band, ev_bor, ev_not, ev_neg, ev_ite, ev_blt, ev_blt2, ev_isi, ev_idx, ev_slc, ev_rev, ev_pop, ev_get, ev_get2, ev_index, two, brw, Ex.var?, valOf, Rs.bind, Rs.of, Rs.ou, Ou.nxt, nw, ol, slOf, nxO, rd, frz, Sl.d, putV_none, putV_val, putV_own, putV_map, putV_mapc, putL, asg, asgs, chg, upSl, app1, ext1, isLs, isDc, isLD, recv, later, tru_b, lt_ii, gt_ii, le_ii, ge_ii, eq_ii, ne_ii, at_0, at_1, at_2, at_3, add_ll, add_tt, oIdx, dT, small_lt, fin, finR, outs, callV, callS, c13, c14, dr2, dr3]
    obtain ⟨m0, s4, e4, hm0, hs4, dr4⟩ := one_of_int (k + 7) g s3 e3 [2, 2, 2, 3, 4] hs3 (by simp) (by simp)
    have hm0 : 2 ≤ m0 ∧ m0 ≤ 4 := by simp at hm0; omega
    have q3 : ex1 (cal (all.map De.g) (k + 10)) (.set 4 (.call 14 [(.var 0), (.lst [(.cst (.int 2)), (.cst (.int 2)), (.cst (.int 2)), (.cst (.int 3)), (.cst (.int 4))])])) [some (.io (penD g s3 e3)), some (.val (.int ((d : Nat) + 1))), some (.io (wD W)), some (.val (.int n)), none, none, some (.val (.int room)), some (.val (.int opt)), none, none, none, none] =
        .nx [some (.io (penD g s4 e4)), some (.val (.int ((d : Nat) + 1))), some (.io (wD W)), some (.val (.int n)), some (.val (.int m0)), none, some (.val (.int room)), some (.val (.int opt)), none, none, none, none] := by
      simp at dr4
      simp [st_nil, st_cons, st_set, st_par, st_unp, st_put, st_app, st_ext, st_expr, st_ret, st_ite, st_pass, evL_nil, evL_cons, evs_nil, evs_cons, ev_var, ev_cst, ev_glob, ev_tup, ev_lst, ev_dic, ev_bin, ev_cmp, ev_chn, ev_band, ev_bor, ev_not, ev_neg, ev_ite, ev_blt, ev_blt2, ev_isi, ev_idx, ev_slc, ev_rev, ev_pop, ev_get, ev_get2, ev_index, two, brw, Ex.var?, valOf, Rs.bind, Rs.of, Rs.ou, Ou.nxt, nw, ol, slOf, nxO, rd, frz, Sl.d, putV_none, putV_val, putV_own, putV_map, putV_mapc, putL, asg, asgs, chg, upSl, app1, ext1, isLs, isDc, isLD, recv, later, tru_b, lt_ii, gt_ii, le_ii, ge_ii, eq_ii, ne_ii, at_0, at_1, at_2, at_3, add_ll, add_tt, oIdx, dT, small_lt, fin, finR, outs, callV, callS, c14, dr4]
    have q4 : ∃ many : Int, 2 ≤ many ∧ many ≤ 4 ∧ (0 < opt → (wget W room).getD many = many) ∧ ex1 (cal (all.map De.g) (k + 10)) (.set 4 (.ite (.cmp .Gt (.var 7) (.cst (.int 0))) (.get2 (.var 2) (.var 6) (.var 4)) (.var 4))) [some (.io (penD g s4 e4)), some (.val (.int ((d : Nat) + 1))), some (.io (wD W)), some (.val (.int n)), some (.val (.int m0)), none, some (.val (.int room)), some (.val (.int opt)), none, none, none, none] =
        .nx [some (.io (penD g s4 e4)), some (.val (.int ((d : Nat) + 1))), some (.io (wD W)), some (.val (.int n)), some (.val (.int many)), none, some (.val (.int room)), some (.val (.int opt)), none, none, none, none] := by
      by_cases h0 : 0 < opt
      · have go := getOr_w W room m0
        have dc : isDc (wD W) = true := rfl
        refine ⟨(wget W room).getD m0, ?_, ?_, fun _ => ?_, ?_⟩
        · cases hg : wget W room with
          | none => exact hm0.1
          | some v => exact (hW.get hg).1
        · cases hg : wget W room with
          | none => exact hm0.2
          | some v => exact (hW.get hg).2
        · cases wget W room <;> rfl
        · simp [st_nil, st_cons, st_set, st_par, st_unp, st_put, st_app, st_ext, st_expr, st_ret, st_ite, st_pass, evL_nil, evL_cons, evs_nil, evs_cons, ev_var, ev_cst, ev_glob, ev_tup, ev_lst, ev_dic, ev_bin, ev_cmp, ev_chn, ev_band, ev_bor, ev_not, ev_neg, ev_ite, ev_blt, ev_blt2, ev_isi, ev_idx, ev_slc, ev_rev, ev_pop, ev_get, ev_get2, ev_index, two, brw, Ex.var?, valOf, Rs.bind, Rs.of, Rs.ou, Ou.nxt, nw, ol, slOf, nxO, rd, frz, Sl.d, putV_none, putV_val, putV_own, putV_map, putV_mapc, putL, asg, asgs, chg, upSl, app1, ext1, isLs, isDc, isLD, recv, later, tru_b, lt_ii, gt_ii, le_ii, ge_ii, eq_ii, ne_ii, at_0, at_1, at_2, at_3, add_ll, add_tt, oIdx, dT, small_lt, fin, finR, outs, callV, callS, h0, go, dc, -isDc]
      · exact ⟨m0, hm0.1, hm0.2, fun h => absurd h h0, by simp [st_nil, st_cons, st_set, st_par, st_unp, st_put, st_app, st_ext, st_expr, st_ret, st_ite, st_pass, evL_nil, evL_cons, evs_nil, evs_cons, ev_var, ev_cst, ev_glob, ev_tup, ev_lst, ev_dic, ev_bin, ev_cmp, ev_chn, ev_band, ev_bor, ev_not, ev_neg, ev_ite, ev_blt, ev_blt2, ev_isi, ev_idx, ev_slc, ev_rev, ev_pop, ev_get, ev_get2, ev_index, two, brw, Ex.var?, valOf, Rs.bind, Rs.of, Rs.ou, Ou.nxt, nw, ol, slOf, nxO, rd, frz, Sl.d, putV_none, putV_val, putV_own, putV_map, putV_mapc, putL, asg, asgs, chg, upSl, app1, ext1, isLs, isDc, isLD, recv, later, tru_b, lt_ii, gt_ii, le_ii, ge_ii, eq_ii, ne_ii, at_0, at_1, at_2, at_3, add_ll, add_tt, oIdx, dT, small_lt, fin, finR, outs, callV, callS, h0]⟩
    obtain ⟨many, m2, m4, hwg, q4⟩ := q4
    rw [b__law_new_tree, st_cons, q1, nxt_nx, st_cons, q2, nxt_nx, st_cons, q3, nxt_nx, st_cons, q4, nxt_nx]
    by_cases hmn : n < many
    · refine ⟨.leaf, s4, e4, W, hs4, NT.leaf (d + 1) n hW, ?_⟩
      rw [st_cons]
      simp [st_nil, st_cons, st_set, st_par, st_unp, st_put, st_app, st_ext, st_expr, st_ret, st_ite, st_pass, evL_nil, evL_cons, evs_nil, evs_cons, ev_var, ev_cst, ev_glob, ev_tup, ev_lst, ev_dic, ev_bin, ev_cmp, ev_chn, ev_band, ev_bor, ev_not, ev_neg, ev_ite, ev_blt, ev_blt2, ev_isi, ev_idx, ev_slc, ev_rev, ev_pop, ev_get, ev_get2, ev_index, two, brw, Ex.var?, valOf, Rs.bind, Rs.of, Rs.ou, Ou.nxt, nw, ol, slOf, nxO, rd, frz, Sl.d, putV_none, putV_val, putV_own, putV_map, putV_mapc, putL, asg, asgs, chg, upSl, app1, ext1, isLs, isDc, isLD, recv, later, tru_b, lt_ii, gt_ii, le_ii, ge_ii, eq_ii, ne_ii, at_0, at_1, at_2, at_3, add_ll, add_tt, oIdx, dT, small_lt, fin, finR, outs, callV, callS, enc, d__law_new_tree, hmn]
    have q5 : ex1 (cal (all.map De.g) (k + 10)) (.ite (.cmp .Gt (.var 4) (.var 3)) [.ret (.tup [])] []) [some (.io (penD g s4 e4)), some (.val (.int ((d : Nat) + 1))), some (.io (wD W)), some (.val (.int n)), some (.val (.int many)), none, some (.val (.int room)), some (.val (.int opt)), none, none, none, none] =
        .nx [some (.io (penD g s4 e4)), some (.val (.int ((d : Nat) + 1))), some (.io (wD W)), some (.val (.int n)), some (.val (.int many)), none, some (.val (.int room)), some (.val (.int opt)), none, none, none, none] := by
      simp [st_nil, st_cons, st_set, st_par, st_unp, st_put, st_app, st_ext, st_expr, st_ret, st_ite, st_pass, evL_nil, evL_cons, evs_nil, evs_cons, ev_var, ev_cst, ev_glob, ev_tup, ev_lst, ev_dic, ev_bin, ev_cmp, ev_chn, ev_band, ev_bor, ev_not, ev_neg, ev_ite, ev_blt, ev_blt2, ev_isi, ev_idx, ev_slc, ev_rev, ev_pop, ev_get, ev_get2, ev_index, two, brw, Ex.var?, valOf, Rs.bind, Rs.of, Rs.ou, Ou.nxt, nw, ol, slOf, nxO, rd, frz, Sl.d, putV_none, putV_val, putV_own, putV_map, putV_mapc, putL, asg, asgs, chg, upSl, app1, ext1, isLs, isDc, isLD, recv, later, tru_b, lt_ii, gt_ii, le_ii, ge_ii, eq_ii, ne_ii, at_0, at_1, at_2, at_3, add_ll, add_tt, oIdx, dT, small_lt, fin, finR, outs, callV, callS, hmn]
    have q6 : ex1 (cal (all.map De.g) (k + 10)) (.par [8, 9] [(.lst []), (.var 3)]) [some (.io (penD g s4 e4)), some (.val (.int ((d : Nat) + 1))), some (.io (wD W)), some (.val (.int n)), some (.val (.int many)), none, some (.val (.int room)), some (.val (.int opt)), none, none, none, none] =
        .nx (ntEnv (penD g s4 e4) ((d : Nat) + 1) W n many none room opt [] n none none) := by
      simp [st_nil, st_cons, st_set, st_par, st_unp, st_put, st_app, st_ext, st_expr, st_ret, st_ite, st_pass, evL_nil, evL_cons, evs_nil, evs_cons, ev_var, ev_cst, ev_glob, ev_tup, ev_lst, ev_dic, ev_bin, ev_cmp, ev_chn, ev_band, ev_bor, ev_not, ev_neg, ev_ite, ev_blt, ev_blt2, ev_isi, ev_idx, ev_slc, ev_rev, ev_pop, ev_get, ev_get2, ev_index, two, brw, Ex.var?, valOf, Rs.bind, Rs.of, Rs.ou, Ou.nxt, nw, ol, slOf, nxO, rd, frz, Sl.d, putV_none, putV_val, putV_own, putV_map, putV_mapc, putL, asg, asgs, chg, upSl, app1, ext1, isLs, isDc, isLD, recv, later, tru_b, lt_ii, gt_ii, le_ii, ge_ii, eq_ii, ne_ii, at_0, at_1, at_2, at_3, add_ll, add_tt, oIdx, dT, small_lt, fin, finR, outs, callV, callS, ntEnv, encs]
    obtain ⟨e', lp, s5, e5, W5, parts, left, share, part, at5, he, hs5, w5, x5, hlen, hleft, hlf, g5, g6, hall⟩ := loop_on (f := fun x e2 => match asg (.v 5) x e2 with
        | some e3 => exs (cal (all.map De.g) (k + 10)) ntBody e3
        | none => .no) (fun i : Nat => PyData.int (0 + (i : Nat))) (fun pr env => ∃ s' e' W' parts left share part at', env = ntEnv (penD g s' e') ((d : Nat) + 1) W' n many at' room opt parts left share part ∧ 0 ≤ s' ∧ WOk W' ∧ Ext W W' ∧ parts.length = pr.length ∧
          left = n - (lvs parts : Nat) ∧ many - (pr.length : Nat) ≤ left ∧ (0 < opt → (wget W' room).getD many = many) ∧ (0 < opt → pr ≠ [] → wget W' room = some many) ∧
          ∀ u ∈ parts, (∀ v ∈ nds u, okN v) ∧ (∀ r ts, Tr.own r ts ∈ nds u → wget W' r = some (ts.length : Nat)) ∧ dep u ≤ d) (List.range many.toNat) (by
      rintro pr i post env hw ⟨s', e', W', parts, left, share, part, at', rfl, hs', w', x', hlen, hleft, hlf, g1, g2, hall⟩
      have hi : i = pr.length := by
        have h1 : (List.range many.toNat)[pr.length]? = some i := by rw [hw]; simp
        rw [List.getElem?_range (by
          have := congrArg List.length hw
          simp at this
          omega)] at h1
        exact (Option.some.inj h1).symm
      have him : (i : Int) < many := by
        have h2 : i < many.toNat := List.mem_range.mp (by rw [hw]; simp)
        omega
      obtain ⟨s6, e6, W6, sh6, t, hs6, nt, g6, bd⟩ := nt_body k d g s' e' n many room opt left i W' parts share part hs' w' ⟨m2, m4⟩ him hroom g1 (by omega) (by omega) (by omega) (by omega)
        (fun s e W n a b c c' => new_tree d (by omega) (k + 10) (by omega) g s e W n a b c c')
      refine ⟨_, ?_, s6, e6, W6, parts ++ [t], left - (lv t : Nat), some (.int sh6), some (enc t), some (.int (i : Nat)), rfl, hs6, nt.wok, x'.trans nt.ext, by simp [hlen], ?_, ?_, fun h => by rw [g6 h]; rfl, fun h _ => g6 h, ?_⟩
      · have ag : asg (.v 5) (.int (0 + (i : Nat))) (ntEnv (penD g s' e') ((d : Nat) + 1) W' n many at' room opt parts left share part) = some (ntEnv (penD g s' e') ((d : Nat) + 1) W' n many (some (.int (i : Nat))) room opt parts left share part) := by
          cases at' <;> simp [asg, putV, ntEnv]
        rw [ag]
        exact bd
      · rw [lvs_app, lvs_cons]
        have : lvs [] = 0 := rfl
        omega
      · have := nt.lvn
        rw [List.length_append]
        simp
        omega
      · intro u hu
        rcases List.mem_append.mp hu with hu | hu
        · obtain ⟨h1, h2, h3⟩ := hall u hu
          exact ⟨h1, fun r ts h => nt.ext _ _ (h2 r ts h), h3⟩
        · rw [List.mem_singleton.mp hu]
          exact ⟨nt.okn, nt.wid, nt.dep⟩) (ntEnv (penD g s4 e4) ((d : Nat) + 1) W n many none room opt [] n none none)
      ⟨s4, e4, W, [], n, none, none, none, rfl, hs4, hW, Ext.refl W, rfl, by show n = n - ((0 : Nat) : Int); omega, by show many - ((0 : Nat) : Int) ≤ n; omega, hwg, fun _ h => absurd rfl h, fun u hu => nomatch hu⟩
    have q7 : ex1 (cal (all.map De.g) (k + 10)) (.for_ (.v 5) .rng1 [(.var 4)] ntBody) (ntEnv (penD g s4 e4) ((d : Nat) + 1) W n many none room opt [] n none none) = .nx e' := by
      rw [ex1]
      have es : evs (cal (all.map De.g) (k + 10)) [(.var 4)] (ntEnv (penD g s4 e4) ((d : Nat) + 1) W n many none room opt [] n none none) = .ok [.int many] (ntEnv (penD g s4 e4) ((d : Nat) + 1) W n many none room opt [] n none none) := by
        simp [st_nil, st_cons, st_set, st_par, st_unp, st_put, st_app, st_ext, st_expr, st_ret, st_ite, st_pass, evL_nil, evL_cons, evs_nil, evs_cons, ev_var, ev_cst, ev_glob, ev_tup, ev_lst, ev_dic, ev_bin, ev_cmp, ev_chn, ev_band, ev_bor, ev_not, ev_neg, ev_ite, ev_blt, ev_blt2, ev_isi, ev_idx, ev_slc, ev_rev, ev_pop, ev_get, ev_get2, ev_index, two, brw, Ex.var?, valOf, Rs.bind, Rs.of, Rs.ou, Ou.nxt, nw, ol, slOf, nxO, rd, frz, Sl.d, putV_none, putV_val, putV_own, putV_map, putV_mapc, putL, asg, asgs, chg, upSl, app1, ext1, isLs, isDc, isLD, recv, later, tru_b, lt_ii, gt_ii, le_ii, ge_ii, eq_ii, ne_ii, at_0, at_1, at_2, at_3, add_ll, add_tt, oIdx, dT, small_lt, fin, finR, outs, callV, callS, ntEnv]
      rw [es]
      have wk : walk .rng1 [.int many] = some ((List.range many.toNat).map fun i : Nat => PyData.int (0 + (i : Nat))) := by
        have ro : rngOk many = true := by
          unfold rngOk
          rw [decide_eq_true (by omega), decide_eq_true (by omega)]
          rfl
        show (if rngOk many then some (upTo 0 many.toNat) else none) = _
        rw [ro, if_pos rfl]
        rfl
      simp only [Rs.ou, wk]
      exact lp
    have hlen : parts.length = many.toNat := by simpa using hlen
    have kidsOk : ∀ v ∈ ndss parts, okN v := by
      have aux : ∀ ps : List Tr, (∀ u ∈ ps, ∀ v ∈ nds u, okN v) → ∀ v ∈ ndss ps, okN v := by
        intro ps
        induction ps with
        | nil => intro _ v hv; rw [ndss] at hv; cases hv
        | cons u ps ih =>
          intro h v hv
          rw [ndss] at hv
          rcases List.mem_append.mp hv with hv | hv
          · exact h u List.mem_cons_self v hv
          · exact ih (fun u hu => h u (List.mem_cons_of_mem _ hu)) v hv
      exact aux parts fun u hu => (hall u hu).1
    have kidsWd : ∀ r ts, Tr.own r ts ∈ ndss parts → wget W5 r = some (ts.length : Nat) := by
      have aux : ∀ ps : List Tr, (∀ u ∈ ps, ∀ r ts, Tr.own r ts ∈ nds u → wget W5 r = some (ts.length : Nat)) → ∀ r ts, Tr.own r ts ∈ ndss ps → wget W5 r = some (ts.length : Nat) := by
        intro ps
        induction ps with
        | nil => intro _ r ts hv; rw [ndss] at hv; cases hv
        | cons u ps ih =>
          intro h r ts hv
          rw [ndss] at hv
          rcases List.mem_append.mp hv with hv | hv
          · exact h u List.mem_cons_self r ts hv
          · exact ih (fun u hu => h u (List.mem_cons_of_mem _ hu)) r ts hv
      exact aux parts fun u hu => (hall u hu).2.1
    have kidsDp : deps parts ≤ d := by
      have aux : ∀ ps : List Tr, (∀ u ∈ ps, dep u ≤ d) → deps ps ≤ d := by
        intro ps
        induction ps with
        | nil => intro _; rw [deps]; omega
        | cons u ps ih =>
          intro h
          have h1 := h u List.mem_cons_self
          have h2 := ih fun u hu => h u (List.mem_cons_of_mem _ hu)
          rw [deps]
          omega
      exact aux parts fun u hu => (hall u hu).2.2
    rw [st_cons, q5, nxt_nx, st_cons, q6, nxt_nx]
    show ∃ t s' e' W', _ ∧ _ ∧ fin d__law_new_tree.g (exs (cal (all.map De.g) (k + 10)) [.for_ (.v 5) .rng1 [(.var 4)] ntBody, _] _) = _
    rw [st_cons, q7, nxt_nx, he]
    by_cases h0 : 0 < opt
    · refine ⟨.own room parts, s5, e5, W5, hs5, ⟨fun u hu => ?_, fun r ts h => ?_, ?_, ?_, x5, w5⟩, ?_⟩
      · rw [nds] at hu
        rcases List.mem_cons.mp hu with rfl | hu
        · exact ⟨hroom.1, hroom.2, by omega, by omega⟩
        · exact kidsOk u hu
      · rw [nds] at h
        rcases List.mem_cons.mp h with h | h
        · cases h
          rw [g6 h0 (by intro z; have := congrArg List.length z; simp at this; omega)]
          congr 1
          omega
        · exact kidsWd r ts h
      · rw [dep]
        omega
      · rw [lv_own]
        omega
      · simp [st_nil, st_cons, st_set, st_par, st_unp, st_put, st_app, st_ext, st_expr, st_ret, st_ite, st_pass, evL_nil, evL_cons, evs_nil, evs_cons, ev_var, ev_cst, ev_glob, ev_tup, ev_lst, ev_dic, ev_bin, ev_cmp, ev_chn, ev_band, ev_bor, ev_not, ev_neg, ev_ite, ev_blt, ev_blt2, ev_isi, ev_idx, ev_slc, ev_rev, ev_pop, ev_get, ev_get2, ev_index, two, brw, Ex.var?, valOf, Rs.bind, Rs.of, Rs.ou, Ou.nxt, nw, ol, slOf, nxO, rd, frz, Sl.d, putV_none, putV_val, putV_own, putV_map, putV_mapc, putL, asg, asgs, chg, upSl, app1, ext1, isLs, isDc, isLD, recv, later, tru_b, lt_ii, gt_ii, le_ii, ge_ii, eq_ii, ne_ii, at_0, at_1, at_2, at_3, add_ll, add_tt, oIdx, dT, small_lt, fin, finR, outs, callV, callS, ntEnv, h0, oB, d__law_new_tree, enc]
    · refine ⟨.oth parts, s5, e5, W5, hs5, ⟨fun u hu => ?_, fun r ts h => ?_, ?_, ?_, x5, w5⟩, ?_⟩
      · rw [nds] at hu
        rcases List.mem_cons.mp hu with rfl | hu
        · exact ⟨by omega, by omega⟩
        · exact kidsOk u hu
      · rw [nds] at h
        rcases List.mem_cons.mp h with h | h
        · cases h
        · exact kidsWd r ts h
      · rw [dep]
        omega
      · rw [lv_oth]
        omega
      · simp [st_nil, st_cons, st_set, st_par, st_unp, st_put, st_app, st_ext, st_expr, st_ret, st_ite, st_pass, evL_nil, evL_cons, evs_nil, evs_cons, ev_var, ev_cst, ev_glob, ev_tup, ev_lst, ev_dic, ev_bin, ev_cmp, ev_chn, ev_band, ev_bor, ev_not, ev_neg, ev_ite, ev_blt, ev_blt2, ev_isi, ev_idx, ev_slc, ev_rev, ev_pop, ev_get, ev_get2, ev_index, two, brw, Ex.var?, valOf, Rs.bind, Rs.of, Rs.ou, Ou.nxt, nw, ol, slOf, nxO, rd, frz, Sl.d, putV_none, putV_val, putV_own, putV_map, putV_mapc, putL, asg, asgs, chg, upSl, app1, ext1, isLs, isDc, isLD, recv, later, tru_b, lt_ii, gt_ii, le_ii, ge_ii, eq_ii, ne_ii, at_0, at_1, at_2, at_3, add_ll, add_tt, oIdx, dT, small_lt, fin, finR, outs, callV, callS, ntEnv, h0, oB, d__law_new_tree, enc]
end Rv.k08
end
section
/-! k08, mathematics 19: _law_known_tree, _law_wide_tree. -/
namespace Rv.k08
open PySem Rv
/-- what is known of the law's trees -/
structure LT (t : Tr) : Prop where
  okn : ∀ u ∈ nds t, okN u
  wid : ∃ w : Int → Nat, ∀ r ts, Tr.own r ts ∈ nds t → ts.length = w r
  dep : dep t ≤ 8
  lvn : lv t ≤ 28
theorem LT.good {t : Tr} (h : LT t) : Good t := good_of h.okn (by have := h.dep; omega) (by have := h.lvn; omega)
theorem LT.okA {t : Tr} (h : LT t) : okA t := okA_of h.okn
theorem NT.lt {W W' : WD} {t : Tr} {d : Nat} {n : Int} (h : NT W W' t d n) (hd : d ≤ 8) (hn : n ≤ 28) : LT t :=
  ⟨h.okn, ⟨fun r => ((wget W' r).getD 0).toNat, fun r ts hm => by show ts.length = ((wget W' r).getD 0).toNat; rw [h.wid r ts hm]; simp⟩, by have := h.dep; omega, by have := h.lvn; omega⟩
/-! ### _law_known_tree -/
def kt (r : Int) : Tr := .own r [.leaf, .leaf]
def knowns : List Tr := [.leaf, kt 0, .oth [kt 0, kt 0], .oth [kt 0, kt 1], .own 0 [kt 1, kt 1], .own 0 [kt 0, .leaf], .own 0 [kt 1, kt 2], .own 0 [.oth [kt 1, kt 2], .oth [kt 3, kt 1]], .own 3 [kt 3, kt 3],
  .oth [.own 0 [kt 1, .leaf], .own 1 [kt 0, .leaf]], .own 0 [kt 1, .oth [kt 1, .leaf]]]
theorem knowns_lt : ∀ t ∈ knowns, LT t := by
  intro t ht
  simp only [knowns, List.mem_cons, List.not_mem_nil, or_false] at ht
  have two : ∀ r ts, Tr.own r ts ∈ nds t → ts.length = 2 := by
    rcases ht with rfl | rfl | rfl | rfl | rfl | rfl | rfl | rfl | rfl | rfl | rfl <;> (intro r ts h; simp [kt, nds, ndss] at h) <;> grind
  refine ⟨?_, ⟨fun _ => 2, two⟩, ?_, ?_⟩
  · clear two
    rcases ht with rfl | rfl | rfl | rfl | rfl | rfl | rfl | rfl | rfl | rfl | rfl <;> simp [kt, nds, ndss, okN]
  · clear two
    rcases ht with rfl | rfl | rfl | rfl | rfl | rfl | rfl | rfl | rfl | rfl | rfl <;> simp [kt, dep, deps]
  · clear two
    rcases ht with rfl | rfl | rfl | rfl | rfl | rfl | rfl | rfl | rfl | rfl | rfl <;> (unfold lv; refine Nat.le_trans (List.length_filter_le _ _) ?_; simp [kt, nds, ndss])
theorem known_tree (k : Nat) (g : List Int) (s d : Int) (h : 0 ≤ s) : ∃ t s' d', LT t ∧ 0 ≤ s' ∧ run (all.map De.g) (k + 4) 26 [penD g s d] = .ret (enc t) [penD g s' d'] := by
  obtain ⟨x, s', d', hx, hs, hr⟩ := one_of k g s d (knowns.map enc) h (by simp [knowns]) (by simp [knowns])
  obtain ⟨t, ht, rfl⟩ := List.mem_map.mp hx
  refine ⟨t, s', d', knowns_lt t ht, hs, ?_⟩
  rw [run_def (g := d__law_known_tree.g) rfl rfl]
  show fin d__law_known_tree.g (exs (cal (all.map De.g) (k + 3)) b__law_known_tree [some (.io (penD g s d)), none, none, none]) = _
  have q1 : ex1 (cal (all.map De.g) (k + 3)) (.set 1 (.comp [3] (.v 3) .rng1 [(.cst (.int 4))] (.tup [(.cst (.str "own")), (.var 3), (.tup [(.tup []), (.tup [])])]))) [some (.io (penD g s d)), none, none, none] =
      .nx [some (.io (penD g s d)), some (.own (.list ([0, 1, 2, 3].map fun r : Int => enc (kt r)))), none, none] := by
    have tn := turns_map (f := cTurn [3] (.v 3) (bodyOf (ev (cal (all.map De.g) (k + 3)) (.tup [(.cst (.str "own")), (.var 3), (.tup [(.tup []), (.tup [])])])))) PyData.int (fun r => some (enc (kt r))) [some (.io (penD g s d)), none, none, none] [0, 1, 2, 3] fun r _ => by
      have a1 : asg (.v 3) (.int r) [some (.io (penD g s d)), none, none, none] = some [some (.io (penD g s d)), none, none, some (.val (.int r))] := rfl
      have a2 : ev (cal (all.map De.g) (k + 3)) (.tup [(.cst (.str "own")), (.var 3), (.tup [(.tup []), (.tup [])])]) [some (.io (penD g s d)), none, none, some (.val (.int r))] = .ok (false, enc (kt r)) [some (.io (penD g s d)), none, none, some (.val (.int r))] := by
        simp [st_nil, st_cons, st_set, st_par, st_unp, st_put, st_app, st_ext, st_expr, st_ret, st_ite, st_pass, evL_nil, evL_cons, evs_nil, evs_cons, ev_var, ev_cst, ev_glob, ev_tup, ev_lst, ev_dic, ev_bin, ev_cmp, ev_chn, ev_band, ev_bor, ev_not, ev_neg, ev_ite, ev_blt, ev_blt2, ev_isi, ev_idx, ev_slc, ev_rev, ev_pop, ev_get, ev_get2, ev_index, two, brw, Ex.var?, valOf, Rs.bind, Rs.of, Rs.ou, Ou.nxt, nw, ol, slOf, nxO, rd, frz, Sl.d, putV_none, putV_val, putV_own, putV_map, putV_mapc, putL, asg, asgs, chg, upSl, app1, ext1, isLs, isDc, isLD, recv, later, tru_b, lt_ii, gt_ii, le_ii, ge_ii, eq_ii, ne_ii, at_0, at_1, at_2, at_3, add_ll, add_tt, oIdx, dT, small_lt, fin, finR, outs, callV, callS, kt, enc, encs]
      simp [cTurn, a1, bodyOf, a2, valOf, Rs.bind, turnEnd, hide]
    rw [st_set, ev]
    have es : evs (cal (all.map De.g) (k + 3)) [(.cst (.int 4))] [some (.io (penD g s d)), none, none, none] = .ok [.int 4] [some (.io (penD g s d)), none, none, none] := by simp [st_nil, st_cons, st_set, st_par, st_unp, st_put, st_app, st_ext, st_expr, st_ret, st_ite, st_pass, evL_nil, evL_cons, evs_nil, evs_cons, ev_var, ev_cst, ev_glob, ev_tup, ev_lst, ev_dic, ev_bin, ev_cmp, ev_chn, ev_band, ev_bor, ev_not, ev_neg, ev_ite, ev_blt, ev_blt2, ev_isi, ev_idx, ev_slc, ev_rev, ev_pop, ev_get, ev_get2, ev_index, two, brw, Ex.var?, valOf, Rs.bind, Rs.of, Rs.ou, Ou.nxt, nw, ol, slOf, nxO, rd, frz, Sl.d, putV_none, putV_val, putV_own, putV_map, putV_mapc, putL, asg, asgs, chg, upSl, app1, ext1, isLs, isDc, isLD, recv, later, tru_b, lt_ii, gt_ii, le_ii, ge_ii, eq_ii, ne_ii, at_0, at_1, at_2, at_3, add_ll, add_tt, oIdx, dT, small_lt, fin, finR, outs, callV, callS]
    have wk : walk .rng1 [.int 4] = some ([0, 1, 2, 3].map PyData.int) := rfl
    have hd : hide [3] [some (Sl.io (penD g s d)), none, none, none] = some [some (Sl.io (penD g s d)), none, none, none] := rfl
    rw [es]
    simp only [Rs.bind, wk, runComp, hd, tn]
    rfl
  rw [b__law_known_tree, st_cons, q1, nxt_nx]
  simp only [knowns, kt, enc, encs, List.map_cons, List.map_nil] at hr
  simp [st_nil, st_cons, st_set, st_par, st_unp, st_put, st_app, st_ext, st_expr, st_ret, st_ite, st_pass, evL_nil, evL_cons, evs_nil, evs_cons, ev_var, ev_cst, ev_glob, ev_tup, ev_lst, ev_dic, ev_bin, ev_cmp, ev_chn, ev_band, ev_bor, ev_not, ev_neg, ev_ite, ev_blt, ev_blt2, ev_isi, ev_idx, ev_slc, ev_rev, ev_pop, ev_get, ev_get2, ev_index, two, brw, Ex.var?, valOf, Rs.bind, Rs.of, Rs.ou, Ou.nxt, nw, ol, slOf, nxO, rd, frz, Sl.d, putV_none, putV_val, putV_own, putV_map, putV_mapc, putL, asg, asgs, chg, upSl, app1, ext1, isLs, isDc, isLD, recv, later, tru_b, lt_ii, gt_ii, le_ii, ge_ii, eq_ii, ne_ii, at_0, at_1, at_2, at_3, add_ll, add_tt, oIdx, dT, small_lt, fin, finR, outs, callV, callS, kt, enc, encs, c14, hr, d__law_known_tree]
/-! ### _law_wide_tree -/
structure Row (t : Tr) (n : Nat) : Prop where
  okn : ∀ u ∈ nds t, okN u
  wid : ∀ r ts, Tr.own r ts ∈ nds t → ts.length = 2
  dep : dep t ≤ n
  lvn : lv t ≤ n + 1
theorem row_leaf : Row .leaf 0 := ⟨fun u hu => by rw [nds] at hu; rw [List.mem_singleton.mp hu]; trivial, fun r ts h => by rw [nds] at h; simp at h, by rw [k08.dep]; omega, by rw [lv_leaf]; omega⟩
theorem Row.own {t u : Tr} {r : Int} {n : Nat} (hr : 0 ≤ r ∧ r ≤ 9) (h : Row t n) (hu : u = .own r [t, .leaf] ∨ u = .own r [.leaf, t]) : Row u (n + 1) := by
  have h1 := h.okn
  have h2 := h.wid
  have h3 := h.dep
  have h4 := h.lvn
  rcases hu with rfl | rfl <;> refine ⟨fun v hv => ?_, fun r' ts hv => ?_, ?_, ?_⟩
  · simp only [nds, ndss, List.mem_cons, List.mem_append, List.not_mem_nil, or_false] at hv
    rcases hv with rfl | hv | rfl
    · exact ⟨hr.1, hr.2, by simp, by simp⟩
    · exact h1 v hv
    · trivial
  · simp only [nds, ndss, List.mem_cons, List.mem_append, List.not_mem_nil, or_false] at hv
    rcases hv with hv | hv | hv
    · cases hv; rfl
    · exact h2 _ _ hv
    · cases hv
  · simp only [k08.dep, deps]; omega
  · rw [lv_own, lvs_cons, lvs_cons, lv_leaf]
    have : lvs [] = 0 := rfl
    omega
  · simp only [nds, ndss, List.mem_cons, List.mem_append, List.not_mem_nil, or_false, List.cons_append, List.nil_append] at hv
    rcases hv with rfl | rfl | hv
    · exact ⟨hr.1, hr.2, by simp, by simp⟩
    · trivial
    · exact h1 v hv
  · simp only [nds, ndss, List.mem_cons, List.mem_append, List.not_mem_nil, or_false, List.cons_append, List.nil_append] at hv
    rcases hv with hv | hv | hv
    · cases hv; rfl
    · cases hv
    · exact h2 _ _ hv
  · simp only [k08.dep, deps]; omega
  · rw [lv_own, lvs_cons, lvs_cons, lv_leaf]
    have : lvs [] = 0 := rfl
    omega
def wtEnv (P : D) (rows : List Tr) (lap : Option D) (t : Option D) (step room : Option D) : Env :=
  [some (.io P), some (.own (.list (encs rows))), lap.map Sl.val, t.map Sl.val, step.map Sl.val, room.map Sl.val]
def wtBody : List Sm := [.set 5 (.call 13 [(.var 0), (.cst (.int 10))]),
      .set 3 (.ite (.cmp .Eq (.call 13 [(.var 0), (.cst (.int 2))]) (.cst (.int 0))) (.tup [(.cst (.str "own")), (.var 5), (.tup [(.var 3), (.tup [])])]) (.tup [(.cst (.str "own")), (.var 5), (.tup [(.tup []), (.var 3)])]))]
theorem wt_body (k : Nat) (g : List Int) (s e : Int) (rows : List Tr) (lap step : Int) (room : Option D) (t : Tr) (n : Nat) (hs : 0 ≤ s) (ht : Row t n) :
    ∃ s' e' room' u, 0 ≤ s' ∧ Row u (n + 1) ∧ exs (cal (all.map De.g) (k + 2)) wtBody (wtEnv (penD g s e) rows (some (.int lap)) (some (enc t)) (some (.int step)) room) = .nx (wtEnv (penD g s' e') rows (some (.int lap)) (some (enc u)) (some (.int step)) (some (.int room'))) := by
  obtain ⟨r, s1, e1, r0, r1, hs1, dr1⟩ := draw k g s e 10 hs (by omega) (by omega)
  obtain ⟨x, s2, e2, x0, x1, hs2, dr2⟩ := draw k g s1 e1 2 hs1 (by omega) (by omega)
  by_cases h0 : x = 0
  · refine ⟨s2, e2, r, .own r [t, .leaf], hs2, ht.own (by omega) (.inl rfl), ?_⟩
    rw [wtBody]
    simp [st_nil, st_cons, st_set, st_par, st_unp, st_put, st_app, st_ext, st_expr, st_ret, st_ite, st_pass, evL_nil, evL_cons, evs_nil, evs_cons, ev_var, ev_cst, ev_glob, ev_tup, ev_lst, ev_dic, ev_bin, ev_cmp, ev_chn, ev_band, ev_bor, ev_not, ev_neg, ev_ite, ev_blt, ev_blt2, ev_isi, ev_idx, ev_slc, ev_rev, ev_pop, ev_get, ev_get2, ev_index, two, brw, Ex.var?, valOf, Rs.bind, Rs.of, Rs.ou, Ou.nxt, nw, ol, slOf, nxO, rd, frz, Sl.d, putV_none, putV_val, putV_own, putV_map, putV_mapc, putL, asg, asgs, chg, upSl, app1, ext1, isLs, isDc, isLD, recv, later, tru_b, lt_ii, gt_ii, le_ii, ge_ii, eq_ii, ne_ii, at_0, at_1, at_2, at_3, add_ll, add_tt, oIdx, dT, small_lt, fin, finR, outs, callV, callS, wtEnv, c13, dr1, dr2, h0, enc, encs, putV_map (x := room)]
  · refine ⟨s2, e2, r, .own r [.leaf, t], hs2, ht.own (by omega) (.inr rfl), ?_⟩
    rw [wtBody]
    simp [st_nil, st_cons, st_set, st_par, st_unp, st_put, st_app, st_ext, st_expr, st_ret, st_ite, st_pass, evL_nil, evL_cons, evs_nil, evs_cons, ev_var, ev_cst, ev_glob, ev_tup, ev_lst, ev_dic, ev_bin, ev_cmp, ev_chn, ev_band, ev_bor, ev_not, ev_neg, ev_ite, ev_blt, ev_blt2, ev_isi, ev_idx, ev_slc, ev_rev, ev_pop, ev_get, ev_get2, ev_index, two, brw, Ex.var?, valOf, Rs.bind, Rs.of, Rs.ou, Ou.nxt, nw, ol, slOf, nxO, rd, frz, Sl.d, putV_none, putV_val, putV_own, putV_map, putV_mapc, putL, asg, asgs, chg, upSl, app1, ext1, isLs, isDc, isLD, recv, later, tru_b, lt_ii, gt_ii, le_ii, ge_ii, eq_ii, ne_ii, at_0, at_1, at_2, at_3, add_ll, add_tt, oIdx, dT, small_lt, fin, finR, outs, callV, callS, wtEnv, c13, dr1, dr2, h0, enc, encs, putV_map (x := room)]
theorem lvs_le (n : Nat) : ∀ ts : List Tr, (∀ t ∈ ts, lv t ≤ n) → lvs ts ≤ n * ts.length
  | [], _ => by simp [lvs, ndss]
  | t :: ts, h => by
    have h1 := h t List.mem_cons_self
    have h2 := lvs_le n ts fun u hu => h u (List.mem_cons_of_mem _ hu)
    rw [lvs_cons, List.length_cons, Nat.mul_succ]
    omega
theorem ndss_mem {u : Tr} : ∀ {ts : List Tr}, u ∈ ndss ts → ∃ t ∈ ts, u ∈ nds t
  | [], h => by rw [ndss] at h; cases h
  | t :: ts, h => by
    rw [ndss] at h
    rcases List.mem_append.mp h with h | h
    · exact ⟨t, List.mem_cons_self, h⟩
    · obtain ⟨v, hv, h⟩ := ndss_mem h
      exact ⟨v, List.mem_cons_of_mem _ hv, h⟩
theorem deps_le (n : Nat) : ∀ ts : List Tr, (∀ t ∈ ts, dep t ≤ n) → deps ts ≤ n
  | [], _ => by rw [deps]; omega
  | t :: ts, h => by
    have h1 := h t List.mem_cons_self
    have h2 := deps_le n ts fun u hu => h u (List.mem_cons_of_mem _ hu)
    rw [deps]
    omega
theorem wide_tree (k : Nat) (g : List Int) (s d : Int) (h : 0 ≤ s) : ∃ t s' d', LT t ∧ 0 ≤ s' ∧ run (all.map De.g) (k + 3) 34 [penD g s d] = .ret (enc t) [penD g s' d'] := by
  rw [run_def (g := d__law_wide_tree.g) rfl rfl]
  show ∃ t s' d', _ ∧ _ ∧ fin d__law_wide_tree.g (exs (cal (all.map De.g) (k + 2)) [_, .for_ (.v 2) .rng1 [(.cst (.int 4))] [.set 3 (.tup []), .for_ (.v 4) .rng1 [(.cst (.int 6))] wtBody, .app 1 (.var 3)], _] [some (.io (penD g s d)), none, none, none, none, none]) = _
  have q1 : ex1 (cal (all.map De.g) (k + 2)) (.set 1 (.lst [])) [some (.io (penD g s d)), none, none, none, none, none] = .nx (wtEnv (penD g s d) [] none none none none) := by
    simp [st_nil, st_cons, st_set, st_par, st_unp, st_put, st_app, st_ext, st_expr, st_ret, st_ite, st_pass, evL_nil, evL_cons, evs_nil, evs_cons, ev_var, ev_cst, ev_glob, ev_tup, ev_lst, ev_dic, ev_bin, ev_cmp, ev_chn, ev_band, ev_bor, ev_not, ev_neg, ev_ite, ev_blt, ev_blt2, ev_isi, ev_idx, ev_slc, ev_rev, ev_pop, ev_get, ev_get2, ev_index, two, brw, Ex.var?, valOf, Rs.bind, Rs.of, Rs.ou, Ou.nxt, nw, ol, slOf, nxO, rd, frz, Sl.d, putV_none, putV_val, putV_own, putV_map, putV_mapc, putL, asg, asgs, chg, upSl, app1, ext1, isLs, isDc, isLD, recv, later, tru_b, lt_ii, gt_ii, le_ii, ge_ii, eq_ii, ne_ii, at_0, at_1, at_2, at_3, add_ll, add_tt, oIdx, dT, small_lt, fin, finR, outs, callV, callS, wtEnv, encs]
  have es : ∀ (j : Int) (env : Env), evs (cal (all.map De.g) (k + 2)) [(.cst (.int j))] env = .ok [.int j] env := fun j env => by simp [st_nil, st_cons, st_set, st_par, st_unp, st_put, st_app, st_ext, st_expr, st_ret, st_ite, st_pass, evL_nil, evL_cons, evs_nil, evs_cons, ev_var, ev_cst, ev_glob, ev_tup, ev_lst, ev_dic, ev_bin, ev_cmp, ev_chn, ev_band, ev_bor, ev_not, ev_neg, ev_ite, ev_blt, ev_blt2, ev_isi, ev_idx, ev_slc, ev_rev, ev_pop, ev_get, ev_get2, ev_index, two, brw, Ex.var?, valOf, Rs.bind, Rs.of, Rs.ou, Ou.nxt, nw, ol, slOf, nxO, rd, frz, Sl.d, putV_none, putV_val, putV_own, putV_map, putV_mapc, putL, asg, asgs, chg, upSl, app1, ext1, isLs, isDc, isLD, recv, later, tru_b, lt_ii, gt_ii, le_ii, ge_ii, eq_ii, ne_ii, at_0, at_1, at_2, at_3, add_ll, add_tt, oIdx, dT, small_lt, fin, finR, outs, callV, callS]
  have wk4 : walk .rng1 [.int 4] = some ([0, 1, 2, 3].map PyData.int) := rfl
  have wk6 : walk .rng1 [.int 6] = some ([0, 1, 2, 3, 4, 5].map PyData.int) := rfl
  have inner : ∀ (lap : Int) (rows : List Tr) (s e : Int) (t : Option D) (step room : Option D), 0 ≤ s → rows.length < 100 → ∃ s' e' u step' room', 0 ≤ s' ∧ Row u 6 ∧
      exs (cal (all.map De.g) (k + 2)) [.set 3 (.tup []), .for_ (.v 4) .rng1 [(.cst (.int 6))] wtBody, .app 1 (.var 3)] (wtEnv (penD g s e) rows (some (.int lap)) t step room) = .nx (wtEnv (penD g s' e') (rows ++ [u]) (some (.int lap)) (some (enc u)) step' room') := by
    intro lap rows s e t step room hs hl
    have p1 : ex1 (cal (all.map De.g) (k + 2)) (.set 3 (.tup [])) (wtEnv (penD g s e) rows (some (.int lap)) t step room) = .nx (wtEnv (penD g s e) rows (some (.int lap)) (some (enc .leaf)) step room) := by
      simp [st_nil, st_cons, st_set, st_par, st_unp, st_put, st_app, st_ext, st_expr, st_ret, st_ite, st_pass, evL_nil, evL_cons, evs_nil, evs_cons, ev_var, ev_cst, ev_glob, ev_tup, ev_lst, ev_dic, ev_bin, ev_cmp, ev_chn, ev_band, ev_bor, ev_not, ev_neg, ev_ite, ev_blt, ev_blt2, ev_isi, ev_idx, ev_slc, ev_rev, ev_pop, ev_get, ev_get2, ev_index, two, brw, Ex.var?, valOf, Rs.bind, Rs.of, Rs.ou, Ou.nxt, nw, ol, slOf, nxO, rd, frz, Sl.d, putV_none, putV_val, putV_own, putV_map, putV_mapc, putL, asg, asgs, chg, upSl, app1, ext1, isLs, isDc, isLD, recv, later, tru_b, lt_ii, gt_ii, le_ii, ge_ii, eq_ii, ne_ii, at_0, at_1, at_2, at_3, add_ll, add_tt, oIdx, dT, small_lt, fin, finR, outs, callV, callS, wtEnv, enc, putV_map (x := t)]
    obtain ⟨e', lp, s5, e5, u, st5, rm5, he, hs5, hu⟩ := loop_on (f := fun x e2 => match asg (.v 4) x e2 with
      | some e3 => exs (cal (all.map De.g) (k + 2)) wtBody e3
      | none => .no) PyData.int (fun pr env => ∃ s' e' u step' room', env = wtEnv (penD g s' e') rows (some (.int lap)) (some (enc u)) step' room' ∧ 0 ≤ s' ∧ Row u pr.length) [0, 1, 2, 3, 4, 5] (by
        rintro pr x post env hw ⟨s', e', u, step', room', rfl, hs', hu⟩
        obtain ⟨s6, e6, rm6, v, hs6, hv, bd⟩ := wt_body k g s' e' rows lap x room' u pr.length hs' hu
        refine ⟨_, ?_, s6, e6, v, some (.int x), some (.int rm6), rfl, hs6, by rw [List.length_append]; exact hv⟩
        have ag : asg (.v 4) (.int x) (wtEnv (penD g s' e') rows (some (.int lap)) (some (enc u)) step' room') = some (wtEnv (penD g s' e') rows (some (.int lap)) (some (enc u)) (some (.int x)) room') := by
          cases step' <;> simp [asg, putV, wtEnv]
        rw [ag]
        exact bd) (wtEnv (penD g s e) rows (some (.int lap)) (some (enc .leaf)) step room) ⟨s, e, .leaf, step, room, rfl, hs, row_leaf⟩
    have p2 : ex1 (cal (all.map De.g) (k + 2)) (.for_ (.v 4) .rng1 [(.cst (.int 6))] wtBody) (wtEnv (penD g s e) rows (some (.int lap)) (some (enc .leaf)) step room) = .nx e' := by
      rw [ex1, es]
      simp only [Rs.ou, wk6]
      exact lp
    refine ⟨s5, e5, u, st5, rm5, hs5, hu, ?_⟩
    rw [st_cons, p1, nxt_nx, st_cons, p2, nxt_nx, he]
    have sm : small ((encs rows).length + 1) = true := small_lt (by rw [encs_len]; omega)
    simp [st_nil, st_cons, st_set, st_par, st_unp, st_put, st_app, st_ext, st_expr, st_ret, st_ite, st_pass, evL_nil, evL_cons, evs_nil, evs_cons, ev_var, ev_cst, ev_glob, ev_tup, ev_lst, ev_dic, ev_bin, ev_cmp, ev_chn, ev_band, ev_bor, ev_not, ev_neg, ev_ite, ev_blt, ev_blt2, ev_isi, ev_idx, ev_slc, ev_rev, ev_pop, ev_get, ev_get2, ev_index, two, brw, Ex.var?, valOf, Rs.bind, Rs.of, Rs.ou, Ou.nxt, nw, ol, slOf, nxO, rd, frz, Sl.d, putV_none, putV_val, putV_own, putV_map, putV_mapc, putL, asg, asgs, chg, upSl, app1, ext1, isLs, isDc, isLD, recv, later, tru_b, lt_ii, gt_ii, le_ii, ge_ii, eq_ii, ne_ii, at_0, at_1, at_2, at_3, add_ll, add_tt, oIdx, dT, small_lt, fin, finR, outs, callV, callS, wtEnv, sm, encs_app, encs]
  obtain ⟨e', lp, s5, e5, rows, lap5, t5, st5, rm5, he, hs5, hl, hall⟩ := loop_on (f := fun x e2 => match asg (.v 2) x e2 with
    | some e3 => exs (cal (all.map De.g) (k + 2)) [.set 3 (.tup []), .for_ (.v 4) .rng1 [(.cst (.int 6))] wtBody, .app 1 (.var 3)] e3
    | none => .no) PyData.int (fun pr env => ∃ s' e' rows lap' t' step' room', env = wtEnv (penD g s' e') rows lap' t' step' room' ∧ 0 ≤ s' ∧ rows.length = pr.length ∧ ∀ u ∈ rows, Row u 6) [0, 1, 2, 3] (by
      rintro pr x post env hw ⟨s', e', rows, lap', t', step', room', rfl, hs', hl, hall⟩
      have hpl : pr.length < 4 := by
        have := congrArg List.length hw
        simp at this
        omega
      obtain ⟨s6, e6, u, st6, rm6, hs6, hu, bd⟩ := inner x rows s' e' t' step' room' hs' (by omega)
      refine ⟨_, ?_, s6, e6, rows ++ [u], some (.int x), some (enc u), st6, rm6, rfl, hs6, by simp [hl], fun v hv => ?_⟩
      · have ag : asg (.v 2) (.int x) (wtEnv (penD g s' e') rows lap' t' step' room') = some (wtEnv (penD g s' e') rows (some (.int x)) t' step' room') := by
          cases lap' <;> simp [asg, putV, wtEnv]
        rw [ag]
        exact bd
      · rcases List.mem_append.mp hv with hv | hv
        · exact hall v hv
        · rw [List.mem_singleton.mp hv]
          exact hu) (wtEnv (penD g s d) [] none none none none) ⟨s, d, [], none, none, none, none, rfl, h, rfl, fun u hu => nomatch hu⟩
  have q2 : ex1 (cal (all.map De.g) (k + 2)) (.for_ (.v 2) .rng1 [(.cst (.int 4))] [.set 3 (.tup []), .for_ (.v 4) .rng1 [(.cst (.int 6))] wtBody, .app 1 (.var 3)]) (wtEnv (penD g s d) [] none none none none) = .nx e' := by
    rw [ex1, es]
    simp only [Rs.ou, wk4]
    exact lp
  have hl : rows.length = 4 := by simpa using hl
  refine ⟨.oth rows, s5, e5, ⟨fun u hu => ?_, ⟨fun _ => 2, fun r ts hu => ?_⟩, ?_, ?_⟩, hs5, ?_⟩
  · rw [nds] at hu
    rcases List.mem_cons.mp hu with rfl | hu
    · exact ⟨by omega, by omega⟩
    · obtain ⟨t, ht, hu⟩ := ndss_mem hu
      exact (hall t ht).okn u hu
  · rw [nds] at hu
    rcases List.mem_cons.mp hu with hu | hu
    · cases hu
    · obtain ⟨t, ht, hu⟩ := ndss_mem hu
      exact (hall t ht).wid r ts hu
  · have := deps_le 6 rows fun t ht => (hall t ht).dep
    rw [k08.dep]
    omega
  · have := lvs_le 7 rows fun t ht => (hall t ht).lvn
    rw [lv_oth]
    omega
  · rw [st_cons, q1, nxt_nx, st_cons, q2, nxt_nx, he]
    simp [st_nil, st_cons, st_set, st_par, st_unp, st_put, st_app, st_ext, st_expr, st_ret, st_ite, st_pass, evL_nil, evL_cons, evs_nil, evs_cons, ev_var, ev_cst, ev_glob, ev_tup, ev_lst, ev_dic, ev_bin, ev_cmp, ev_chn, ev_band, ev_bor, ev_not, ev_neg, ev_ite, ev_blt, ev_blt2, ev_isi, ev_idx, ev_slc, ev_rev, ev_pop, ev_get, ev_get2, ev_index, two, brw, Ex.var?, valOf, Rs.bind, Rs.of, Rs.ou, Ou.nxt, nw, ol, slOf, nxO, rd, frz, Sl.d, putV_none, putV_val, putV_own, putV_map, putV_mapc, putL, asg, asgs, chg, upSl, app1, ext1, isLs, isDc, isLD, recv, later, tru_b, lt_ii, gt_ii, le_ii, ge_ii, eq_ii, ne_ii, at_0, at_1, at_2, at_3, add_ll, add_tt, oIdx, dT, small_lt, fin, finR, outs, callV, callS, wtEnv, oB, d__law_wide_tree, enc]
end Rv.k08
end
section
/-! k08, mathematics 20: the order of the paths. -/
namespace Rv.k08
open PySem Rv
theorem toks_path : ∀ p q : List Int, PyProof.Rows.lexLt PyProof.Rows.itemOrd (W.keyToksAll (p.map PyData.int)) (W.keyToksAll (q.map PyData.int)) = HT.lexLt p q
  | [], [] => by
    simp only [List.map_nil, W.keyToksAll]
    rw [PyProof.Rows.lex_self (O := PyProof.Rows.itemOrd)]
    rfl
  | [], b :: q => by
    simp only [List.map_nil, List.map_cons, W.keyToksAll]
    rw [PyProof.Rows.lex_diff (O := PyProof.Rows.itemOrd) (by simp)]
    rfl
  | a :: p, [] => by
    simp only [List.map_nil, List.map_cons, W.keyToksAll]
    rw [PyProof.Rows.lex_diff (O := PyProof.Rows.itemOrd) (by simp)]
    rfl
  | a :: p, b :: q => by
    simp only [List.map_cons, W.keyToksAll, W.keyToks, List.cons_append, List.nil_append]
    rw [PyProof.Rows.lex_self (O := PyProof.Rows.itemOrd), HT.lexLt_cons]
    by_cases h : a = b
    · subst h
      rw [if_pos rfl, PyProof.Rows.lex_self (O := PyProof.Rows.itemOrd)]
      exact toks_path p q
    · rw [if_neg h, PyProof.Rows.lex_diff (O := PyProof.Rows.itemOrd) (by simpa using h)]
      rfl
theorem lt_path (p q : List Int) : W.dataLt (pd p) (pd q) = HT.lexLt p q := toks_path p q
theorem lex_asymm : ∀ p q : List Int, HT.lexLt p q = true → HT.lexLt q p = false
  | [], [], h => by cases h
  | [], b :: q, _ => rfl
  | a :: p, [], h => by cases h
  | a :: p, b :: q, h => by
    rw [HT.lexLt_cons] at h ⊢
    by_cases e : a = b
    · subst e
      rw [if_pos rfl] at h ⊢
      exact lex_asymm p q h
    · rw [if_neg e] at h
      rw [if_neg fun z => e z.symm]
      have := of_decide_eq_true h
      exact decide_eq_false (by omega)
theorem lex_irr (p : List Int) : HT.lexLt p p = false := by
  cases h : HT.lexLt p p with
  | false => rfl
  | true => rw [lex_asymm p p h] at h; cases h
theorem lex_app : ∀ (p s r : List Int), HT.lexLt (p ++ s) (p ++ r) = HT.lexLt s r
  | [], s, r => rfl
  | a :: p, s, r => by rw [List.cons_append, List.cons_append, HT.lexLt_cons, if_pos rfl, lex_app p s r]
def below (a b : List Int) : Prop := HT.lexLt a b = true
mutual
/-- the nodes stand in ascending order of their paths -/
theorem pre_ord : ∀ (p : List Int) (t : Tr), ((pre p t).map (·.1)).Pairwise below ∧ ∀ q ∈ pre p t, ∃ s, q.1 = p ++ s
  | p, .leaf => by
    rw [pre]
    exact ⟨by simp, fun q hq => ⟨[], by rw [List.mem_singleton.mp hq]; simp⟩⟩
  | p, .own r ts => by
    obtain ⟨h1, h2⟩ := pres_ord p 0 ts
    rw [pre]
    refine ⟨?_, fun q hq => ?_⟩
    · rw [List.map_cons, List.pairwise_cons]
      refine ⟨fun x hx => ?_, h1⟩
      obtain ⟨q, hq, rfl⟩ := List.mem_map.mp hx
      obtain ⟨j, s, _, e⟩ := h2 q hq
      show HT.lexLt p q.1 = true
      rw [e]
      have := lex_app p [] (((j : Nat) : Int) :: s)
      rw [List.append_nil] at this
      rw [this]
      rfl
    · rcases List.mem_cons.mp hq with rfl | hq
      · exact ⟨[], by simp⟩
      · obtain ⟨j, s, _, e⟩ := h2 q hq
        exact ⟨_, e⟩
  | p, .oth ts => by
    obtain ⟨h1, h2⟩ := pres_ord p 0 ts
    rw [pre]
    refine ⟨?_, fun q hq => ?_⟩
    · rw [List.map_cons, List.pairwise_cons]
      refine ⟨fun x hx => ?_, h1⟩
      obtain ⟨q, hq, rfl⟩ := List.mem_map.mp hx
      obtain ⟨j, s, _, e⟩ := h2 q hq
      show HT.lexLt p q.1 = true
      rw [e]
      have := lex_app p [] (((j : Nat) : Int) :: s)
      rw [List.append_nil] at this
      rw [this]
      rfl
    · rcases List.mem_cons.mp hq with rfl | hq
      · exact ⟨[], by simp⟩
      · obtain ⟨j, s, _, e⟩ := h2 q hq
        exact ⟨_, e⟩
theorem pres_ord : ∀ (p : List Int) (i : Nat) (ts : List Tr), ((pres p i ts).map (·.1)).Pairwise below ∧ ∀ q ∈ pres p i ts, ∃ (j : Nat) (s : List Int), i ≤ j ∧ q.1 = p ++ ((j : Nat) : Int) :: s
  | p, i, [] => by
    rw [pres]
    exact ⟨by simp, fun q hq => nomatch hq⟩
  | p, i, t :: ts => by
    obtain ⟨h1, h2⟩ := pre_ord (p ++ [(i : Int)]) t
    obtain ⟨h3, h4⟩ := pres_ord p (i + 1) ts
    rw [pres]
    refine ⟨?_, fun q hq => ?_⟩
    · rw [List.map_append, List.pairwise_append]
      refine ⟨h1, h3, fun a ha b hb => ?_⟩
      obtain ⟨q, hq, rfl⟩ := List.mem_map.mp ha
      obtain ⟨r, hr, rfl⟩ := List.mem_map.mp hb
      obtain ⟨s, e1⟩ := h2 q hq
      obtain ⟨j, s', hj, e2⟩ := h4 r hr
      show HT.lexLt q.1 r.1 = true
      rw [e1, e2, List.append_assoc, lex_app]
      show HT.lexLt ((i : Int) :: s) (((j : Nat) : Int) :: s') = true
      rw [HT.lexLt_cons, if_neg (by omega)]
      exact decide_eq_true (by omega)
    · rcases List.mem_append.mp hq with hq | hq
      · obtain ⟨s, e⟩ := h2 q hq
        exact ⟨i, s, Nat.le_refl _, by rw [e, List.append_assoc]; rfl⟩
      · obtain ⟨j, s, hj, e⟩ := h4 q hq
        exact ⟨j, s, by omega, e⟩
end
theorem owns_ord (t : Tr) : ((owns t).map (·.1)).Pairwise below := by
  have h := (pre_ord [] t).1
  unfold owns
  exact h.sublist (List.Sublist.map _ List.filter_sublist)
theorem ord_nodup {l : List (List Int)} (h : l.Pairwise below) : l.Nodup := h.imp fun {a b} hab e => by
  subst e
  have hab : HT.lexLt a a = true := hab
  rw [lex_irr] at hab
  cases hab
theorem dle_path (p q : List Int) : dle (pd p) (pd q) = !HT.lexLt q p := by
  unfold dle
  rw [lt_path]
theorem alike_ints : ∀ p q : List Int, W.alikeAll (p.map PyData.int) (q.map PyData.int) = true
  | [], _ => by rw [List.map_nil, W.alikeAll]
  | a :: p, [] => by rw [List.map_nil, List.map_cons, W.alikeAll]
  | a :: p, b :: q => by rw [List.map_cons, List.map_cons, W.alikeAll, alike_ints p q]; simp [W.alike]
theorem shp_path (p : List Int) : SeqAt.shaped (pd p) = true := by
  unfold SeqAt.shaped pd
  rw [PyData.canLay0, lay_ints, PyData.depth, depth_ints]
  rfl
theorem sort_paths {l : List (List Int)} (h : l.Pairwise below) : oSort (l.map pd) = some (.list (l.map pd)) := by
  have st : sortable (l.map pd) = true := by
    unfold sortable
    simp only [Bool.and_eq_true, Bool.or_eq_true, List.all_eq_true, List.mem_map]
    refine ⟨⟨?_, .inl ?_⟩, ?_⟩
    · rintro _ ⟨p, _, rfl⟩ _ ⟨q, _, rfl⟩
      show W.alike (.tuple _) (.tuple _) = true
      rw [W.alike]
      exact alike_ints p q
    · rintro _ ⟨p, _, rfl⟩
      rfl
    · rintro _ ⟨p, _, rfl⟩
      exact shp_path p
  unfold oSort
  rw [st, if_pos rfl, List.mergeSort_of_pairwise]
  rw [List.pairwise_map]
  exact h.imp fun {a b} hab => by
    rw [dle_path, lex_asymm a b hab]
    rfl
/-! ### dicts of paths -/
theorem eqv_ints : ∀ p q : List Int, PyData.eqvAll (p.map PyData.int) (q.map PyData.int) = decide (p = q)
  | [], [] => by simp [PyData.eqvAll]
  | [], b :: q => by simp [PyData.eqvAll]
  | a :: p, [] => by simp [PyData.eqvAll]
  | a :: p, b :: q => by
    rw [List.map_cons, List.map_cons, PyData.eqvAll, eqv_ii, eqv_ints p q]
    by_cases h1 : a = b <;> by_cases h2 : p = q <;> simp [h1, h2]
theorem eqv_path (p q : List Int) : PyData.eqv (pd p) (pd q) = decide (p = q) := by
  unfold pd
  rw [PyData.eqv]
  exact eqv_ints p q
theorem kin_path (p : List Int) : kin (pd p) = 2 := by
  have : ∀ l : List Int, (keysOf (l.map PyData.int)).isSome = true := by
    intro l
    induction l with
    | nil => rfl
    | cons a l ih =>
      rw [List.map_cons, keysOf]
      cases h : keysOf (l.map PyData.int) with
      | none => rw [h] at ih; cases ih
      | some ks => rfl
  show (if (keysOf (p.map PyData.int)).isSome then 2 else 0) = 2
  rw [this p]
  rfl
abbrev PD := List (List Int × Int)
def ppair (p : List Int × Int) : D × D := (pd p.1, .int p.2)
def pdD (kvs : PD) : D := .dict (kvs.map ppair)
def pget (kvs : PD) (p : List Int) : Option Int := (kvs.find? fun q => decide (q.1 = p)).map (·.2)
theorem kfit_p (kvs : PD) (p : List Int) : kfit (kvs.map ppair) (pd p) = true := by
  unfold kfit
  rw [List.all_map]
  simp [kin_path, ppair]
theorem dget_p (kvs : PD) (p : List Int) : dget (kvs.map ppair) (pd p) = (pget kvs p).map PyData.int := by
  unfold dget pget
  rw [List.find?_map, Option.map_map, Option.map_map]
  have : ((fun q : D × D => PyData.eqv q.1 (pd p)) ∘ ppair) = fun q => decide (q.1 = p) := by
    funext q
    exact eqv_path q.1 p
  rw [this]
  congr 1
theorem idx_p (kvs : PD) (p : List Int) : oIdx (pdD kvs) (pd p) = (pget kvs p).map PyData.int := by
  show (if kfit (kvs.map ppair) (pd p) then dget (kvs.map ppair) (pd p) else none) = _
  rw [kfit_p, dget_p]
  rfl
theorem dput_p (kvs : PD) (p : List Int) (m : Int) (h : p ∉ kvs.map (·.1)) : dput (kvs.map ppair) (pd p) (.int m) = (kvs ++ [(p, m)]).map ppair := by
  have : ((kvs.map ppair).any fun q => PyData.eqv q.1 (pd p)) = false := by
    rw [List.any_map, List.any_eq_false]
    intro q hq
    show ¬ PyData.eqv (pd q.1) (pd p) = true
    rw [eqv_path]
    intro e
    exact h (List.mem_map.mpr ⟨q, hq, of_decide_eq_true e⟩)
  unfold dput
  rw [this]
  simp [ppair]
theorem dict_p (kvs : PD) (h : (kvs.map (·.1)).Nodup) : oB .dict [.list (kvs.map fun q => .tuple [pd q.1, .int q.2])] = some (pdD kvs) := by
  have ps : pairs (kvs.map fun q => PyData.tuple [pd q.1, .int q.2]) = some (kvs.map ppair) := by
    clear h
    induction kvs with
    | nil => rfl
    | cons q kvs ih =>
      rw [List.map_cons, pairs, ih]
      rfl
  have ok : onekind (kvs.map ppair) = true := by
    unfold onekind
    rw [Bool.or_eq_true]
    right
    rw [List.all_map, List.all_eq_true]
    intro q _
    show (kin (pd q.1) == 2) = true
    rw [kin_path]
    rfl
  have mg : ∀ (b a : PD), ((a ++ b).map (·.1)).Nodup → (b.map ppair).foldl (fun acc p => dput acc p.1 p.2) (a.map ppair) = (a ++ b).map ppair := by
    intro b
    induction b with
    | nil => intro a _; simp
    | cons q b ih =>
      intro a hn
      rw [List.map_cons, List.foldl_cons]
      have : dput (a.map ppair) (ppair q).1 (ppair q).2 = (a ++ [q]).map ppair := dput_p a q.1 q.2 (by
        rw [List.map_append, List.nodup_append] at hn
        intro hm
        exact hn.2.2 q.1 hm q.1 (by simp) rfl)
      rw [this, ih (a ++ [q]) (by rw [List.append_assoc]; exact hn), List.append_assoc]
      rfl
  show (pairs _).bind (fun kvs => if onekind kvs then some (PyData.dict (dmerge [] kvs)) else none) = _
  rw [ps]
  show (if onekind (kvs.map ppair) then some (PyData.dict (dmerge [] (kvs.map ppair))) else none) = _
  rw [ok, if_pos rfl]
  unfold dmerge
  have := mg kvs [] (by simpa using h)
  rw [List.map_nil] at this
  rw [this]
  rfl
theorem pget_mem {kvs : PD} (h : (kvs.map (·.1)).Nodup) {q : List Int × Int} (hq : q ∈ kvs) : pget kvs q.1 = some q.2 := by
  unfold pget
  induction kvs with
  | nil => cases hq
  | cons a kvs ih =>
    rw [List.map_cons, List.nodup_cons] at h
    rw [List.find?_cons]
    rcases List.mem_cons.mp hq with rfl | hq
    · simp
    · have : a.1 ≠ q.1 := fun e => h.1 (e ▸ List.mem_map_of_mem hq)
      simp only [this, decide_false]
      exact ih h.2 hq
theorem pget_none {kvs : PD} {p : List Int} (h : p ∉ kvs.map (·.1)) : pget kvs p = none := by
  unfold pget
  rw [List.find?_eq_none.mpr]
  · rfl
  · intro q hq e
    exact h (List.mem_map.mpr ⟨q, hq, of_decide_eq_true e⟩)
end Rv.k08
end
section
/-! k08, mathematics 21: _law_numbered, _law_least_splitting. -/
namespace Rv.k08
open PySem Rv
/-- a list comprehension over what is known, without a test -/
theorem comp_g {α : Type} {c : Cal} {own : List Nat} {tg : Tg} {sr : Src} {it elt : Ex} {env env0 : Env} {W : List α} {en : α → D} {out : α → D} {b : Bool} {xs : D} (hx : walk sr [xs] = some (W.map en)) (hit : ev c it env = .ok (b, xs) env) (hh : hide own env = some env0) (hu : unhide own env env0 = env) (hw : W.length < 1000000)
    (hturn : ∀ q ∈ W, ∃ e2, asg tg (en q) env0 = some e2 ∧ hide own e2 = some env0 ∧ valOf (ev c elt e2) = .ok (out q) e2) :
    ev c (.comp own tg sr [it] elt) env = .ok (true, .list (W.map out)) env := by
  have tn : ∀ q ∈ W, cTurn own tg (bodyOf (ev c elt)) (en q) env0 = .ok (some (out q)) env0 := fun q hq => by
    obtain ⟨e2, h1, h2, h3⟩ := hturn q hq
    simp [cTurn, h1, bodyOf, h3, Rs.bind, turnEnd, h2]
  have ts := turns_map en (fun q => some (out q)) env0 W tn
  rw [show W.filterMap (fun q => some (out q)) = W.map out from by rw [List.filterMap_eq_map']] at ts
  have sm : small (W.map out).length = true := small_lt (by rw [List.length_map]; exact hw)
  rw [ev]
  have hs : evs c [it] env = .ok [xs] env := by simp [evs, hit, valOf, Rs.bind]
  rw [hs]
  simp only [Rs.bind, hx, runComp, hh, ts, sm, hu, if_true]
abbrev Ky := Int × List (Int × Int)
def kD (k : Ky) : D := .tuple [.int k.1, .tuple (k.2.map hpair)]
theorem eqv_hp : ∀ l m : List (Int × Int), PyData.eqvAll (l.map hpair) (m.map hpair) = decide (l = m)
  | [], [] => by simp [PyData.eqvAll]
  | [], b :: q => by simp [PyData.eqvAll]
  | a :: p, [] => by simp [PyData.eqvAll]
  | a :: p, b :: q => by
    obtain ⟨a1, a2⟩ := a
    obtain ⟨b1, b2⟩ := b
    rw [List.map_cons, List.map_cons, PyData.eqvAll, eqv_hp p q]
    simp only [hpair, PyData.eqv, PyData.eqvAll, Bool.and_true]
    by_cases h1 : a1 = b1 <;> by_cases h2 : a2 = b2 <;> by_cases h3 : p = q <;> simp [h1, h2, h3]
theorem eqv_key (a b : Ky) : PyData.eqv (kD a) (kD b) = decide (a = b) := by
  obtain ⟨a1, a2⟩ := a
  obtain ⟨b1, b2⟩ := b
  simp only [kD, PyData.eqv, PyData.eqvAll, eqv_hp, Bool.and_true]
  by_cases h1 : a1 = b1 <;> by_cases h2 : a2 = b2 <;> simp [h1, h2]
theorem lay_hp (l : List (Int × Int)) : PyData.canLayAll0 (l.map hpair) = true := by
  induction l with
  | nil => rfl
  | cons a l ih => simp [List.map_cons, PyData.canLayAll0, ih, hpair, PyData.canLay0]
theorem dep_hp (l : List (Int × Int)) : PyData.depthAll (l.map hpair) ≤ 1 := by
  induction l with
  | nil => simp [PyData.depthAll]
  | cons a l ih =>
    rw [List.map_cons, PyData.depthAll]
    simp only [hpair, PyData.depth, PyData.depthAll]
    omega
theorem lay_keys (l : List Ky) : PyData.canLayAll0 (l.map kD) = true := by
  induction l with
  | nil => rfl
  | cons a l ih => simp [List.map_cons, PyData.canLayAll0, ih, kD, PyData.canLay0, lay_hp]
theorem dep_key (k : Ky) : (kD k).depth ≤ 3 := by
  have := dep_hp k.2
  simp only [kD, PyData.depth, PyData.depthAll]
  omega
theorem dep_keys (l : List Ky) : PyData.depthAll (l.map kD) ≤ 3 := by
  induction l with
  | nil => simp [PyData.depthAll]
  | cons a l ih =>
    have := dep_key a
    rw [List.map_cons, PyData.depthAll]
    omega
theorem shp_key (k : Ky) : SeqAt.shaped (kD k) = true := by
  have := dep_key k
  unfold SeqAt.shaped
  rw [show (kD k).canLay0 = true by simp [kD, PyData.canLay0, PyData.canLayAll0, lay_hp], Bool.true_and, decide_eq_true_eq]
  omega
theorem shp_keys (l : List Ky) : SeqAt.shaped (.list (l.map kD)) = true := by
  have := dep_keys l
  unfold SeqAt.shaped
  rw [PyData.canLay0, lay_keys, Bool.true_and, decide_eq_true_eq, PyData.depth]
  omega
theorem shp_kk (k : Ky) (l : List Ky) : shp2 (kD k) (.list (l.map kD)) = true := by
  unfold shp2
  rw [shp_key, shp_keys]
  rfl
theorem any_keysK (k : Ky) (l : List Ky) : ((l.map kD).any fun z => PyData.eqv z (kD k)) = decide (k ∈ l) := by
  induction l with
  | nil => rfl
  | cons x l ih =>
    rw [List.map_cons, List.any_cons, ih, eqv_key]
    by_cases h1 : x = k
    · subst h1; simp
    · have h2 : ¬ k = x := fun z => h1 z.symm
      simp [h1, h2]
theorem in_keys (k : Ky) (l : List Ky) : oCmp .In (kD k) (.list (l.map kD)) = some (.bool (decide (k ∈ l))) := by
  show (if shp2 _ _ then some (dT _) else none) = _
  rw [shp_kk, if_pos rfl, any_keysK]
  rfl
def addk (kn : List Ky) (k : Ky) : List Ky := if k ∈ kn then kn else kn ++ [k]
def kns (ks : List Ky) : List Ky := ks.foldl addk []
theorem addk_mem {kn : List Ky} {k x : Ky} : x ∈ addk kn k ↔ x ∈ kn ∨ x = k := by
  unfold addk
  split
  · constructor
    · exact .inl
    · rintro (h | rfl)
      · exact h
      · assumption
  · simp
theorem foldk_mem : ∀ (ks kn : List Ky) (x : Ky), x ∈ ks.foldl addk kn ↔ x ∈ kn ∨ x ∈ ks
  | [], kn, x => by simp
  | k :: ks, kn, x => by
    rw [List.foldl_cons, foldk_mem ks, addk_mem, List.mem_cons]
    constructor
    · rintro ((h | h) | h)
      · exact .inl h
      · exact .inr (.inl h)
      · exact .inr (.inr h)
    · rintro (h | h | h)
      · exact .inl (.inl h)
      · exact .inl (.inr h)
      · exact .inr h
theorem foldk_len : ∀ (ks kn : List Ky), (ks.foldl addk kn).length ≤ kn.length + ks.length
  | [], kn => Nat.le_refl _
  | k :: ks, kn => by
    have h := foldk_len ks (addk kn k)
    have : (addk kn k).length ≤ kn.length + 1 := by
      unfold addk
      split <;> simp
    rw [List.foldl_cons, List.length_cons]
    omega
def idxk (kn : List Ky) (k : Ky) : Nat := (kn.findIdx? fun z => decide (z = k)).getD 0
theorem idxk_some {kn : List Ky} {k : Ky} (h : k ∈ kn) : (kn.findIdx? fun z => decide (z = k)) = some (idxk kn k) ∧ kn[idxk kn k]? = some k := by
  cases e : kn.findIdx? fun z => decide (z = k) with
  | none =>
    rw [List.findIdx?_eq_none_iff] at e
    have := e k h
    simp at this
  | some j =>
    have : idxk kn k = j := by unfold idxk; rw [e]; rfl
    rw [this]
    refine ⟨rfl, ?_⟩
    obtain ⟨hj, h1, _⟩ := List.findIdx?_eq_some_iff_getElem.mp e
    rw [List.getElem?_eq_getElem hj]
    congr 1
    exact of_decide_eq_true h1
theorem idxk_inj {kn : List Ky} {a b : Ky} (ha : a ∈ kn) (hb : b ∈ kn) (h : idxk kn a = idxk kn b) : a = b := by
  have h1 := (idxk_some ha).2
  have h2 := (idxk_some hb).2
  rw [h, h2] at h1
  exact (Option.some.inj h1).symm
theorem index_key {kn : List Ky} {k : Ky} (h : k ∈ kn) : oIndex (.list (kn.map kD)) (kD k) = some (.int (idxk kn k : Nat)) := by
  have h1 : (PyData.list (kn.map kD)).hasDict = false := PyData.hasDict_of_canLay _ (SeqAt.canLay_of_shaped (shp_keys kn))
  have h2 : (kD k).hasDict = false := PyData.hasDict_of_canLay _ (SeqAt.canLay_of_shaped (shp_key k))
  have h3 : shp2 (.list (kn.map kD)) (kD k) = true := by
    unfold shp2
    rw [shp_key, shp_keys]
    rfl
  show (if shp2 (.list (kn.map kD)) (kD k) && !(PyData.list (kn.map kD)).hasDict && !(kD k).hasDict then ((kn.map kD).findIdx? fun z => PyData.eqv z (kD k)).map fun j => PyData.int (j : Nat) else none) = _
  rw [h1, h2, h3]
  have : ((kn.map kD).findIdx? fun z => PyData.eqv z (kD k)) = kn.findIdx? fun z => decide (z = k) := by
    rw [List.findIdx?_map]
    congr 1
    funext z
    exact eqv_key z k
  rw [this, (idxk_some h).1]
  rfl
/-! ### _law_numbered -/
def nbEnv (ks kn : List Ky) (x : Option D) : Env := [some (.val (.list (ks.map kD))), some (.own (.list (kn.map kD))), x.map Sl.val]
def nbBody : List Sm := [.set 1 (.bin .Add (.var 1) (.ite (.cmp .In (.var 2) (.var 1)) (.lst []) (.lst [(.var 2)])))]
theorem nb_body (c : Cal) (ks kn : List Ky) (k : Ky) (h : kn.length < 100000) : exs c nbBody (nbEnv ks kn (some (kD k))) = .nx (nbEnv ks (addk kn k) (some (kD k))) := by
  have ik := in_keys k kn
  by_cases hk : k ∈ kn
  · have e : addk kn k = kn := if_pos hk
    have sm : small ((kn.map kD).length + 0) = true := small_lt (by rw [List.length_map]; omega)
    have sm2 : small kn.length = true := small_lt (by omega)
    rw [nbBody, e]
    simp [st_nil, st_cons, st_set, st_par, st_unp, st_put, st_app, st_ext, st_expr, st_ret, st_ite, st_pass, evL_nil, evL_cons, evs_nil, evs_cons, ev_var, ev_cst, ev_glob, ev_tup, ev_lst, ev_dic, ev_bin, ev_cmp, ev_chn, ev_band, ev_bor, ev_not, ev_neg, ev_ite, ev_blt, ev_blt2, ev_isi, ev_idx, ev_slc, ev_rev, ev_pop, ev_get, ev_get2, ev_index, two, brw, Ex.var?, valOf, Rs.bind, Rs.of, Rs.ou, Ou.nxt, nw, ol, slOf, nxO, rd, frz, Sl.d, putV_none, putV_val, putV_own, putV_map, putV_mapc, putL, asg, asgs, chg, upSl, app1, ext1, isLs, isDc, isLD, recv, later, tru_b, lt_ii, gt_ii, le_ii, ge_ii, eq_ii, ne_ii, at_0, at_1, at_2, at_3, add_ll, add_tt, oIdx, dT, small_lt, fin, finR, outs, callV, callS, nbEnv, ik, hk, sm2]
  · have e : addk kn k = kn ++ [k] := if_neg hk
    have sm : small (kn.length + 1) = true := small_lt (by omega)
    rw [nbBody, e]
    simp [st_nil, st_cons, st_set, st_par, st_unp, st_put, st_app, st_ext, st_expr, st_ret, st_ite, st_pass, evL_nil, evL_cons, evs_nil, evs_cons, ev_var, ev_cst, ev_glob, ev_tup, ev_lst, ev_dic, ev_bin, ev_cmp, ev_chn, ev_band, ev_bor, ev_not, ev_neg, ev_ite, ev_blt, ev_blt2, ev_isi, ev_idx, ev_slc, ev_rev, ev_pop, ev_get, ev_get2, ev_index, two, brw, Ex.var?, valOf, Rs.bind, Rs.of, Rs.ou, Ou.nxt, nw, ol, slOf, nxO, rd, frz, Sl.d, putV_none, putV_val, putV_own, putV_map, putV_mapc, putL, asg, asgs, chg, upSl, app1, ext1, isLs, isDc, isLD, recv, later, tru_b, lt_ii, gt_ii, le_ii, ge_ii, eq_ii, ne_ii, at_0, at_1, at_2, at_3, add_ll, add_tt, oIdx, dT, small_lt, fin, finR, outs, callV, callS, nbEnv, ik, hk, sm]
theorem numbered (k : Nat) (ks : List Ky) (h : ks.length < 1000) : run (all.map De.g) (k + 1) 32 [.list (ks.map kD)] = .ret (.tuple (ks.map fun x => .int (idxk (kns ks) x : Nat))) [] := by
  rw [run_def (g := d__law_numbered.g) rfl rfl]
  show fin d__law_numbered.g (exs (cal (all.map De.g) k) [_, .for_ (.v 2) .it [(.var 0)] nbBody, .ret (.blt .tuple (.comp [2] (.v 2) .it [(.var 0)] (.index (.var 1) (.var 2))))] [some (.val (.list (ks.map kD))), none, none]) = _
  have q1 : ex1 (cal (all.map De.g) k) (.set 1 (.lst [])) [some (.val (.list (ks.map kD))), none, none] = .nx (nbEnv ks [] none) := by
    simp [st_nil, st_cons, st_set, st_par, st_unp, st_put, st_app, st_ext, st_expr, st_ret, st_ite, st_pass, evL_nil, evL_cons, evs_nil, evs_cons, ev_var, ev_cst, ev_glob, ev_tup, ev_lst, ev_dic, ev_bin, ev_cmp, ev_chn, ev_band, ev_bor, ev_not, ev_neg, ev_ite, ev_blt, ev_blt2, ev_isi, ev_idx, ev_slc, ev_rev, ev_pop, ev_get, ev_get2, ev_index, two, brw, Ex.var?, valOf, Rs.bind, Rs.of, Rs.ou, Ou.nxt, nw, ol, slOf, nxO, rd, frz, Sl.d, putV_none, putV_val, putV_own, putV_map, putV_mapc, putL, asg, asgs, chg, upSl, app1, ext1, isLs, isDc, isLD, recv, later, tru_b, lt_ii, gt_ii, le_ii, ge_ii, eq_ii, ne_ii, at_0, at_1, at_2, at_3, add_ll, add_tt, oIdx, dT, small_lt, fin, finR, outs, callV, callS, nbEnv]
  obtain ⟨e', lp, x, he⟩ := loop_on (f := fun x e2 => match asg (.v 2) x e2 with
    | some e3 => exs (cal (all.map De.g) k) nbBody e3
    | none => .no) kD (fun pr env => ∃ x, env = nbEnv ks (kns pr) x) ks (by
      rintro pr y post env hw ⟨x, rfl⟩
      have hl := foldk_len pr []
      have hpl : pr.length < 1000 := by
        have := congrArg List.length hw
        rw [List.length_append] at this
        omega
      refine ⟨_, ?_, some (kD y), rfl⟩
      have ag : asg (.v 2) (kD y) (nbEnv ks (kns pr) x) = some (nbEnv ks (kns pr) (some (kD y))) := by
        cases x <;> simp [asg, putV, nbEnv]
      rw [ag]
      have := nb_body (cal (all.map De.g) k) ks (kns pr) y (by unfold kns; simp at hl; omega)
      dsimp only
      rw [this]
      unfold kns
      rw [List.foldl_append]
      rfl) (nbEnv ks [] none) ⟨none, rfl⟩
  have q2 : ex1 (cal (all.map De.g) k) (.for_ (.v 2) .it [(.var 0)] nbBody) (nbEnv ks [] none) = .nx e' := by
    rw [ex1]
    have es : evs (cal (all.map De.g) k) [(.var 0)] (nbEnv ks [] none) = .ok [.list (ks.map kD)] (nbEnv ks [] none) := by
      simp [st_nil, st_cons, st_set, st_par, st_unp, st_put, st_app, st_ext, st_expr, st_ret, st_ite, st_pass, evL_nil, evL_cons, evs_nil, evs_cons, ev_var, ev_cst, ev_glob, ev_tup, ev_lst, ev_dic, ev_bin, ev_cmp, ev_chn, ev_band, ev_bor, ev_not, ev_neg, ev_ite, ev_blt, ev_blt2, ev_isi, ev_idx, ev_slc, ev_rev, ev_pop, ev_get, ev_get2, ev_index, two, brw, Ex.var?, valOf, Rs.bind, Rs.of, Rs.ou, Ou.nxt, nw, ol, slOf, nxO, rd, frz, Sl.d, putV_none, putV_val, putV_own, putV_map, putV_mapc, putL, asg, asgs, chg, upSl, app1, ext1, isLs, isDc, isLD, recv, later, tru_b, lt_ii, gt_ii, le_ii, ge_ii, eq_ii, ne_ii, at_0, at_1, at_2, at_3, add_ll, add_tt, oIdx, dT, small_lt, fin, finR, outs, callV, callS, nbEnv]
    rw [es]
    exact lp
  have hit : ev (cal (all.map De.g) k) (.var 0) (nbEnv ks (kns ks) x) = .ok (false, .list (ks.map kD)) (nbEnv ks (kns ks) x) := by
    simp [st_nil, st_cons, st_set, st_par, st_unp, st_put, st_app, st_ext, st_expr, st_ret, st_ite, st_pass, evL_nil, evL_cons, evs_nil, evs_cons, ev_var, ev_cst, ev_glob, ev_tup, ev_lst, ev_dic, ev_bin, ev_cmp, ev_chn, ev_band, ev_bor, ev_not, ev_neg, ev_ite, ev_blt, ev_blt2, ev_isi, ev_idx, ev_slc, ev_rev, ev_pop, ev_get, ev_get2, ev_index, two, brw, Ex.var?, valOf, Rs.bind, Rs.of, Rs.ou, Ou.nxt, nw, ol, slOf, nxO, rd, frz, Sl.d, putV_none, putV_val, putV_own, putV_map, putV_mapc, putL, asg, asgs, chg, upSl, app1, ext1, isLs, isDc, isLD, recv, later, tru_b, lt_ii, gt_ii, le_ii, ge_ii, eq_ii, ne_ii, at_0, at_1, at_2, at_3, add_ll, add_tt, oIdx, dT, small_lt, fin, finR, outs, callV, callS, nbEnv]
  have cm := comp_g (c := cal (all.map De.g) k) (own := [2]) (tg := .v 2) (sr := .it) (elt := .index (.var 1) (.var 2)) (env := nbEnv ks (kns ks) x) (env0 := nbEnv ks (kns ks) none) (W := ks) (en := kD) (out := fun y => .int (idxk (kns ks) y : Nat)) rfl hit (by cases x <;> rfl) (by cases x <;> rfl) (by omega) fun y hy => by
    have hm : y ∈ kns ks := (foldk_mem ks [] y).mpr (.inr hy)
    have ix := index_key hm
    refine ⟨nbEnv ks (kns ks) (some (kD y)), rfl, rfl, ?_⟩
    simp [st_nil, st_cons, st_set, st_par, st_unp, st_put, st_app, st_ext, st_expr, st_ret, st_ite, st_pass, evL_nil, evL_cons, evs_nil, evs_cons, ev_var, ev_cst, ev_glob, ev_tup, ev_lst, ev_dic, ev_bin, ev_cmp, ev_chn, ev_band, ev_bor, ev_not, ev_neg, ev_ite, ev_blt, ev_blt2, ev_isi, ev_idx, ev_slc, ev_rev, ev_pop, ev_get, ev_get2, ev_index, two, brw, Ex.var?, valOf, Rs.bind, Rs.of, Rs.ou, Ou.nxt, nw, ol, slOf, nxO, rd, frz, Sl.d, putV_none, putV_val, putV_own, putV_map, putV_mapc, putL, asg, asgs, chg, upSl, app1, ext1, isLs, isDc, isLD, recv, later, tru_b, lt_ii, gt_ii, le_ii, ge_ii, eq_ii, ne_ii, at_0, at_1, at_2, at_3, add_ll, add_tt, oIdx, dT, small_lt, fin, finR, outs, callV, callS, nbEnv, ix]
  rw [st_cons, q1, nxt_nx, st_cons, q2, nxt_nx, he, st_cons, st_ret, ev_blt, brw]
  simp only [show (Ex.comp [2] (.v 2) .it [(.var 0)] (.index (.var 1) (.var 2))).var? = none from rfl, cm, v_ok, b_ok]
  simp [st_nil, st_cons, st_set, st_par, st_unp, st_put, st_app, st_ext, st_expr, st_ret, st_ite, st_pass, evL_nil, evL_cons, evs_nil, evs_cons, ev_var, ev_cst, ev_glob, ev_tup, ev_lst, ev_dic, ev_bin, ev_cmp, ev_chn, ev_band, ev_bor, ev_not, ev_neg, ev_ite, ev_blt, ev_blt2, ev_isi, ev_idx, ev_slc, ev_rev, ev_pop, ev_get, ev_get2, ev_index, two, brw, Ex.var?, valOf, Rs.bind, Rs.of, Rs.ou, Ou.nxt, nw, ol, slOf, nxO, rd, frz, Sl.d, putV_none, putV_val, putV_own, putV_map, putV_mapc, putL, asg, asgs, chg, upSl, app1, ext1, isLs, isDc, isLD, recv, later, tru_b, lt_ii, gt_ii, le_ii, ge_ii, eq_ii, ne_ii, at_0, at_1, at_2, at_3, add_ll, add_tt, oIdx, dT, small_lt, fin, finR, outs, callV, callS, nbEnv, oB, d__law_numbered]
/-! ### _law_least_splitting -/
def nkey (t : Tr) (q : Nd) : Ky := (roomI q.2, roomsTo t q.1)
def note (t : Tr) (q : Nd) : Int := (idxk (kns ((owns t).map (nkey t))) (nkey t q) : Nat)
theorem note_inj {t : Tr} {q r : Nd} (hq : q ∈ owns t) (hr : r ∈ owns t) (h : note t q = note t r) : nkey t q = nkey t r :=
  idxk_inj (kn := kns ((owns t).map (nkey t))) ((foldk_mem _ [] _).mpr (.inr (List.mem_map_of_mem hq))) ((foldk_mem _ [] _).mpr (.inr (List.mem_map_of_mem hr))) (by unfold note at h; omega)
def lsEnv (T : D) (ks : List Ky) (x y : Option D) : Env := [some (.val T), some (.own (.list (ks.map kD))), x.map Sl.val, y.map Sl.val]
def lsBody : List Sm := [.app 1 (.tup [(.var 3), (.call 22 [(.var 0), (.var 2)])])]
theorem least_splitting (k : Nat) (t : Tr) (g : Good t) (o : okA t) : run (all.map De.g) (k + 5) 33 [enc t] = .ret (.tuple ((owns t).map fun q => .int (note t q))) [] := by
  rw [run_def (g := d__law_least_splitting.g) rfl rfl]
  show fin d__law_least_splitting.g (exs (cal (all.map De.g) (k + 4)) [_, .for_ (.t [(.v 2), (.v 3)]) .it [(.call 21 [(.var 0)])] lsBody, .ret (.call 32 [(.var 1)])] [some (.val (enc t)), none, none, none]) = _
  have lo : (owns t).length < 1000 := Nat.lt_of_le_of_lt (List.length_filter_le _ _) g.few
  have q1 : ex1 (cal (all.map De.g) (k + 4)) (.set 1 (.lst [])) [some (.val (enc t)), none, none, none] = .nx (lsEnv (enc t) [] none none) := by
    simp [st_nil, st_cons, st_set, st_par, st_unp, st_put, st_app, st_ext, st_expr, st_ret, st_ite, st_pass, evL_nil, evL_cons, evs_nil, evs_cons, ev_var, ev_cst, ev_glob, ev_tup, ev_lst, ev_dic, ev_bin, ev_cmp, ev_chn, ev_band, ev_bor, ev_not, ev_neg, ev_ite, ev_blt, ev_blt2, ev_isi, ev_idx, ev_slc, ev_rev, ev_pop, ev_get, ev_get2, ev_index, two, brw, Ex.var?, valOf, Rs.bind, Rs.of, Rs.ou, Ou.nxt, nw, ol, slOf, nxO, rd, frz, Sl.d, putV_none, putV_val, putV_own, putV_map, putV_mapc, putL, asg, asgs, chg, upSl, app1, ext1, isLs, isDc, isLD, recv, later, tru_b, lt_ii, gt_ii, le_ii, ge_ii, eq_ii, ne_ii, at_0, at_1, at_2, at_3, add_ll, add_tt, oIdx, dT, small_lt, fin, finR, outs, callV, callS, lsEnv]
  obtain ⟨e', lp, x, y, he⟩ := loop_on (f := fun x e2 => match asg (.t [.v 2, .v 3]) x e2 with
    | some e3 => exs (cal (all.map De.g) (k + 4)) lsBody e3
    | none => .no) (fun q : Nd => .tuple [pd q.1, .int (roomI q.2)]) (fun pr env => ∃ x y, env = lsEnv (enc t) (pr.map (nkey t)) x y) (owns t) (by
      rintro pr q post env hw ⟨x, y, rfl⟩
      have hpl : pr.length < 1000 := by
        have := congrArg List.length hw
        rw [List.length_append] at this
        omega
      obtain ⟨h1, _, _⟩ := owns_mem (t := t) (q := q) (by rw [hw]; simp)
      refine ⟨lsEnv (enc t) ((pr ++ [q]).map (nkey t)) (some (pd q.1)) (some (.int (roomI q.2))), ?_, _, _, rfl⟩
      have ag : asg (.t [(.v 2), (.v 3)]) (.tuple [pd q.1, .int (roomI q.2)]) (lsEnv (enc t) (pr.map (nkey t)) x y) = some (lsEnv (enc t) (pr.map (nkey t)) (some (pd q.1)) (some (.int (roomI q.2)))) := by
        cases x <;> cases y <;> simp [asg, asgs, putV, lsEnv]
      rw [ag]
      have c1 : ev (cal (all.map De.g) (k + 4)) (.call 22 [.var 0, .var 2]) (lsEnv (enc t) (pr.map (nkey t)) (some (pd q.1)) (some (.int (roomI q.2)))) = .ok (false, .tuple ((roomsTo t q.1).map hpair)) (lsEnv (enc t) (pr.map (nkey t)) (some (pd q.1)) (some (.int (roomI q.2)))) :=
        ev_call (n := 2) (ds := [enc t, pd q.1]) rfl (by simp [st_nil, st_cons, st_set, st_par, st_unp, st_put, st_app, st_ext, st_expr, st_ret, st_ite, st_pass, evL_nil, evL_cons, evs_nil, evs_cons, ev_var, ev_cst, ev_glob, ev_tup, ev_lst, ev_dic, ev_bin, ev_cmp, ev_chn, ev_band, ev_bor, ev_not, ev_neg, ev_ite, ev_blt, ev_blt2, ev_isi, ev_idx, ev_slc, ev_rev, ev_pop, ev_get, ev_get2, ev_index, two, brw, Ex.var?, valOf, Rs.bind, Rs.of, Rs.ou, Ou.nxt, nw, ol, slOf, nxO, rd, frz, Sl.d, putV_none, putV_val, putV_own, putV_map, putV_mapc, putL, asg, asgs, chg, upSl, app1, ext1, isLs, isDc, isLD, recv, later, tru_b, lt_ii, gt_ii, le_ii, ge_ii, eq_ii, ne_ii, at_0, at_1, at_2, at_3, add_ll, add_tt, oIdx, dT, small_lt, fin, finR, outs, callV, callS, lsEnv]) rfl (law_history (k + 3) t q.2 q.1 (g.at_ h1) (g.len q h1))
      have sm : small (pr.length + 1) = true := small_lt (by omega)
      unfold lsEnv at c1
      simp only [List.map_map, Option.map_some] at c1
      rw [lsBody]
      simp [st_nil, st_cons, st_set, st_par, st_unp, st_put, st_app, st_ext, st_expr, st_ret, st_ite, st_pass, evL_nil, evL_cons, evs_nil, evs_cons, ev_var, ev_cst, ev_glob, ev_tup, ev_lst, ev_dic, ev_bin, ev_cmp, ev_chn, ev_band, ev_bor, ev_not, ev_neg, ev_ite, ev_blt, ev_blt2, ev_isi, ev_idx, ev_slc, ev_rev, ev_pop, ev_get, ev_get2, ev_index, two, brw, Ex.var?, valOf, Rs.bind, Rs.of, Rs.ou, Ou.nxt, nw, ol, slOf, nxO, rd, frz, Sl.d, putV_none, putV_val, putV_own, putV_map, putV_mapc, putL, asg, asgs, chg, upSl, app1, ext1, isLs, isDc, isLD, recv, later, tru_b, lt_ii, gt_ii, le_ii, ge_ii, eq_ii, ne_ii, at_0, at_1, at_2, at_3, add_ll, add_tt, oIdx, dT, small_lt, fin, finR, outs, callV, callS, lsEnv, c1, sm, nkey, kD]) (lsEnv (enc t) [] none none) ⟨none, none, rfl⟩
  have q2 : ex1 (cal (all.map De.g) (k + 4)) (.for_ (.t [(.v 2), (.v 3)]) .it [(.call 21 [(.var 0)])] lsBody) (lsEnv (enc t) [] none none) = .nx e' := by
    rw [ex1]
    have es : evs (cal (all.map De.g) (k + 4)) [(.call 21 [(.var 0)])] (lsEnv (enc t) [] none none) = .ok [.list ((owns t).map fun q => .tuple [pd q.1, .int (roomI q.2)])] (lsEnv (enc t) [] none none) := by
      have cl : ev (cal (all.map De.g) (k + 4)) (.call 21 [(.var 0)]) (lsEnv (enc t) [] none none) = .ok (false, .list ((owns t).map fun q => .tuple [pd q.1, .int (roomI q.2)])) (lsEnv (enc t) [] none none) :=
        ev_call (n := 1) (ds := [enc t]) rfl (by simp [st_nil, st_cons, st_set, st_par, st_unp, st_put, st_app, st_ext, st_expr, st_ret, st_ite, st_pass, evL_nil, evL_cons, evs_nil, evs_cons, ev_var, ev_cst, ev_glob, ev_tup, ev_lst, ev_dic, ev_bin, ev_cmp, ev_chn, ev_band, ev_bor, ev_not, ev_neg, ev_ite, ev_blt, ev_blt2, ev_isi, ev_idx, ev_slc, ev_rev, ev_pop, ev_get, ev_get2, ev_index, two, brw, Ex.var?, valOf, Rs.bind, Rs.of, Rs.ou, Ou.nxt, nw, ol, slOf, nxO, rd, frz, Sl.d, putV_none, putV_val, putV_own, putV_map, putV_mapc, putL, asg, asgs, chg, upSl, app1, ext1, isLs, isDc, isLD, recv, later, tru_b, lt_ii, gt_ii, le_ii, ge_ii, eq_ii, ne_ii, at_0, at_1, at_2, at_3, add_ll, add_tt, oIdx, dT, small_lt, fin, finR, outs, callV, callS, lsEnv]) rfl (law_owns k t g o)
      rw [evs_cons, cl, v_ok, b_ok, evs_nil, b_ok]
    rw [es]
    exact lp
  have nb := numbered (k + 3) ((owns t).map (nkey t)) (by rw [List.length_map]; exact lo)
  have c2 : ev (cal (all.map De.g) (k + 4)) (.call 32 [(.var 1)]) (lsEnv (enc t) ((owns t).map (nkey t)) x y) = .ok (false, .tuple ((owns t).map fun q => .int (note t q))) [some (.val (enc t)), some (.val (.list (((owns t).map (nkey t)).map kD))), x.map Sl.val, y.map Sl.val] := by
    refine ev_call (n := 1) (ds := [.list (((owns t).map (nkey t)).map kD)]) rfl (by simp [st_nil, st_cons, st_set, st_par, st_unp, st_put, st_app, st_ext, st_expr, st_ret, st_ite, st_pass, evL_nil, evL_cons, evs_nil, evs_cons, ev_var, ev_cst, ev_glob, ev_tup, ev_lst, ev_dic, ev_bin, ev_cmp, ev_chn, ev_band, ev_bor, ev_not, ev_neg, ev_ite, ev_blt, ev_blt2, ev_isi, ev_idx, ev_slc, ev_rev, ev_pop, ev_get, ev_get2, ev_index, two, brw, Ex.var?, valOf, Rs.bind, Rs.of, Rs.ou, Ou.nxt, nw, ol, slOf, nxO, rd, frz, Sl.d, putV_none, putV_val, putV_own, putV_map, putV_mapc, putL, asg, asgs, chg, upSl, app1, ext1, isLs, isDc, isLD, recv, later, tru_b, lt_ii, gt_ii, le_ii, ge_ii, eq_ii, ne_ii, at_0, at_1, at_2, at_3, add_ll, add_tt, oIdx, dT, small_lt, fin, finR, outs, callV, callS, lsEnv]) rfl ?_
    have e : ((owns t).map fun q => PyData.int (note t q)) = (((owns t).map (nkey t)).map fun x => PyData.int (idxk (kns ((owns t).map (nkey t))) x : Nat)) := by
      rw [List.map_map]
      rfl
    rw [e]
    exact nb
  rw [st_cons, q1, nxt_nx, st_cons, q2, nxt_nx, he, st_cons, st_ret, c2, v_ok, ou_ok, rt_nxt]
  rfl
end Rv.k08
end
section
/-! k08, mathematics 22: _law_noted_by, _law_noted. -/
namespace Rv.k08
open PySem Rv
/-- a list's elements with their places -/
def enumA {α : Type} : Nat → List α → List (Nat × α)
  | _, [] => []
  | i, x :: xs => (i, x) :: enumA (i + 1) xs
theorem enumA_g {α β : Type} (g : Nat → D → β) (f : α → D) : ∀ (xs : List α) (i : Nat), enumG g i (xs.map f) = (enumA i xs).map fun q => g q.1 (f q.2)
  | [], i => rfl
  | x :: xs, i => by
    rw [List.map_cons, enumG, enumA_g g f xs (i + 1)]
    rfl
theorem enumA_snd {α : Type} : ∀ (xs : List α) (i : Nat), (enumA i xs).map (·.2) = xs
  | [], i => rfl
  | x :: xs, i => by
    rw [enumA, List.map_cons, enumA_snd xs (i + 1)]
theorem enumA_len {α : Type} (xs : List α) (i : Nat) : (enumA i xs).length = xs.length := by
  have := congrArg List.length (enumA_snd xs i)
  simpa using this
theorem enumA_mem {α : Type} : ∀ {xs : List α} {i : Nat} {q : Nat × α}, q ∈ enumA i xs → ∃ j, q.1 = i + j ∧ xs[j]? = some q.2
  | x :: xs, i, q, h => by
    rcases List.mem_cons.mp h with rfl | h
    · exact ⟨0, rfl, rfl⟩
    · obtain ⟨j, h1, h2⟩ := enumA_mem h
      exact ⟨j + 1, by omega, by simpa using h2⟩
theorem walk_enum {α : Type} (f : α → D) (xs : List α) : walk .enum [.list (xs.map f)] = some ((enumA 0 xs).map fun q => .tuple [.int (q.1 : Nat), f q.2]) := by
  show some ((List.range (xs.map f).length).zipWith (fun i x => PyData.tuple [.int (i : Nat), x]) (xs.map f)) = _
  rw [zip_enum, enumA_g]
theorem walk_enumT {α : Type} (f : α → D) (xs : List α) : walk .enum [.tuple (xs.map f)] = some ((enumA 0 xs).map fun q => .tuple [.int (q.1 : Nat), f q.2]) := by
  show some ((List.range (xs.map f).length).zipWith (fun i x => PyData.tuple [.int (i : Nat), x]) (xs.map f)) = _
  rw [zip_enum, enumA_g]
/-! ### _law_noted_by -/
mutual
def ren (f : List Int → Int) : List Int → Tr → Tr
  | _, .leaf => .leaf
  | p, .own _ ts => .own (f p) (rens f p 0 ts)
  | p, .oth ts => .oth (rens f p 0 ts)
def rens (f : List Int → Int) : List Int → Nat → List Tr → List Tr
  | _, _, [] => []
  | p, i, t :: ts => ren f (p ++ [(i : Int)]) t :: rens f p (i + 1) ts
end
theorem rens_map (f : List Int → Int) (p : List Int) : ∀ (ts : List Tr) (i : Nat), rens f p i ts = (enumA i ts).map fun q => ren f (p ++ [((q.1 : Nat) : Int)]) q.2
  | [], i => by rw [rens]; rfl
  | t :: ts, i => by rw [rens, rens_map f p ts (i + 1)]; rfl
def nbyEnv (t : Tr) (kvs : PD) (p : List Int) (x y z : Option D) : Env := [some (.val (enc t)), some (.val (pdD kvs)), some (.val (pd p)), x.map Sl.val, y.map Sl.val, z.map Sl.val]
theorem pres_kid {p : List Int} : ∀ {ts : List Tr} {i : Nat} {q : Nat × Tr}, q ∈ enumA i ts → ∀ n ∈ pre (p ++ [((q.1 : Nat) : Int)]) q.2, n ∈ pres p i ts
  | t :: ts, i, q, hq, n, hn => by
    rw [pres]
    rcases List.mem_cons.mp hq with rfl | hq
    · exact List.mem_append_left _ hn
    · exact List.mem_append_right _ (pres_kid hq n hn)
theorem pre_kid {p : List Int} {t : Tr} {q : Nat × Tr} (hq : q ∈ enumA 0 (kids t)) : ∀ n ∈ pre (p ++ [((q.1 : Nat) : Int)]) q.2, n ∈ pre p t := fun n hn => by
  cases t with
  | leaf => cases hq
  | own r ts => rw [pre]; exact List.mem_cons_of_mem _ (pres_kid hq n hn)
  | oth ts => rw [pre]; exact List.mem_cons_of_mem _ (pres_kid hq n hn)
theorem noted_by (f : List Int → Int) (kvs : PD) : ∀ (n : Nat) (t : Tr) (p : List Int), dep t ≤ n → p.length + n ≤ 20 → (∀ q ∈ pre p t, okN q.2) → (∀ q ∈ pre p t, isOwn q.2 = true → pget kvs q.1 = some (f q.1)) → ∀ K, n + 1 ≤ K →
    run (all.map De.g) K 29 [enc t, pdD kvs, pd p] = .ret (enc (ren f p t)) []
  | n, t, p, hd, hp, hok, hf, K, hK => by
    obtain ⟨k, rfl⟩ : ∃ k, K = k + 1 := ⟨K - 1, by omega⟩
    rw [run_def (g := d__law_noted_by.g) rfl rfl]
    show fin d__law_noted_by.g (exs (cal (all.map De.g) k) b__law_noted_by [some (.val (enc t)), some (.val (pdD kvs)), some (.val (pd p)), none, none, none]) = _
    have te := e_eq (c := cal (all.map De.g) k) (j := 0) (t := t) (env := nbyEnv t kvs p none none none) (by simp [rd, nbyEnv, Sl.d]) (by omega)
    have bt : brw (.cmp .Eq (.var 0) (.tup [])) (ev (cal (all.map De.g) k) (.cmp .Eq (.var 0) (.tup []))) (nbyEnv t kvs p none none none) = .ok (.bool (isLeaf t)) (nbyEnv t kvs p none none none) := by
      rw [brw, va_cmp]
      dsimp only
      rw [te]
      rfl
    cases hl : isLeaf t with
    | true =>
      cases t with
      | leaf =>
        rw [hl] at bt
        show fin d__law_noted_by.g (exs (cal (all.map De.g) k) b__law_noted_by (nbyEnv .leaf kvs p none none none)) = _
        rw [b__law_noted_by, st_cons, st_ite, bt, ou_ok]
        simp [st_nil, st_cons, st_set, st_par, st_unp, st_put, st_app, st_ext, st_expr, st_ret, st_ite, st_pass, evL_nil, evL_cons, evs_nil, evs_cons, ev_var, ev_cst, ev_glob, ev_tup, ev_lst, ev_dic, ev_bin, ev_cmp, ev_chn, ev_band, ev_bor, ev_not, ev_neg, ev_ite, ev_blt, ev_blt2, ev_isi, ev_idx, ev_slc, ev_rev, ev_pop, ev_get, ev_get2, ev_index, two, brw, Ex.var?, valOf, Rs.bind, Rs.of, Rs.ou, Ou.nxt, nw, ol, slOf, nxO, rd, frz, Sl.d, putV_none, putV_val, putV_own, putV_map, putV_mapc, putL, asg, asgs, chg, upSl, app1, ext1, isLs, isDc, isLD, recv, later, tru_b, lt_ii, gt_ii, le_ii, ge_ii, eq_ii, ne_ii, at_0, at_1, at_2, at_3, add_ll, add_tt, oIdx, dT, small_lt, fin, finR, outs, callV, callS, nbyEnv, d__law_noted_by, ren]
      | own r ts => cases hl
      | oth ts => cases hl
    | false =>
      rw [hl] at bt
      have q1 : ex1 (cal (all.map De.g) k) (.ite (.cmp .Eq (.var 0) (.tup [])) [.ret (.var 0)] []) (nbyEnv t kvs p none none none) = .nx (nbyEnv t kvs p none none none) := by
        rw [st_ite, bt, ou_ok]
        simp [tru_b, st_nil]
      have hk : oIdx (enc t) (.int (-1)) = some (.tuple (encs (kids t))) := kids_at t (by intro e; rw [e] at hl; cases hl)
      have k4 : (kids t).length ≤ 4 := kids_okN (hok (p, t) (by rw [pre_eq]; exact List.mem_cons_self))
      have it : ev (cal (all.map De.g) k) (.idx (.var 0) (.neg (.cst (.int 1)))) (nbyEnv t kvs p none none none) = .ok (false, .tuple (encs (kids t))) (nbyEnv t kvs p none none none) := by
        simp [st_nil, st_cons, st_set, st_par, st_unp, st_put, st_app, st_ext, st_expr, st_ret, st_ite, st_pass, evL_nil, evL_cons, evs_nil, evs_cons, ev_var, ev_cst, ev_glob, ev_tup, ev_lst, ev_dic, ev_bin, ev_cmp, ev_chn, ev_band, ev_bor, ev_not, ev_neg, ev_ite, ev_blt, ev_blt2, ev_isi, ev_idx, ev_slc, ev_rev, ev_pop, ev_get, ev_get2, ev_index, two, brw, Ex.var?, valOf, Rs.bind, Rs.of, Rs.ou, Ou.nxt, nw, ol, slOf, nxO, rd, frz, Sl.d, putV_none, putV_val, putV_own, putV_map, putV_mapc, putL, asg, asgs, chg, upSl, app1, ext1, isLs, isDc, isLD, recv, later, tru_b, lt_ii, gt_ii, le_ii, ge_ii, eq_ii, ne_ii, at_0, at_1, at_2, at_3, add_ll, add_tt, oIdx, dT, small_lt, fin, finR, outs, callV, callS, nbyEnv, neg1, hk, -oIdx]
      have d1 : 1 ≤ dep t := by
        cases t with
        | leaf => cases hl
        | own r ts => rw [dep]; omega
        | oth ts => rw [dep]; omega
      have cm := comp_g (c := cal (all.map De.g) k) (own := [4, 5]) (tg := .t [.v 4, .v 5]) (sr := .enum) (elt := .call 29 [(.var 5), (.var 1), (.bin .Add (.var 2) (.tup [(.var 4)]))]) (env := nbyEnv t kvs p none none none) (env0 := nbyEnv t kvs p none none none) (W := enumA 0 (kids t)) (en := fun q => .tuple [.int (q.1 : Nat), enc q.2]) (out := fun q => enc (ren f (p ++ [((q.1 : Nat) : Int)]) q.2))
        (by rw [encs_map]; exact walk_enumT enc (kids t)) it rfl rfl (by rw [enumA_len]; omega) fun q hq => by
          have hk2 := enumA_mem hq
          obtain ⟨j, _, hj⟩ := hk2
          have hdk := dep_kid (List.mem_of_getElem? hj)
          have rc := noted_by f kvs (n - 1) q.2 (p ++ [((q.1 : Nat) : Int)]) (by omega) (by simp; omega) (fun m hm => hok m (pre_kid hq m hm)) (fun m hm => hf m (pre_kid hq m hm)) k (by omega)
          refine ⟨nbyEnv t kvs p none (some (.int (q.1 : Nat))) (some (enc q.2)), rfl, rfl, ?_⟩
          have sm : small (p.length + 1) = true := small_lt (by omega)
          have es : evs (cal (all.map De.g) k) [(.var 5), (.var 1), (.bin .Add (.var 2) (.tup [(.var 4)]))] (nbyEnv t kvs p none (some (.int (q.1 : Nat))) (some (enc q.2))) = .ok [enc q.2, pdD kvs, pd (p ++ [((q.1 : Nat) : Int)])] (nbyEnv t kvs p none (some (.int (q.1 : Nat))) (some (enc q.2))) := by
            simp [st_nil, st_cons, st_set, st_par, st_unp, st_put, st_app, st_ext, st_expr, st_ret, st_ite, st_pass, evL_nil, evL_cons, evs_nil, evs_cons, ev_var, ev_cst, ev_glob, ev_tup, ev_lst, ev_dic, ev_bin, ev_cmp, ev_chn, ev_band, ev_bor, ev_not, ev_neg, ev_ite, ev_blt, ev_blt2, ev_isi, ev_idx, ev_slc, ev_rev, ev_pop, ev_get, ev_get2, ev_index, two, brw, Ex.var?, valOf, Rs.bind, Rs.of, Rs.ou, Ou.nxt, nw, ol, slOf, nxO, rd, frz, Sl.d, putV_none, putV_val, putV_own, putV_map, putV_mapc, putL, asg, asgs, chg, upSl, app1, ext1, isLs, isDc, isLD, recv, later, tru_b, lt_ii, gt_ii, le_ii, ge_ii, eq_ii, ne_ii, at_0, at_1, at_2, at_3, add_ll, add_tt, oIdx, dT, small_lt, fin, finR, outs, callV, callS, nbyEnv, pd, sm]
          rw [ev_call (n := 3) rfl es rfl rc]
          rfl
      have q2 : ex1 (cal (all.map De.g) k) (.set 3 (.blt .tuple (.comp [4, 5] (.t [(.v 4), (.v 5)]) .enum [(.idx (.var 0) (.neg (.cst (.int 1))))] (.call 29 [(.var 5), (.var 1), (.bin .Add (.var 2) (.tup [(.var 4)]))])))) (nbyEnv t kvs p none none none) =
          .nx (nbyEnv t kvs p (some (.tuple (encs (rens f p 0 (kids t))))) none none) := by
        rw [st_set, ev_blt, brw]
        simp only [show ∀ a b c d e, (Ex.comp a b c d e).var? = none from fun _ _ _ _ _ => rfl, cm, v_ok, b_ok]
        have : encs (rens f p 0 (kids t)) = (enumA 0 (kids t)).map fun q => enc (ren f (p ++ [((q.1 : Nat) : Int)]) q.2) := by
          rw [encs_map, rens_map, List.map_map]
          rfl
        rw [this]
        simp [st_nil, st_cons, st_set, st_par, st_unp, st_put, st_app, st_ext, st_expr, st_ret, st_ite, st_pass, evL_nil, evL_cons, evs_nil, evs_cons, ev_var, ev_cst, ev_glob, ev_tup, ev_lst, ev_dic, ev_bin, ev_cmp, ev_chn, ev_band, ev_bor, ev_not, ev_neg, ev_ite, ev_blt, ev_blt2, ev_isi, ev_idx, ev_slc, ev_rev, ev_pop, ev_get, ev_get2, ev_index, two, brw, Ex.var?, valOf, Rs.bind, Rs.of, Rs.ou, Ou.nxt, nw, ol, slOf, nxO, rd, frz, Sl.d, putV_none, putV_val, putV_own, putV_map, putV_mapc, putL, asg, asgs, chg, upSl, app1, ext1, isLs, isDc, isLD, recv, later, tru_b, lt_ii, gt_ii, le_ii, ge_ii, eq_ii, ne_ii, at_0, at_1, at_2, at_3, add_ll, add_tt, oIdx, dT, small_lt, fin, finR, outs, callV, callS, nbyEnv, oB]
      have em := e_mark (c := cal (all.map De.g) k) (j := 0) (t := t) (env := nbyEnv t kvs p (some (.tuple (encs (rens f p 0 (kids t))))) none none) (e := .cst (.str "own")) (y := "own") (by simp [rd, nbyEnv, Sl.d]) hl (.inl rfl) va_cst ev_cst
      rw [mark_own hl] at em
      have bm : brw (.cmp .Eq (.idx (.var 0) (.cst (.int 0))) (.cst (.str "own"))) (ev (cal (all.map De.g) k) (.cmp .Eq (.idx (.var 0) (.cst (.int 0))) (.cst (.str "own")))) (nbyEnv t kvs p (some (.tuple (encs (rens f p 0 (kids t))))) none none) = .ok (.bool (isOwn t)) (nbyEnv t kvs p (some (.tuple (encs (rens f p 0 (kids t))))) none none) := by
        rw [brw, va_cmp]
        dsimp only
        rw [em]
        rfl
      show fin d__law_noted_by.g (exs (cal (all.map De.g) k) b__law_noted_by (nbyEnv t kvs p none none none)) = _
      rw [b__law_noted_by, st_cons, q1, nxt_nx, st_cons, q2, nxt_nx, st_cons, st_ret, ev_ite, bm, b_ok]
      cases t with
      | leaf => cases hl
      | own r ts =>
        have ix : oIdx (pdD kvs) (pd p) = some (.int (f p)) := by
          rw [idx_p, hf (p, .own r ts) (by rw [pre_eq]; exact List.mem_cons_self) rfl]
          rfl
        simp only [isOwn, tru_b]
        simp [st_nil, st_cons, st_set, st_par, st_unp, st_put, st_app, st_ext, st_expr, st_ret, st_ite, st_pass, evL_nil, evL_cons, evs_nil, evs_cons, ev_var, ev_cst, ev_glob, ev_tup, ev_lst, ev_dic, ev_bin, ev_cmp, ev_chn, ev_band, ev_bor, ev_not, ev_neg, ev_ite, ev_blt, ev_blt2, ev_isi, ev_idx, ev_slc, ev_rev, ev_pop, ev_get, ev_get2, ev_index, two, brw, Ex.var?, valOf, Rs.bind, Rs.of, Rs.ou, Ou.nxt, nw, ol, slOf, nxO, rd, frz, Sl.d, putV_none, putV_val, putV_own, putV_map, putV_mapc, putL, asg, asgs, chg, upSl, app1, ext1, isLs, isDc, isLD, recv, later, tru_b, lt_ii, gt_ii, le_ii, ge_ii, eq_ii, ne_ii, at_0, at_1, at_2, at_3, add_ll, add_tt, oIdx, dT, small_lt, fin, finR, outs, callV, callS, nbyEnv, ix, d__law_noted_by, ren, enc, kids, -oIdx]
      | oth ts =>
        simp only [isOwn, tru_b]
        simp [st_nil, st_cons, st_set, st_par, st_unp, st_put, st_app, st_ext, st_expr, st_ret, st_ite, st_pass, evL_nil, evL_cons, evs_nil, evs_cons, ev_var, ev_cst, ev_glob, ev_tup, ev_lst, ev_dic, ev_bin, ev_cmp, ev_chn, ev_band, ev_bor, ev_not, ev_neg, ev_ite, ev_blt, ev_blt2, ev_isi, ev_idx, ev_slc, ev_rev, ev_pop, ev_get, ev_get2, ev_index, two, brw, Ex.var?, valOf, Rs.bind, Rs.of, Rs.ou, Ou.nxt, nw, ol, slOf, nxO, rd, frz, Sl.d, putV_none, putV_val, putV_own, putV_map, putV_mapc, putL, asg, asgs, chg, upSl, app1, ext1, isLs, isDc, isLD, recv, later, tru_b, lt_ii, gt_ii, le_ii, ge_ii, eq_ii, ne_ii, at_0, at_1, at_2, at_3, add_ll, add_tt, oIdx, dT, small_lt, fin, finR, outs, callV, callS, nbyEnv, d__law_noted_by, ren, enc, kids, -oIdx]
  termination_by n => n
  decreasing_by omega
/-! ### what renaming changes -/
mutual
theorem ren_dep (f : List Int → Int) : ∀ (p : List Int) (t : Tr), dep (ren f p t) = dep t
  | p, .leaf => by rw [ren]
  | p, .own r ts => by rw [ren, dep, dep, rens_dep f p 0 ts]
  | p, .oth ts => by rw [ren, dep, dep, rens_dep f p 0 ts]
theorem rens_dep (f : List Int → Int) : ∀ (p : List Int) (i : Nat) (ts : List Tr), deps (rens f p i ts) = deps ts
  | p, i, [] => by rw [rens]
  | p, i, t :: ts => by rw [rens, deps, deps, ren_dep f _ t, rens_dep f p (i + 1) ts]
end
theorem rens_len (f : List Int → Int) (p : List Int) (ts : List Tr) (i : Nat) : (rens f p i ts).length = ts.length := by rw [rens_map, List.length_map, enumA_len]
mutual
theorem ren_lv (f : List Int → Int) : ∀ (p : List Int) (t : Tr), lv (ren f p t) = lv t
  | p, .leaf => by rw [ren]
  | p, .own r ts => by rw [ren, lv_own, lv_own, rens_lv f p 0 ts]
  | p, .oth ts => by rw [ren, lv_oth, lv_oth, rens_lv f p 0 ts]
theorem rens_lv (f : List Int → Int) : ∀ (p : List Int) (i : Nat) (ts : List Tr), lvs (rens f p i ts) = lvs ts
  | p, i, [] => by rw [rens]
  | p, i, t :: ts => by rw [rens, lvs_cons, lvs_cons, ren_lv f _ t, rens_lv f p (i + 1) ts]
end
/-- the nodes of the renamed tree -/
def ren1 (f : List Int → Int) (q : Nd) : Nd := (q.1, ren f q.1 q.2)
mutual
theorem ren_pre (f : List Int → Int) : ∀ (p : List Int) (t : Tr), pre p (ren f p t) = (pre p t).map (ren1 f)
  | p, .leaf => by rw [ren, pre]; simp [ren1, ren]
  | p, .own r ts => by rw [ren, pre, pre, List.map_cons, rens_pre f p 0 ts, ren1, ren]
  | p, .oth ts => by rw [ren, pre, pre, List.map_cons, rens_pre f p 0 ts, ren1, ren]
theorem rens_pre (f : List Int → Int) : ∀ (p : List Int) (i : Nat) (ts : List Tr), pres p i (rens f p i ts) = (pres p i ts).map (ren1 f)
  | p, i, [] => by rw [rens, pres]; rfl
  | p, i, t :: ts => by rw [rens, pres, pres, List.map_append, ren_pre f _ t, rens_pre f p (i + 1) ts]
end
end Rv.k08
end
section
/-! k08, mathematics 23: _law_noted, _law_tree, _law_places. -/
namespace Rv.k08
open PySem Rv
def notesOf (t : Tr) : PD := (owns t).map fun q => (q.1, note t q)
def noteAt (t : Tr) (p : List Int) : Int := (pget (notesOf t) p).getD 0
theorem notes_nodup (t : Tr) : ((notesOf t).map (·.1)).Nodup := by
  unfold notesOf
  rw [List.map_map]
  exact ord_nodup (owns_ord t)
theorem notes_get {t : Tr} {q : Nd} (h : q ∈ owns t) : pget (notesOf t) q.1 = some (note t q) :=
  pget_mem (q := (q.1, note t q)) (notes_nodup t) (List.mem_map.mpr ⟨q, h, rfl⟩)
theorem noteAt_eq {t : Tr} {q : Nd} (h : q ∈ owns t) : noteAt t q.1 = note t q := by
  unfold noteAt
  rw [notes_get h]
  rfl
theorem owns_of {t : Tr} {q : Nd} (h : q ∈ pre [] t) (ho : isOwn q.2 = true) : q ∈ owns t := List.mem_filter.mpr ⟨h, ho⟩
/-- the tree with the notes of the least splitting in the place of the rooms, where these are at most 9 -/
def fewNotes (t : Tr) : Prop := ∀ q ∈ owns t, note t q ≤ 9
def renT (t : Tr) : Tr := ren (noteAt t) [] t
theorem renT_lt {t : Tr} (h : LT t) (hf : fewNotes t) : LT (renT t) := by
  have nd : ∀ u ∈ nds (renT t), ∃ q ∈ pre [] t, u = ren (noteAt t) q.1 q.2 := fun u hu => by
    rw [← pre_snd [] (renT t)] at hu
    unfold renT at hu
    rw [ren_pre, List.map_map] at hu
    obtain ⟨q, hq, rfl⟩ := List.mem_map.mp hu
    exact ⟨q, hq, rfl⟩
  have oa := h.okA
  refine ⟨fun u hu => ?_, ?_, ?_, ?_⟩
  · obtain ⟨q, hq, rfl⟩ := nd u hu
    have o := oa q hq
    obtain ⟨p, u⟩ := q
    cases u with
    | leaf => rw [ren]; trivial
    | own r ts =>
      have hm := owns_of hq rfl
      have e := noteAt_eq hm
      have h9 := hf _ hm
      have h0 : 0 ≤ note t (p, .own r ts) := by unfold note; omega
      rw [ren]
      refine ⟨?_, ?_, ?_, ?_⟩
      · rw [show noteAt t p = note t (p, .own r ts) from e]; exact h0
      · rw [show noteAt t p = note t (p, .own r ts) from e]; exact h9
      · rw [rens_len]; exact o.2.2.1
      · rw [rens_len]; exact o.2.2.2
    | oth ts =>
      rw [ren]
      refine ⟨?_, ?_⟩
      · rw [rens_len]; exact o.1
      · rw [rens_len]; exact o.2
  · obtain ⟨w, hw⟩ := h.wid
    classical
    refine ⟨fun x => if c : ∃ q ∈ owns t, note t q = x then (kids (Classical.choose c).2).length else 0, fun r ts hm => ?_⟩
    obtain ⟨q, hq, e⟩ := nd _ hm
    obtain ⟨p, u⟩ := q
    cases u with
    | leaf => rw [ren] at e; cases e
    | oth ts' => rw [ren] at e; cases e
    | own r' ts' =>
      rw [ren] at e
      obtain ⟨e1, e2⟩ := Tr.own.inj e
      have hm := owns_of hq rfl
      have e3 : noteAt t p = note t (p, .own r' ts') := noteAt_eq hm
      rw [e3] at e1
      have c : ∃ q ∈ owns t, note t q = r := ⟨_, hm, e1.symm⟩
      show ts.length = dite _ _ _
      rw [dif_pos c, e2, rens_len]
      obtain ⟨h1, h2⟩ := Classical.choose_spec c
      have hk := note_inj h1 hm (h2.trans e1)
      obtain ⟨g1, _, g3⟩ := owns_mem h1
      generalize Classical.choose c = z at *
      obtain ⟨zp, zu⟩ := z
      cases zu with
      | leaf => cases g3
      | oth _ => cases g3
      | own zr zts =>
        have : zr = r' := congrArg Prod.fst hk
        subst this
        have a1 := hw _ _ (by rw [← pre_snd [] t]; exact List.mem_map.mpr ⟨_, g1, rfl⟩ : Tr.own zr zts ∈ nds t)
        have a2 := hw _ _ (by rw [← pre_snd [] t]; exact List.mem_map.mpr ⟨_, hq, rfl⟩ : Tr.own zr ts' ∈ nds t)
        show ts'.length = zts.length
        omega
  · unfold renT
    rw [ren_dep]
    exact h.dep
  · unfold renT
    rw [ren_lv]
    exact h.lvn
/-- a list comprehension over what is known, with a test -/
theorem comp_gi {α : Type} {c : Cal} {own : List Nat} {tg : Tg} {sr : Src} {it elt cond : Ex} {env env0 : Env} {W : List α} {P : α → Bool} {en : α → D} {out : α → D} {b : Bool} {xs : D} (hx : walk sr [xs] = some (W.map en)) (hit : ev c it env = .ok (b, xs) env) (hh : hide own env = some env0) (hu : unhide own env env0 = env) (hw : W.length < 1000000)
    (hturn : ∀ q ∈ W, ∃ e2, asg tg (en q) env0 = some e2 ∧ hide own e2 = some env0 ∧ brw cond (ev c cond) e2 = .ok (.bool (P q)) e2 ∧ (P q = true → valOf (ev c elt e2) = .ok (out q) e2)) :
    ev c (.compIf own tg sr [it] cond elt) env = .ok (true, .list ((W.filter P).map out)) env := by
  have tn : ∀ q ∈ W, cTurn own tg (bodyIf (brw cond (ev c cond)) (ev c elt)) (en q) env0 = .ok (if P q = true then some (out q) else none) env0 := fun q hq => by
    obtain ⟨e2, h1, h2, h3, h4⟩ := hturn q hq
    cases hp : P q with
    | true => simp [cTurn, h1, bodyIf, h3, hp, tru, Rs.bind, h4 hp, turnEnd, h2]
    | false => simp [cTurn, h1, bodyIf, h3, hp, tru, Rs.bind, turnEnd, h2]
  have ts := turns_map en (fun q => if P q = true then some (out q) else none) env0 W tn
  have e1 : W.filterMap (fun q => if P q = true then some (out q) else none) = (W.filter P).map out := by
    clear tn ts hit hturn hw hx
    induction W with
    | nil => rfl
    | cons q W ih =>
      rw [List.filterMap_cons, List.filter_cons]
      cases P q <;> simp [ih]
  rw [e1] at ts
  have sm : small ((W.filter P).map out).length = true := small_lt (by
    rw [List.length_map]
    have := List.length_filter_le P W
    omega)
  rw [ev]
  have hs : evs c [it] env = .ok [xs] env := by simp [evs, hit, valOf, Rs.bind]
  rw [hs]
  simp only [Rs.bind, hx, runComp, hh, ts, sm, hu, if_true]
theorem noted_tree (t : Tr) (h : LT t) : ∃ t', LT t' ∧ ((fewNotes t ∧ t' = renT t) ∨ (¬ fewNotes t ∧ t' = t)) ∧ ∀ K, 12 ≤ K → run (all.map De.g) K 28 [enc t, .tuple ((owns t).map fun q => .int (note t q))] = .ret (enc t') [] := by
  have g := h.good
  have o := h.okA
  have lo : (owns t).length < 1000 := Nat.lt_of_le_of_lt (List.length_filter_le _ _) g.few
  have sh : ∀ l : List Int, shp2 (.list (l.map PyData.int)) (.list []) = true := shp_gs
  have tst : ∀ c : Cal, brw (.cmp .NotEq (.compIf [3] (.v 3) .it [(.var 1)] (.cmp .Gt (.var 3) (.cst (.int 9))) (.var 3)) (.lst [])) (ev c (.cmp .NotEq (.compIf [3] (.v 3) .it [(.var 1)] (.cmp .Gt (.var 3) (.cst (.int 9))) (.var 3)) (.lst []))) [some (.val (enc t)), some (.val (.tuple ((owns t).map fun q => .int (note t q)))), none, none, none, none, none] =
      .ok (.bool (!((owns t).filter fun q => decide (9 < note t q)).isEmpty)) [some (.val (enc t)), some (.val (.tuple ((owns t).map fun q => .int (note t q)))), none, none, none, none, none] := fun c => by
    have hit : ev c (.var 1) [some (.val (enc t)), some (.val (.tuple ((owns t).map fun q => .int (note t q)))), none, none, none, none, none] = .ok (false, .tuple ((owns t).map fun q => .int (note t q))) [some (.val (enc t)), some (.val (.tuple ((owns t).map fun q => .int (note t q)))), none, none, none, none, none] := by
      simp [st_nil, st_cons, st_set, st_par, st_unp, st_put, st_app, st_ext, st_expr, st_ret, st_ite, st_pass, evL_nil, evL_cons, evs_nil, evs_cons, ev_var, ev_cst, ev_glob, ev_tup, ev_lst, ev_dic, ev_bin, ev_cmp, ev_chn, ev_band, ev_bor, ev_not, ev_neg, ev_ite, ev_blt, ev_blt2, ev_isi, ev_idx, ev_slc, ev_rev, ev_pop, ev_get, ev_get2, ev_index, two, brw, Ex.var?, valOf, Rs.bind, Rs.of, Rs.ou, Ou.nxt, nw, ol, slOf, nxO, rd, frz, Sl.d, putV_none, putV_val, putV_own, putV_map, putV_mapc, putL, asg, asgs, chg, upSl, app1, ext1, isLs, isDc, isLD, recv, later, tru_b, lt_ii, gt_ii, le_ii, ge_ii, eq_ii, ne_ii, at_0, at_1, at_2, at_3, add_ll, add_tt, oIdx, dT, small_lt, fin, finR, outs, callV, callS]
    have cm := comp_gi (c := c) (own := [3]) (tg := .v 3) (sr := .it) (elt := .var 3) (cond := .cmp .Gt (.var 3) (.cst (.int 9))) (env0 := [some (.val (enc t)), some (.val (.tuple ((owns t).map fun q => .int (note t q)))), none, none, none, none, none]) (W := owns t) (P := fun q => decide (9 < note t q)) (en := fun q => .int (note t q)) (out := fun q => .int (note t q)) rfl hit rfl rfl (by omega) fun q _ => by
      refine ⟨[some (.val (enc t)), some (.val (.tuple ((owns t).map fun q => .int (note t q)))), none, some (.val (.int (note t q))), none, none, none], rfl, rfl, ?_, fun _ => ?_⟩
      · simp [st_nil, st_cons, st_set, st_par, st_unp, st_put, st_app, st_ext, st_expr, st_ret, st_ite, st_pass, evL_nil, evL_cons, evs_nil, evs_cons, ev_var, ev_cst, ev_glob, ev_tup, ev_lst, ev_dic, ev_bin, ev_cmp, ev_chn, ev_band, ev_bor, ev_not, ev_neg, ev_ite, ev_blt, ev_blt2, ev_isi, ev_idx, ev_slc, ev_rev, ev_pop, ev_get, ev_get2, ev_index, two, brw, Ex.var?, valOf, Rs.bind, Rs.of, Rs.ou, Ou.nxt, nw, ol, slOf, nxO, rd, frz, Sl.d, putV_none, putV_val, putV_own, putV_map, putV_mapc, putL, asg, asgs, chg, upSl, app1, ext1, isLs, isDc, isLD, recv, later, tru_b, lt_ii, gt_ii, le_ii, ge_ii, eq_ii, ne_ii, at_0, at_1, at_2, at_3, add_ll, add_tt, oIdx, dT, small_lt, fin, finR, outs, callV, callS]
      · simp [st_nil, st_cons, st_set, st_par, st_unp, st_put, st_app, st_ext, st_expr, st_ret, st_ite, st_pass, evL_nil, evL_cons, evs_nil, evs_cons, ev_var, ev_cst, ev_glob, ev_tup, ev_lst, ev_dic, ev_bin, ev_cmp, ev_chn, ev_band, ev_bor, ev_not, ev_neg, ev_ite, ev_blt, ev_blt2, ev_isi, ev_idx, ev_slc, ev_rev, ev_pop, ev_get, ev_get2, ev_index, two, brw, Ex.var?, valOf, Rs.bind, Rs.of, Rs.ou, Ou.nxt, nw, ol, slOf, nxO, rd, frz, Sl.d, putV_none, putV_val, putV_own, putV_map, putV_mapc, putL, asg, asgs, chg, upSl, app1, ext1, isLs, isDc, isLD, recv, later, tru_b, lt_ii, gt_ii, le_ii, ge_ii, eq_ii, ne_ii, at_0, at_1, at_2, at_3, add_ll, add_tt, oIdx, dT, small_lt, fin, finR, outs, callV, callS]
    have hs := sh (((owns t).filter fun q => decide (9 < note t q)).map fun q => note t q)
    rw [List.map_map] at hs
    have hs : shp2 (.list (((owns t).filter fun q => decide (9 < note t q)).map fun q => PyData.int (note t q))) (.list []) = true := hs
    have ne := cmp_ne hs
    rw [ne_nil] at ne
    rw [brw, va_cmp]
    dsimp only
    rw [ev_cmp, two]
    simp only [show ∀ a b c d e f, (Ex.compIf a b c d e f).var? = none from fun _ _ _ _ _ _ => rfl, cm, v_ok, b_ok]
    rw [brw, va_lst]
    dsimp only
    have s0 : small 0 = true := by decide
    rw [ev_lst, evs_nil, b_ok]
    simp only [List.length_nil, s0, if_true, v_ok, b_ok, ne, ol, Option.map_some, of_some]
    simp
  by_cases hf : fewNotes t
  · refine ⟨renT t, renT_lt h hf, .inl ⟨hf, rfl⟩, fun K hK => ?_⟩
    obtain ⟨k, rfl⟩ : ∃ k, K = k + 4 + 1 := ⟨K - 5, by omega⟩
    have e0 : ((owns t).filter fun q => decide (9 < note t q)) = [] := by
      rw [List.filter_eq_nil_iff]
      intro q hq
      have := hf q hq
      simp
      omega
    have tst := tst (cal (all.map De.g) (k + 4))
    rw [e0] at tst
    rw [run_def (g := d__law_noted.g) rfl rfl]
    show fin d__law_noted.g (exs (cal (all.map De.g) (k + 4)) b__law_noted [some (.val (enc t)), some (.val (.tuple ((owns t).map fun q => .int (note t q)))), none, none, none, none, none]) = _
    have cl : ev (cal (all.map De.g) (k + 4)) (.call 21 [(.var 0)]) [some (.val (enc t)), some (.val (.tuple ((owns t).map fun q => .int (note t q)))), none, none, none, none, none] = .ok (false, .list ((owns t).map fun q => .tuple [pd q.1, .int (roomI q.2)])) [some (.val (enc t)), some (.val (.tuple ((owns t).map fun q => .int (note t q)))), none, none, none, none, none] :=
      ev_call (n := 1) (ds := [enc t]) rfl (by simp [st_nil, st_cons, st_set, st_par, st_unp, st_put, st_app, st_ext, st_expr, st_ret, st_ite, st_pass, evL_nil, evL_cons, evs_nil, evs_cons, ev_var, ev_cst, ev_glob, ev_tup, ev_lst, ev_dic, ev_bin, ev_cmp, ev_chn, ev_band, ev_bor, ev_not, ev_neg, ev_ite, ev_blt, ev_blt2, ev_isi, ev_idx, ev_slc, ev_rev, ev_pop, ev_get, ev_get2, ev_index, two, brw, Ex.var?, valOf, Rs.bind, Rs.of, Rs.ou, Ou.nxt, nw, ol, slOf, nxO, rd, frz, Sl.d, putV_none, putV_val, putV_own, putV_map, putV_mapc, putL, asg, asgs, chg, upSl, app1, ext1, isLs, isDc, isLD, recv, later, tru_b, lt_ii, gt_ii, le_ii, ge_ii, eq_ii, ne_ii, at_0, at_1, at_2, at_3, add_ll, add_tt, oIdx, dT, small_lt, fin, finR, outs, callV, callS]) rfl (law_owns k t g o)
    have cm := comp_g (c := cal (all.map De.g) (k + 4)) (own := [4, 5, 6]) (tg := .t [.v 4, .t [.v 5, .v 6]]) (sr := .enum) (elt := .tup [(.var 5), (.idx (.var 1) (.var 4))]) (env0 := [some (.val (enc t)), some (.val (.tuple ((owns t).map fun q => .int (note t q)))), none, none, none, none, none]) (W := enumA 0 (owns t)) (en := fun q => .tuple [.int (q.1 : Nat), .tuple [pd q.2.1, .int (roomI q.2.2)]]) (out := fun q => .tuple [pd q.2.1, .int (note t q.2)])
      (walk_enum (fun q : Nd => .tuple [pd q.1, .int (roomI q.2)]) (owns t)) cl rfl rfl (by rw [enumA_len]; omega) fun q hq => by
        obtain ⟨j, hj, hq2⟩ := enumA_mem hq
        have hj : q.1 = j := by omega
        refine ⟨[some (.val (enc t)), some (.val (.tuple ((owns t).map fun q => .int (note t q)))), none, none, some (.val (.int (q.1 : Nat))), some (.val (pd q.2.1)), some (.val (.int (roomI q.2.2)))], rfl, rfl, ?_⟩
        have ix : oIdx (.tuple ((owns t).map fun q => .int (note t q))) (.int (q.1 : Nat)) = some (.int (note t q.2)) := by
          refine L2.atI_nat ?_
          rw [List.getElem?_map, hj, hq2]
          rfl
        simp [st_nil, st_cons, st_set, st_par, st_unp, st_put, st_app, st_ext, st_expr, st_ret, st_ite, st_pass, evL_nil, evL_cons, evs_nil, evs_cons, ev_var, ev_cst, ev_glob, ev_tup, ev_lst, ev_dic, ev_bin, ev_cmp, ev_chn, ev_band, ev_bor, ev_not, ev_neg, ev_ite, ev_blt, ev_blt2, ev_isi, ev_idx, ev_slc, ev_rev, ev_pop, ev_get, ev_get2, ev_index, two, brw, Ex.var?, valOf, Rs.bind, Rs.of, Rs.ou, Ou.nxt, nw, ol, slOf, nxO, rd, frz, Sl.d, putV_none, putV_val, putV_own, putV_map, putV_mapc, putL, asg, asgs, chg, upSl, app1, ext1, isLs, isDc, isLD, recv, later, tru_b, lt_ii, gt_ii, le_ii, ge_ii, eq_ii, ne_ii, at_0, at_1, at_2, at_3, add_ll, add_tt, oIdx, dT, small_lt, fin, finR, outs, callV, callS, ix, -oIdx]
    have e1 : (enumA 0 (owns t)).map (fun q => PyData.tuple [pd q.2.1, .int (note t q.2)]) = (notesOf t).map fun q => .tuple [pd q.1, .int q.2] := by
      unfold notesOf
      rw [List.map_map]
      conv => rhs; rw [← enumA_snd (owns t) 0]
      rw [List.map_map]
      rfl
    rw [e1] at cm
    have dp := dict_p (notesOf t) (notes_nodup t)
    have q2 : ex1 (cal (all.map De.g) (k + 4)) (.set 2 (.blt .dict (.comp [4, 5, 6] (.t [(.v 4), (.t [(.v 5), (.v 6)])]) .enum [(.call 21 [(.var 0)])] (.tup [(.var 5), (.idx (.var 1) (.var 4))])))) [some (.val (enc t)), some (.val (.tuple ((owns t).map fun q => .int (note t q)))), none, none, none, none, none] =
        .nx [some (.val (enc t)), some (.val (.tuple ((owns t).map fun q => .int (note t q)))), some (.own (pdD (notesOf t))), none, none, none, none] := by
      rw [st_set, ev_blt, brw]
      simp only [show ∀ a b c d e, (Ex.comp a b c d e).var? = none from fun _ _ _ _ _ => rfl, cm, v_ok, b_ok, dp, nw, Option.map_some, of_some, ou_ok]
      rfl
    have nb := noted_by (noteAt t) (notesOf t) 8 t [] h.dep (by simp) o (fun q hq ho => by rw [notes_get (owns_of hq ho), noteAt_eq (owns_of hq ho)]) (k + 4) (by omega)
    have es : evs (cal (all.map De.g) (k + 4)) [(.var 0), (.var 2), (.tup [])] [some (.val (enc t)), some (.val (.tuple ((owns t).map fun q => .int (note t q)))), some (.own (pdD (notesOf t))), none, none, none, none] = .ok [enc t, pdD (notesOf t), pd []] [some (.val (enc t)), some (.val (.tuple ((owns t).map fun q => .int (note t q)))), some (.val (pdD (notesOf t))), none, none, none, none] := by
      simp [st_nil, st_cons, st_set, st_par, st_unp, st_put, st_app, st_ext, st_expr, st_ret, st_ite, st_pass, evL_nil, evL_cons, evs_nil, evs_cons, ev_var, ev_cst, ev_glob, ev_tup, ev_lst, ev_dic, ev_bin, ev_cmp, ev_chn, ev_band, ev_bor, ev_not, ev_neg, ev_ite, ev_blt, ev_blt2, ev_isi, ev_idx, ev_slc, ev_rev, ev_pop, ev_get, ev_get2, ev_index, two, brw, Ex.var?, valOf, Rs.bind, Rs.of, Rs.ou, Ou.nxt, nw, ol, slOf, nxO, rd, frz, Sl.d, putV_none, putV_val, putV_own, putV_map, putV_mapc, putL, asg, asgs, chg, upSl, app1, ext1, isLs, isDc, isLD, recv, later, tru_b, lt_ii, gt_ii, le_ii, ge_ii, eq_ii, ne_ii, at_0, at_1, at_2, at_3, add_ll, add_tt, oIdx, dT, small_lt, fin, finR, outs, callV, callS, pd]
    have c2 := ev_call (c := cal (all.map De.g) (k + 4)) (f := 29) (n := 3) rfl es rfl nb
    rw [b__law_noted, st_cons, st_ite, tst, ou_ok]
    simp only [List.isEmpty_nil, Bool.not_true, tru_b, st_nil, nxt_nx]
    rw [st_cons, q2, nxt_nx, st_cons, st_ret, c2, v_ok, ou_ok, rt_nxt]
    rfl
  · refine ⟨t, h, .inr ⟨hf, rfl⟩, fun K hK => ?_⟩
    obtain ⟨k, rfl⟩ : ∃ k, K = k + 1 := ⟨K - 1, by omega⟩
    have e0 : ((owns t).filter fun q => decide (9 < note t q)).isEmpty = false := by
      cases e : (owns t).filter fun q => decide (9 < note t q) with
      | cons a l => rfl
      | nil =>
        rw [List.filter_eq_nil_iff] at e
        refine absurd (fun q hq => ?_) hf
        have := e q hq
        simp at this
        exact this
    have tst := tst (cal (all.map De.g) k)
    rw [e0] at tst
    rw [run_def (g := d__law_noted.g) rfl rfl]
    show fin d__law_noted.g (exs (cal (all.map De.g) k) b__law_noted [some (.val (enc t)), some (.val (.tuple ((owns t).map fun q => .int (note t q)))), none, none, none, none, none]) = _
    rw [b__law_noted, st_cons, st_ite, tst, ou_ok]
    simp [st_nil, st_cons, st_set, st_par, st_unp, st_put, st_app, st_ext, st_expr, st_ret, st_ite, st_pass, evL_nil, evL_cons, evs_nil, evs_cons, ev_var, ev_cst, ev_glob, ev_tup, ev_lst, ev_dic, ev_bin, ev_cmp, ev_chn, ev_band, ev_bor, ev_not, ev_neg, ev_ite, ev_blt, ev_blt2, ev_isi, ev_idx, ev_slc, ev_rev, ev_pop, ev_get, ev_get2, ev_index, two, brw, Ex.var?, valOf, Rs.bind, Rs.of, Rs.ou, Ou.nxt, nw, ol, slOf, nxO, rd, frz, Sl.d, putV_none, putV_val, putV_own, putV_map, putV_mapc, putL, asg, asgs, chg, upSl, app1, ext1, isLs, isDc, isLD, recv, later, tru_b, lt_ii, gt_ii, le_ii, ge_ii, eq_ii, ne_ii, at_0, at_1, at_2, at_3, add_ll, add_tt, oIdx, dT, small_lt, fin, finR, outs, callV, callS, d__law_noted]
end Rv.k08
end
section
/-! k08, mathematics 24: _law_tree, _law_places. -/
namespace Rv.k08
open PySem Rv
theorem ev_callN {c : Cal} {f i : Nat} {a b : Ex} {env e1 e2 : Env} {ba bb : Bool} {x y d P Q z : D} {s s' : Sl} (sg : c.sig f = some ⟨4, [true, false, true]⟩) (h0 : rd i env = some z) (hs : e2[i]? = some (some s)) (ms : s.mine = true)
    (ha : ev c a env = .ok (ba, x) e1) (hb : ev c b e1 = .ok (bb, y) e2) (hr : c.run f [s.d, x, .dict [], y] = .ret d [P, Q]) (us : upSl P s = some s') (nf : c.nw f = false := by rfl) :
    ev c (.call f [.var i, a, .dic, b]) env = .ok (false, d) (e2.set i (some s')) := by
  rw [ev, sg, nf]
  dsimp only
  have a1 : evArs c [true, false, true] [.var i, a, .dic, b] env = .ok [.s i, .v x, .t (.dict []), .v y] e2 := by
    simp [evArs, Ex.var?, h0, ha, hb, Rs.of, Rs.bind, valOf, ev_dic]
  rw [a1]
  have g1 : argD e2 (.s i) = some s.d := by
    unfold argD
    dsimp only
    rw [hs]
    cases s with
    | val d => cases ms
    | own d => rfl
    | io d => rfl
  have ad : argDs e2 [.s i, .v x, .t (.dict []), .v y] = some [s.d, x, .dict [], y] := by
    have g3 : ∀ z, argD e2 (.v z) = some z := fun _ => rfl
    have g4 : ∀ z, argD e2 (.t z) = some z := fun _ => rfl
    simp only [argDs, g1, g3, g4, Option.bind, Option.map]
  have nd : (slotsOf [.s i, .v x, .t (.dict []), .v y]).Nodup := by
    show [i].Nodup
    simp
  have ly : lay [.s i, .v x, .t (.dict []), .v y] [P, Q] e2 = some (e2.set i (some s')) := by
    simp only [lay, hs, us, Option.bind]
  rw [b_ok, if_pos (show [Ar.s i, .v x, .t (.dict []), .v y].length = 4 from rfl)]
  unfold runC
  rw [if_pos nd, ad]
  dsimp only
  rw [hr]
  unfold outOf
  dsimp only
  rw [ly]
  rfl
theorem wok_nil : WOk [] := ⟨by simp, fun p hp => nomatch hp⟩
/-- _law_tree -/
theorem law_tree (k : Nat) (g : List Int) (s e : Int) (h : 0 ≤ s) : ∃ t s' e', LT t ∧ 0 ≤ s' ∧ run (all.map De.g) (k + 20) 27 [penD g s e] = .ret (enc t) [penD g s' e'] := by
  rw [run_def (k := k + 19) (g := d__law_tree.g) rfl rfl]
  show ∃ t s' e', _ ∧ _ ∧ fin d__law_tree.g (exs (cal (all.map De.g) (k + 19)) b__law_tree [some (.io (penD g s e)), none]) = _
  obtain ⟨x, s1, e1, x0, x1, hs1, dr⟩ := draw (k + 17) g s e 3 h (by omega) (by omega)
  by_cases hx : x = 0
  · subst hx
    obtain ⟨t, s2, e2, lt, hs2, kr⟩ := known_tree (k + 15) g s1 e1 hs1
    refine ⟨t, s2, e2, lt, hs2, ?_⟩
    have c27 : ∀ env : Env, ev (cal (all.map De.g) (k + 19)) (.call 26 [.var 0]) env = (Rs.of (rd 0 env) env).bind fun _ e0 => (evs (cal (all.map De.g) (k + 19)) [] e0).bind fun ds e1 => callS (fun d => run (all.map De.g) (k + 19) 26 (d :: ds)) 0 e1 := fun env => ev_call1 (n := 1) rfl rfl
    rw [b__law_tree, st_cons]
    simp [st_nil, st_cons, st_set, st_par, st_unp, st_put, st_app, st_ext, st_expr, st_ret, st_ite, st_pass, evL_nil, evL_cons, evs_nil, evs_cons, ev_var, ev_cst, ev_glob, ev_tup, ev_lst, ev_dic, ev_bin, ev_cmp, ev_chn, ev_band, ev_bor, ev_not, ev_neg, ev_ite, ev_blt, ev_blt2, ev_isi, ev_idx, ev_slc, ev_rev, ev_pop, ev_get, ev_get2, ev_index, two, brw, Ex.var?, valOf, Rs.bind, Rs.of, Rs.ou, Ou.nxt, nw, ol, slOf, nxO, rd, frz, Sl.d, putV_none, putV_val, putV_own, putV_map, putV_mapc, putL, asg, asgs, chg, upSl, app1, ext1, isLs, isDc, isLD, recv, later, tru_b, lt_ii, gt_ii, le_ii, ge_ii, eq_ii, ne_ii, at_0, at_1, at_2, at_3, add_ll, add_tt, oIdx, dT, small_lt, fin, finR, outs, callV, callS, c13, dr, c27, kr, d__law_tree]
  have q1 : ex1 (cal (all.map De.g) (k + 19)) (.ite (.cmp .Eq (.call 13 [(.var 0), (.cst (.int 3))]) (.cst (.int 0))) [.ret (.call 26 [(.var 0)])] []) [some (.io (penD g s e)), none] = .nx [some (.io (penD g s1 e1)), none] := by
    simp [st_nil, st_cons, st_set, st_par, st_unp, st_put, st_app, st_ext, st_expr, st_ret, st_ite, st_pass, evL_nil, evL_cons, evs_nil, evs_cons, ev_var, ev_cst, ev_glob, ev_tup, ev_lst, ev_dic, ev_bin, ev_cmp, ev_chn, ev_band, ev_bor, ev_not, ev_neg, ev_ite, ev_blt, ev_blt2, ev_isi, ev_idx, ev_slc, ev_rev, ev_pop, ev_get, ev_get2, ev_index, two, brw, Ex.var?, valOf, Rs.bind, Rs.of, Rs.ou, Ou.nxt, nw, ol, slOf, nxO, rd, frz, Sl.d, putV_none, putV_val, putV_own, putV_map, putV_mapc, putL, asg, asgs, chg, upSl, app1, ext1, isLs, isDc, isLD, recv, later, tru_b, lt_ii, gt_ii, le_ii, ge_ii, eq_ii, ne_ii, at_0, at_1, at_2, at_3, add_ll, add_tt, oIdx, dT, small_lt, fin, finR, outs, callV, callS, c13, dr, hx]
  obtain ⟨dp, s2, e2, hdp, hs2, dr2⟩ := one_of_int (k + 16) g s1 e1 [2, 3, 4, 8] hs1 (by simp) (by simp)
  obtain ⟨n, s3, e3, hn, hs3, dr3⟩ := one_of_int (k + 16) g s2 e2 [4, 6, 8, 12] hs2 (by simp) (by simp)
  have hdp : 0 ≤ dp ∧ dp ≤ 8 := by simp at hdp; omega
  have hn : 1 ≤ n ∧ n ≤ 28 := by simp at hn; omega
  obtain ⟨d, rfl⟩ := Int.eq_ofNat_of_zero_le hdp.1
  obtain ⟨t, s4, e4, W, hs4, nt, rn⟩ := new_tree d (by omega) (k + 19) (by omega) g s3 e3 [] n hs3 wok_nil (by omega) hn.1
  have lt := nt.lt (by omega) hn.2
  have q2 : ex1 (cal (all.map De.g) (k + 19)) (.set 1 (.call 25 [(.var 0), (.call 14 [(.var 0), (.lst [(.cst (.int 2)), (.cst (.int 3)), (.cst (.int 4)), (.cst (.int 8))])]), .dic, (.call 14 [(.var 0), (.lst [(.cst (.int 4)), (.cst (.int 6)), (.cst (.int 8)), (.cst (.int 12))])])])) [some (.io (penD g s1 e1)), none] =
      .nx [some (.io (penD g s4 e4)), some (.val (enc t))] := by
    have ha : ev (cal (all.map De.g) (k + 19)) (.call 14 [(.var 0), (.lst [(.cst (.int 2)), (.cst (.int 3)), (.cst (.int 4)), (.cst (.int 8))])]) [some (.io (penD g s1 e1)), none] = .ok (false, .int (d : Nat)) [some (.io (penD g s2 e2)), none] := by
      simp at dr2
      simp [st_nil, st_cons, st_set, st_par, st_unp, st_put, st_app, st_ext, st_expr, st_ret, st_ite, st_pass, evL_nil, evL_cons, evs_nil, evs_cons, ev_var, ev_cst, ev_glob, ev_tup, ev_lst, ev_dic, ev_bin, ev_cmp, ev_chn, ev_band, ev_bor, ev_not, ev_neg, ev_ite, ev_blt, ev_blt2, ev_isi, ev_idx, ev_slc, ev_rev, ev_pop, ev_get, ev_get2, ev_index, two, brw, Ex.var?, valOf, Rs.bind, Rs.of, Rs.ou, Ou.nxt, nw, ol, slOf, nxO, rd, frz, Sl.d, putV_none, putV_val, putV_own, putV_map, putV_mapc, putL, asg, asgs, chg, upSl, app1, ext1, isLs, isDc, isLD, recv, later, tru_b, lt_ii, gt_ii, le_ii, ge_ii, eq_ii, ne_ii, at_0, at_1, at_2, at_3, add_ll, add_tt, oIdx, dT, small_lt, fin, finR, outs, callV, callS, c14, dr2]
    have hb : ev (cal (all.map De.g) (k + 19)) (.call 14 [(.var 0), (.lst [(.cst (.int 4)), (.cst (.int 6)), (.cst (.int 8)), (.cst (.int 12))])]) [some (.io (penD g s2 e2)), none] = .ok (false, .int n) [some (.io (penD g s3 e3)), none] := by
      simp at dr3
      simp [st_nil, st_cons, st_set, st_par, st_unp, st_put, st_app, st_ext, st_expr, st_ret, st_ite, st_pass, evL_nil, evL_cons, evs_nil, evs_cons, ev_var, ev_cst, ev_glob, ev_tup, ev_lst, ev_dic, ev_bin, ev_cmp, ev_chn, ev_band, ev_bor, ev_not, ev_neg, ev_ite, ev_blt, ev_blt2, ev_isi, ev_idx, ev_slc, ev_rev, ev_pop, ev_get, ev_get2, ev_index, two, brw, Ex.var?, valOf, Rs.bind, Rs.of, Rs.ou, Ou.nxt, nw, ol, slOf, nxO, rd, frz, Sl.d, putV_none, putV_val, putV_own, putV_map, putV_mapc, putL, asg, asgs, chg, upSl, app1, ext1, isLs, isDc, isLD, recv, later, tru_b, lt_ii, gt_ii, le_ii, ge_ii, eq_ii, ne_ii, at_0, at_1, at_2, at_3, add_ll, add_tt, oIdx, dT, small_lt, fin, finR, outs, callV, callS, c14, dr3]
    have cl := ev_callN (c := cal (all.map De.g) (k + 19)) (f := 25) (i := 0) (s := .io (penD g s3 e3)) (s' := .io (penD g s4 e4)) rfl rfl rfl rfl ha hb rn rfl
    rw [st_set, cl]
    rfl
  obtain ⟨y, s5, e5, y0, y1, hs5, dr5⟩ := draw (k + 17) g s4 e4 4 hs4 (by omega) (by omega)
  rw [b__law_tree, st_cons, q1, nxt_nx, st_cons, q2, nxt_nx]
  by_cases hy : 0 < y
  · refine ⟨t, s5, e5, lt, hs5, ?_⟩
    simp [st_nil, st_cons, st_set, st_par, st_unp, st_put, st_app, st_ext, st_expr, st_ret, st_ite, st_pass, evL_nil, evL_cons, evs_nil, evs_cons, ev_var, ev_cst, ev_glob, ev_tup, ev_lst, ev_dic, ev_bin, ev_cmp, ev_chn, ev_band, ev_bor, ev_not, ev_neg, ev_ite, ev_blt, ev_blt2, ev_isi, ev_idx, ev_slc, ev_rev, ev_pop, ev_get, ev_get2, ev_index, two, brw, Ex.var?, valOf, Rs.bind, Rs.of, Rs.ou, Ou.nxt, nw, ol, slOf, nxO, rd, frz, Sl.d, putV_none, putV_val, putV_own, putV_map, putV_mapc, putL, asg, asgs, chg, upSl, app1, ext1, isLs, isDc, isLD, recv, later, tru_b, lt_ii, gt_ii, le_ii, ge_ii, eq_ii, ne_ii, at_0, at_1, at_2, at_3, add_ll, add_tt, oIdx, dT, small_lt, fin, finR, outs, callV, callS, c13, dr5, hy, d__law_tree]
  · obtain ⟨t', lt', _, nr⟩ := noted_tree t lt
    have nr := nr (k + 19) (by omega)
    have ls := least_splitting (k + 14) t lt.good lt.okA
    refine ⟨t', s5, e5, lt', hs5, ?_⟩
    have c33 : ∀ env : Env, ev (cal (all.map De.g) (k + 19)) (.call 33 [.var 1]) env = (evs (cal (all.map De.g) (k + 19)) [.var 1] env).bind fun ds e1 => callV (run (all.map De.g) (k + 19) 33 ds) e1 := fun env => ev_call0 (n := 1) rfl rfl
    have c29 : ∀ (a b : Ex) (env : Env), ev (cal (all.map De.g) (k + 19)) (.call 28 [a, b]) env = (evs (cal (all.map De.g) (k + 19)) [a, b] env).bind fun ds e1 => callV (run (all.map De.g) (k + 19) 28 ds) e1 := fun a b env => ev_call0 (n := 2) rfl rfl
    simp [st_nil, st_cons, st_set, st_par, st_unp, st_put, st_app, st_ext, st_expr, st_ret, st_ite, st_pass, evL_nil, evL_cons, evs_nil, evs_cons, ev_var, ev_cst, ev_glob, ev_tup, ev_lst, ev_dic, ev_bin, ev_cmp, ev_chn, ev_band, ev_bor, ev_not, ev_neg, ev_ite, ev_blt, ev_blt2, ev_isi, ev_idx, ev_slc, ev_rev, ev_pop, ev_get, ev_get2, ev_index, two, brw, Ex.var?, valOf, Rs.bind, Rs.of, Rs.ou, Ou.nxt, nw, ol, slOf, nxO, rd, frz, Sl.d, putV_none, putV_val, putV_own, putV_map, putV_mapc, putL, asg, asgs, chg, upSl, app1, ext1, isLs, isDc, isLD, recv, later, tru_b, lt_ii, gt_ii, le_ii, ge_ii, eq_ii, ne_ii, at_0, at_1, at_2, at_3, add_ll, add_tt, oIdx, dT, small_lt, fin, finR, outs, callV, callS, c13, dr5, hy, c33, c29, ls, nr, d__law_tree]
/-! ### _law_places -/
end Rv.k08
end
section
/-! k08, mathematics 25: what is written is short; rooms and widths. -/
namespace Rv.k08
open PySem Rv
/-! ### short -/
mutual
theorem rp_enc : ∀ t : Tr, (∀ u ∈ nds t, okN u) → dep t ≤ 20 → Rp (2 * dep t + 1) (30 * (nds t).length - 1) (enc t)
  | .leaf, h, hd => by
    rw [enc, nds]
    exact (Rps.nil (m := 0) (n := 0)).tup.mono (by omega) (by omega)
  | .own r ts, h, hd => by
    rw [nds] at h
    rw [dep] at hd
    have ok : okN (.own r ts) := h _ List.mem_cons_self
    have h1 := rps_encs ts (fun u hu => h u (List.mem_cons_of_mem _ hu)) (by omega)
    have hr : r.natAbs < 1000000 := by have := ok.1; have := ok.2.1; omega
    have hs : Rp 0 3 (.str "own") := Rp.str (by decide +kernel) (by decide +kernel)
    have h2 := Rps.cons (hs.mono (Nat.zero_le (2 * deps ts + 2)) (Nat.le_refl _)) (Rps.cons ((Rp.int hr).mono (Nat.zero_le _) (Nat.le_refl _)) (Rps.cons h1.tup (Rps.nil (n := 0))))
    rw [enc, nds, dep, List.length_cons]
    exact h2.tup.mono (by omega) (by omega)
  | .oth ts, h, hd => by
    rw [nds] at h
    rw [dep] at hd
    have h1 := rps_encs ts (fun u hu => h u (List.mem_cons_of_mem _ hu)) (by omega)
    have hs : Rp 0 6 (.str "theirs") := Rp.str (by decide +kernel) (by decide +kernel)
    have h2 := Rps.cons (hs.mono (Nat.zero_le (2 * deps ts + 2)) (Nat.le_refl _)) (Rps.cons h1.tup (Rps.nil (n := 0)))
    rw [enc, nds, dep, List.length_cons]
    exact h2.tup.mono (by omega) (by omega)
theorem rps_encs : ∀ ts : List Tr, (∀ u ∈ ndss ts, okN u) → deps ts ≤ 20 → Rps (2 * deps ts + 1) (30 * (ndss ts).length) (encs ts)
  | [], h, hd => by rw [encs]; exact Rps.nil
  | t :: ts, h, hd => by
    rw [ndss] at h
    rw [deps] at hd
    have h1 := rp_enc t (fun u hu => h u (List.mem_append_left _ hu)) (by omega)
    have h2 := rps_encs ts (fun u hu => h u (List.mem_append_right _ hu)) (by omega)
    have h0 : 1 ≤ (nds t).length := by cases t <;> (rw [nds]; simp)
    rw [encs, ndss, deps, List.length_append]
    exact (Rps.cons (h1.mono (by omega) (Nat.le_refl _)) (h2.mono (m' := 2 * max (dep t) (deps ts) + 1) (by omega) (Nat.le_refl _))).mono (by omega) (by omega)
end
mutual
theorem pre_small : ∀ (p : List Int) (t : Tr), (∀ u ∈ nds t, okN u) → (∀ i ∈ p, 0 ≤ i ∧ i < 4) → ∀ q ∈ pre p t, ∀ i ∈ q.1, 0 ≤ i ∧ i < 4
  | p, .leaf, h, hp => by
    intro q hq
    rw [pre] at hq
    rw [List.mem_singleton.mp hq]
    exact hp
  | p, .own r ts, h, hp => by
    intro q hq
    rw [nds] at h
    rw [pre] at hq
    have ok : okN (.own r ts) := h _ List.mem_cons_self
    rcases List.mem_cons.mp hq with rfl | hq
    · exact hp
    · exact pres_small p 0 ts (fun u hu => h u (List.mem_cons_of_mem _ hu)) hp (by have := ok.2.2.2; omega) q hq
  | p, .oth ts, h, hp => by
    intro q hq
    rw [nds] at h
    rw [pre] at hq
    have ok : okN (.oth ts) := h _ List.mem_cons_self
    rcases List.mem_cons.mp hq with rfl | hq
    · exact hp
    · exact pres_small p 0 ts (fun u hu => h u (List.mem_cons_of_mem _ hu)) hp (by have := ok.2; omega) q hq
theorem pres_small : ∀ (p : List Int) (i : Nat) (ts : List Tr), (∀ u ∈ ndss ts, okN u) → (∀ i ∈ p, 0 ≤ i ∧ i < 4) → i + ts.length ≤ 4 → ∀ q ∈ pres p i ts, ∀ i ∈ q.1, 0 ≤ i ∧ i < 4
  | p, i, [], h, hp, hi => by
    intro q hq
    rw [pres] at hq
    cases hq
  | p, i, t :: ts, h, hp, hi => by
    intro q hq
    rw [ndss] at h
    rw [pres] at hq
    rw [List.length_cons] at hi
    rcases List.mem_append.mp hq with hq | hq
    · refine pre_small (p ++ [(i : Int)]) t (fun u hu => h u (List.mem_append_left _ hu)) (fun j hj => ?_) q hq
      rcases List.mem_append.mp hj with hj | hj
      · exact hp j hj
      · rw [List.mem_singleton.mp hj]; omega
    · exact pres_small p (i + 1) ts (fun u hu => h u (List.mem_append_right _ hu)) hp (by omega) q hq
end
theorem LT.nodes {t : Tr} (h : LT t) : (pre [] t).length ≤ 60 := by
  have h1 := nds_lv t h.okn
  have h2 := h.lvn
  rw [pre_len]
  omega
theorem LT.len20 {t : Tr} (h : LT t) {q : Nd} (hq : q ∈ pre [] t) : q.1.length ≤ 20 := by
  obtain ⟨s, e1, e2⟩ := at_pre 20 [] t (by have := h.dep; omega) q hq
  have aux : ∀ (s : List Int) (t u : Tr), at_ t s = some u → s.length ≤ k08.dep t := by
    intro s
    induction s with
    | nil => intro t u _; simp
    | cons i s ih =>
      intro t u hu
      rw [at_] at hu
      cases e : L2.atI (kids t) i with
      | none => rw [e] at hu; cases hu
      | some v =>
        rw [e] at hu
        cases hl : isLeaf t with
        | true => rw [hl] at hu; cases hu
        | false =>
          rw [hl] at hu
          have h1 := ih v u hu
          have hv : v ∈ kids t := by
            unfold L2.atI at e
            cases q : L2.ixN (kids t).length i with
            | none => rw [q] at e; cases e
            | some j =>
              rw [q] at e
              exact List.mem_of_getElem? e
          have := dep_kid hv
          rw [List.length_cons]
          omega
  have := aux s t q.2 e2
  rw [e1]
  simp
  have := h.dep
  omega
theorem LT.path {t : Tr} (h : LT t) {q : Nd} (hq : q ∈ pre [] t) : Rp 1 440 (pd q.1) := by
  have h1 := pre_small [] t h.okn (fun i hi => nomatch hi) q hq
  have hl := h.len20 hq
  have := (Rps.map (m := 0) (n := 21) (f := PyData.int) (l := q.1) fun i hi => Rp.int (by have := h1 i hi; omega)).tup
  exact this.mono (by omega) (by omega)
theorem LT.paths {t : Tr} (h : LT t) {l : List Nd} (hl : l.length ≤ 200) (hm : ∀ q ∈ l, q ∈ pre [] t) : Rp 2 100000 (.tuple (l.map fun q => pd q.1)) := by
  have := (Rps.map (f := fun q : Nd => pd q.1) (l := l) fun q hq => h.path (hm q hq)).tup
  have hl2 : l.length * (440 + 1) ≤ 200 * 441 := Nat.mul_le_mul hl (by omega)
  exact this.mono (by omega) (by omega)
theorem LT.room {t : Tr} (h : LT t) {q : Nd} (hq : q ∈ pre [] t) : 0 ≤ roomI q.2 ∧ roomI q.2 ≤ 9 := by
  have := h.okA q hq
  obtain ⟨p, u⟩ := q
  cases u with
  | leaf => exact ⟨by show (0 : Int) ≤ 0; omega, by show (0 : Int) ≤ 9; omega⟩
  | oth ts => exact ⟨by show (0 : Int) ≤ 0; omega, by show (0 : Int) ≤ 9; omega⟩
  | own r ts => exact ⟨this.1, this.2.1⟩
theorem LT.treeRp {t : Tr} (h : LT t) : Rp 60 1000000 (enc t) := by
  have h1 := rp_enc t h.okn (by have := h.dep; omega)
  have h2 := h.nodes
  rw [pre_len] at h2
  exact h1.mono (by have := h.dep; omega) (by omega)
/-- own histories are short -/
theorem LT.hist {t : Tr} (h : LT t) {q : Nd} (hq : q ∈ pre [] t) : Rp 2 10000 (.tuple ((roomsTo t q.1).map hpair)) := by
  have h1 := pre_small [] t h.okn (fun i hi => nomatch hi) q hq
  have hl := h.len20 hq
  have lr := roomsTo_len q.1 t
  have aux : ∀ (p : List Int) (t : Tr), (∀ u ∈ nds t, okN u) → (∀ i ∈ p, 0 ≤ i ∧ i < 4) → ∀ x ∈ roomsTo t p, (0 ≤ x.1 ∧ x.1 ≤ 9) ∧ 0 ≤ x.2 ∧ x.2 < 4 := by
    intro p
    induction p with
    | nil => intro t _ _ x hx; cases hx
    | cons i p ih =>
      intro t ok hp x hx
      rw [roomsTo] at hx
      rcases List.mem_append.mp hx with hx | hx
      · have hi := hp i List.mem_cons_self
        cases t with
        | leaf => cases hx
        | oth ts => cases hx
        | own r ts =>
          have o : okN (.own r ts) := ok _ (by rw [nds]; exact List.mem_cons_self)
          rw [List.mem_singleton.mp (show x ∈ [(r, i)] from hx)]
          exact ⟨⟨o.1, o.2.1⟩, hi⟩
      · cases e : L2.atI (kids t) i with
        | none => rw [e] at hx; cases hx
        | some v =>
          rw [e] at hx
          refine ih v (fun u hu => ok u ?_) (fun j hj => hp j (List.mem_cons_of_mem _ hj)) x hx
          have hv : v ∈ kids t := by
            unfold L2.atI at e
            cases q : L2.ixN (kids t).length i with
            | none => rw [q] at e; cases e
            | some j =>
              rw [q] at e
              exact List.mem_of_getElem? e
          have sub : ∀ ts : List Tr, v ∈ ts → u ∈ ndss ts := by
            intro ts
            induction ts with
            | nil => intro hv; cases hv
            | cons a ts ih2 =>
              intro hv
              rw [ndss]
              rcases List.mem_cons.mp hv with rfl | hv
              · exact List.mem_append_left _ hu
              · exact List.mem_append_right _ (ih2 hv)
          cases t with
          | leaf => cases hv
          | own r ts => rw [nds]; exact List.mem_cons_of_mem _ (sub ts hv)
          | oth ts => rw [nds]; exact List.mem_cons_of_mem _ (sub ts hv)
  have hx := aux q.1 t h.okn h1
  have := (Rps.map (m := 1) (n := 44) (f := hpair) (l := roomsTo t q.1) fun x hm => by
    obtain ⟨h2, h3⟩ := hx x hm
    exact (Rps.cons (Rp.int (by omega)) (Rps.cons (Rp.int (by omega)) (Rps.nil (n := 0)))).tup).tup
  have hl2 : (roomsTo t q.1).length * (44 + 1) ≤ 20 * 45 := Nat.mul_le_mul (by omega) (by omega)
  exact this.mono (by omega) (by omega)
/-! ### rooms and widths -/
theorem wids_keys (l : List Nd) : ∀ a : WD, ((l.foldl (fun a q => wput a (roomI q.2) (wide q)) a).map (·.1)).map PyData.int = (a.map (·.1)).map PyData.int ++ once ((a.map (·.1)).map PyData.int) (l.map fun q => PyData.int (roomI q.2)) := by
  induction l with
  | nil => intro a; simp [once]
  | cons q l ih =>
    intro a
    rw [List.foldl_cons, ih, wput_keys, List.map_cons, once, any_ints]
    by_cases h : roomI q.2 ∈ a.map (·.1)
    · rw [if_pos h, decide_eq_true h, if_pos rfl]
    · rw [if_neg h, decide_eq_false h]
      simp
theorem wids_rooms (t : Tr) : ((wids (pre [] t)).map (·.1)).map PyData.int = once [] ((owns t).map fun q => PyData.int (roomI q.2)) := wids_keys (owns t) []
/-- every entry tells a node's width -/
theorem wids_from (l : List Nd) (P : Int × Int → Prop) (h : ∀ q ∈ l, P (roomI q.2, wide q)) : ∀ a : WD, (∀ p ∈ a, P p) → ∀ p ∈ l.foldl (fun a q => wput a (roomI q.2) (wide q)) a, P p := by
  induction l with
  | nil => intro a ha; exact ha
  | cons q l ih =>
    intro a ha
    rw [List.foldl_cons]
    refine ih (fun r hr => h r (List.mem_cons_of_mem _ hr)) _ fun p hp => ?_
    unfold wput at hp
    split at hp
    · obtain ⟨p0, h0, rfl⟩ := List.mem_map.mp hp
      split
      · rename_i e
        rw [e]
        exact h q List.mem_cons_self
      · exact ha p0 h0
    · rcases List.mem_append.mp hp with hp | hp
      · exact ha p hp
      · rw [List.mem_singleton.mp hp]
        exact h q List.mem_cons_self
theorem wget_mem {W : WD} {r : Int} (h : r ∈ W.map (·.1)) : ∃ m, wget W r = some m ∧ (r, m) ∈ W := by
  unfold wget
  cases e : W.find? fun p => decide (p.1 = r) with
  | none =>
    obtain ⟨p, hp, hr⟩ := List.mem_map.mp h
    have := List.find?_eq_none.mp e p hp
    simp [hr] at this
  | some p =>
    have h1 := List.find?_some e
    simp at h1
    exact ⟨p.2, rfl, by rw [← h1]; exact List.mem_of_find?_eq_some e⟩
theorem maxL_same {l : List Int} {m : Int} (hn : l ≠ []) (h : ∀ x ∈ l, x = m) : maxL l = some m := by
  cases l with
  | nil => exact absurd rfl hn
  | cons x l =>
    have aux : ∀ l : List Int, (∀ y ∈ l, y = m) → l.foldl (fun a y => if y > a then y else a) m = m := by
      intro l
      induction l with
      | nil => intro _; rfl
      | cons y l ih =>
        intro h
        have := h y List.mem_cons_self
        subst this
        rw [List.foldl_cons, if_neg (by omega)]
        exact ih fun z hz => h z (List.mem_cons_of_mem _ hz)
    have := h x List.mem_cons_self
    subst this
    show some (l.foldl _ x) = _
    rw [aux l fun y hy => h y (List.mem_cons_of_mem _ hy)]
/-- the widths of a tree that is fine -/
theorem LT.widths {t : Tr} (h : LT t) {r : Int} (hr : r ∈ (wids (pre [] t)).map (·.1)) : ∃ m, wget (wids (pre [] t)) r = some m ∧ maxL (((pre [] t).filter fun q => isRoom r q.2).map wide) = some m ∧ 0 ≤ m ∧ m ≤ 4 ∧ 0 ≤ r ∧ r ≤ 9 := by
  obtain ⟨w, hw⟩ := h.wid
  obtain ⟨m, h1, h2⟩ := wget_mem hr
  have own_of : ∀ q ∈ owns t, ∃ ts, q.2 = .own (roomI q.2) ts ∧ wide q = (w (roomI q.2) : Nat) ∧ 0 ≤ roomI q.2 ∧ roomI q.2 ≤ 9 ∧ wide q ≤ 4 := fun q hq => by
    obtain ⟨g1, _, g3⟩ := owns_mem hq
    obtain ⟨p, u⟩ := q
    cases u with
    | leaf => cases g3
    | oth ts => cases g3
    | own r ts =>
      have o := h.okA _ g1
      have e := hw r ts (by rw [← pre_snd [] t]; exact List.mem_map.mpr ⟨_, g1, rfl⟩)
      refine ⟨ts, rfl, ?_, o.1, o.2.1, ?_⟩
      · show ((ts.length : Nat) : Int) = _
        rw [e]
        rfl
      · show ((ts.length : Nat) : Int) ≤ 4
        have := o.2.2.2
        omega
  have h3 := wids_from (owns t) (fun p => p.2 = (w p.1 : Nat) ∧ ∃ q ∈ owns t, roomI q.2 = p.1) (fun q hq => by
    obtain ⟨ts, _, e, _⟩ := own_of q hq
    exact ⟨e, q, hq, rfl⟩) [] (fun p hp => nomatch hp) (r, m) h2
  obtain ⟨e, q, hq, hqr⟩ := h3
  obtain ⟨ts, e1, e2, e3, e4, e5⟩ := own_of q hq
  have hqr : roomI q.2 = r := hqr
  have e : m = (w r : Nat) := e
  refine ⟨m, h1, maxL_same ?_ ?_, ?_, ?_, ?_, ?_⟩
  · have : wide q ∈ ((pre [] t).filter fun q => isRoom r q.2).map wide := List.mem_map.mpr ⟨q, List.mem_filter.mpr ⟨(owns_mem hq).1, by rw [e1]; simp [isRoom, hqr]⟩, rfl⟩
    intro z
    rw [z] at this
    cases this
  · intro x hx
    obtain ⟨q', hq', rfl⟩ := List.mem_map.mp hx
    obtain ⟨g1, g2⟩ := List.mem_filter.mp hq'
    have ho : isOwn q'.2 = true := by
      cases z : q'.2 with
      | leaf => rw [z] at g2; cases g2
      | oth ts => rw [z] at g2; cases g2
      | own r' ts => rfl
    obtain ⟨ts', a1, a2, _⟩ := own_of q' (owns_of g1 ho)
    rw [a1] at g2
    have : roomI q'.2 = r := by simpa [isRoom] using g2
    rw [a2, this, e]
  · omega
  · rw [e, ← hqr, ← e2]; exact e5
  · omega
  · omega
/-! ### own nodes by their paths -/
def roomsP (t : Tr) : PD := (owns t).map fun q => (q.1, roomI q.2)
theorem rooms_nodup (t : Tr) : ((roomsP t).map (·.1)).Nodup := by
  unfold roomsP
  rw [List.map_map]
  exact ord_nodup (owns_ord t)
theorem rooms_at {t : Tr} {q : Nd} (hq : q ∈ pre [] t) : dgetOr (pdD (roomsP t)) (pd q.1) .none = some (roomD q.2) := by
  show (if kfit ((roomsP t).map ppair) (pd q.1) then some ((dget ((roomsP t).map ppair) (pd q.1)).getD .none) else none) = _
  rw [kfit_p, if_pos rfl, dget_p]
  cases ho : isOwn q.2 with
  | true =>
    have hm := owns_of hq ho
    have : pget (roomsP t) q.1 = some (roomI q.2) := pget_mem (q := (q.1, roomI q.2)) (rooms_nodup t) (List.mem_map.mpr ⟨q, hm, rfl⟩)
    rw [this, (owns_mem hm).2.1]
    rfl
  | false =>
    have : pget (roomsP t) q.1 = none := by
      refine pget_none fun z => ?_
      unfold roomsP at z
      rw [List.map_map] at z
      obtain ⟨q', hq', e⟩ := List.mem_map.mp z
      have e : q'.1 = q.1 := e
      have g1 := (owns_mem hq').1
      have nd := ord_nodup (pre_ord [] t).1
      have : q' = q := by
        have inj : ∀ l : List Nd, (l.map (·.1)).Nodup → ∀ a ∈ l, ∀ b ∈ l, a.1 = b.1 → a = b := by
          intro l
          induction l with
          | nil => intro _ a ha; cases ha
          | cons x l ih =>
            intro nd a ha b hb e
            rw [List.map_cons, List.nodup_cons] at nd
            rcases List.mem_cons.mp ha with e1 | ha' <;> rcases List.mem_cons.mp hb with e2 | hb'
            · rw [e1, e2]
            · refine absurd ?_ nd.1
              rw [← e1, e]
              exact List.mem_map_of_mem hb'
            · refine absurd ?_ nd.1
              rw [← e2, ← e]
              exact List.mem_map_of_mem ha'
            · exact ih nd.2 a ha' b hb' e
        exact inj _ nd q' g1 q hq e
      subst this
      rw [(owns_mem hq').2.2] at ho
      cases ho
    rw [this]
    cases e : q.2 with
    | leaf => rfl
    | oth ts => rfl
    | own r ts => rw [e] at ho; cases ho
end Rv.k08
end
section
/-! k08, mathematics 27: own histories in sets. -/
namespace Rv.k08
open PySem Rv
abbrev Hi := List (Int × Int)
def hD (l : Hi) : D := .tuple (l.map hpair)
def pK (p : Int × Int) : NestedKey := .tup [.num p.1, .num p.2]
def hK (l : Hi) : NestedKey := .tup (l.map pK)
theorem keyNs_hp : ∀ l : Hi, keyNs (l.map hpair) = some (l.map pK)
  | [] => rfl
  | p :: l => by
    rw [List.map_cons, keyNs, keyNs_hp l]
    rfl
theorem depth_pK : ∀ l : Hi, NestedKey.depthAll (l.map pK) ≤ 1
  | [] => by simp [NestedKey.depthAll]
  | p :: l => by
    have := depth_pK l
    rw [List.map_cons, NestedKey.depthAll]
    simp only [pK, NestedKey.depth, NestedKey.depthAll]
    omega
theorem setKey_h (l : Hi) : setKey (hD l) = some (hK l) := by
  have h1 : keyN (.tuple (l.map hpair)) = some (hK l) := by
    rw [keyN, keyNs_hp]
    rfl
  have h2 : (hK l).depth ≤ 8 := by
    have := depth_pK l
    rw [hK, NestedKey.depth]
    omega
  unfold setKey hD
  dsimp only
  rw [h1]
  exact if_pos h2
theorem setKeys_h : ∀ ls : List Hi, setKeys (ls.map hD) = some (ls.map hK)
  | [] => rfl
  | l :: ls => by rw [List.map_cons, setKeys, setKey_h, setKeys_h ls]; rfl
theorem eqv_h (a b : Hi) : PyData.eqv (hD a) (hD b) = decide (a = b) := by
  unfold hD
  rw [PyData.eqv]
  exact eqv_hp a b
theorem alike_hp : ∀ a b : Hi, W.alikeAll (a.map hpair) (b.map hpair) = true
  | [], _ => by rw [List.map_nil, W.alikeAll]
  | x :: a, [] => by rw [List.map_nil, List.map_cons, W.alikeAll]
  | x :: a, y :: b => by
    rw [List.map_cons, List.map_cons, W.alikeAll, alike_hp a b]
    simp [hpair, W.alike, W.alikeAll]
theorem shp_h (l : Hi) : SeqAt.shaped (hD l) = true := by
  have := dep_hp l
  unfold SeqAt.shaped hD
  rw [PyData.canLay0, lay_hp, PyData.depth, Bool.true_and, decide_eq_true_eq]
  omega
/-- each once -/
def onceH : List Hi → List Hi → List Hi
  | _, [] => []
  | seen, h :: hs => if h ∈ seen then onceH seen hs else h :: onceH (seen ++ [h]) hs
theorem once_h : ∀ (hs seen : List Hi), once (seen.map hD) (hs.map hD) = (onceH seen hs).map hD
  | [], _ => rfl
  | h :: hs, seen => by
    have e : (seen.map hD).any (fun z => PyData.eqv z (hD h)) = decide (h ∈ seen) := by
      rw [List.any_map]
      have : ((fun z => PyData.eqv z (hD h)) ∘ hD) = fun j => decide (j = h) := funext fun j => eqv_h j h
      rw [this]
      by_cases c : h ∈ seen
      · rw [decide_eq_true c, List.any_eq_true]
        exact ⟨h, c, decide_eq_true rfl⟩
      · rw [decide_eq_false c, List.any_eq_false]
        intro j hj z
        exact c (of_decide_eq_true z ▸ hj)
    rw [List.map_cons, once, e, onceH]
    by_cases c : h ∈ seen
    · rw [decide_eq_true c, if_pos rfl, if_pos c]
      exact once_h hs seen
    · rw [decide_eq_false c, if_neg Bool.false_ne_true, if_neg c, List.map_cons, ← once_h hs (seen ++ [h]), List.map_append]
      rfl
theorem onceH_mem : ∀ (hs seen : List Hi) (x : Hi), x ∈ onceH seen hs → x ∈ hs
  | h :: hs, seen, x, hx => by
    rw [onceH] at hx
    split at hx
    · exact List.mem_cons_of_mem _ (onceH_mem hs seen x hx)
    · rcases List.mem_cons.mp hx with rfl | hx
      · exact List.mem_cons_self
      · exact List.mem_cons_of_mem _ (onceH_mem hs _ x hx)
theorem onceH_all : ∀ (hs seen : List Hi) (x : Hi), x ∈ hs → x ∉ seen → x ∈ onceH seen hs
  | h :: hs, seen, x, hx, hn => by
    rw [onceH]
    by_cases c : h ∈ seen
    · rw [if_pos c]
      rcases List.mem_cons.mp hx with rfl | hx
      · exact absurd c hn
      · exact onceH_all hs seen x hx hn
    · rw [if_neg c]
      by_cases e : x = h
      · rw [e]; exact List.mem_cons_self
      · rcases List.mem_cons.mp hx with z | hx
        · exact absurd z e
        · refine List.mem_cons_of_mem _ (onceH_all hs _ x hx fun z => ?_)
          rcases List.mem_append.mp z with z | z
          · exact hn z
          · exact e (List.mem_singleton.mp z)
/-- how many different ones -/
def kinds (hs : List Hi) : Nat := (onceH [] hs).length
theorem kinds_one {x : Hi} {l : List Hi} (h : kinds (x :: l) ≤ 1) : onceH [] (x :: l) = [x] := by
  unfold kinds at h
  rw [onceH, if_neg List.not_mem_nil] at h ⊢
  cases e : onceH ([] ++ [x]) l with
  | nil => rfl
  | cons a b => rw [e] at h; simp at h
theorem kinds_more {x : Hi} {l : List Hi} (h : 1 < kinds (x :: l)) : ∃ y ∈ l, y ≠ x := by
  unfold kinds at h
  rw [onceH, if_neg List.not_mem_nil] at h
  cases e : onceH ([] ++ [x]) l with
  | nil => rw [e] at h; simp at h
  | cons y b =>
    have hy : y ∈ onceH ([] ++ [x]) l := by rw [e]; exact List.mem_cons_self
    refine ⟨y, onceH_mem _ _ _ hy, ?_⟩
    have key : ∀ (hs seen : List Hi) (z : Hi), z ∈ onceH seen hs → z ∉ seen := by
      intro hs
      induction hs with
      | nil => intro seen z hz; cases hz
      | cons a hs ih =>
        intro seen z hz
        rw [onceH] at hz
        split at hz
        · exact ih seen z hz
        · rename_i c
          rcases List.mem_cons.mp hz with rfl | hz
          · exact c
          · exact fun w => ih _ z hz (List.mem_append_left _ w)
    intro z
    exact key _ _ _ hy (by rw [z]; simp)
theorem sort_h (hs : List Hi) : oSort ((onceH [] hs).map hD) = some (.list (((onceH [] hs).map hD).mergeSort dle)) := by
  have st : ∀ l : List Hi, sortable (l.map hD) = true := fun l => by
    unfold sortable
    simp only [Bool.and_eq_true, Bool.or_eq_true, List.all_eq_true, List.mem_map]
    refine ⟨⟨?_, .inl ?_⟩, ?_⟩
    · rintro _ ⟨p, _, rfl⟩ _ ⟨q, _, rfl⟩
      show W.alike (.tuple _) (.tuple _) = true
      rw [W.alike]
      exact alike_hp p q
    · rintro _ ⟨p, _, rfl⟩
      rfl
    · rintro _ ⟨p, _, rfl⟩
      exact shp_h p
  unfold oSort
  rw [st, if_pos rfl]
theorem sset_h (hs : List Hi) (hn : hs ≠ []) (hl : hs.length < 64) : oB .sortedSet [.list (hs.map hD)] = some (.list (((onceH [] hs).map hD).mergeSort dle)) := by
  have i0 : intsOf (hs.map hD) = none := by
    cases hs with
    | nil => exact absurd rfl hn
    | cons h l => rfl
  rw [sortedSet_keys i0 (setKeys_h hs) (by rw [List.length_map]; exact hl)]
  have := once_h hs []
  rw [List.map_nil] at this
  rw [this]
  exact sort_h hs
theorem lset_h (hs : List Hi) (hl : hs.length < 64) : oB .lenSet [.list (hs.map hD)] = some (.int (kinds hs : Nat)) := by
  rw [lenSet_keys (setKeys_h hs) (by rw [List.length_map]; exact hl)]
  have := once_h hs []
  rw [List.map_nil] at this
  rw [this, List.length_map]
  rfl
/-! ### the histories of a room -/
def hist (t : Tr) (q : Nd) : Hi := roomsTo t q.1
def inRoom (r : Int) (q : Nd) : Bool := decide (roomI q.2 = r)
def nodesIn (t : Tr) (r : Int) : List Nd := (owns t).filter (inRoom r)
def hs (t : Tr) (r : Int) : List Hi := (nodesIn t r).map (hist t)
theorem LT.owns64 {t : Tr} (h : LT t) : (owns t).length < 60 + 1 := Nat.lt_succ_of_le (Nat.le_trans (List.length_filter_le _ _) h.nodes)
theorem hs_len {t : Tr} (h : LT t) (r : Int) : (hs t r).length < 64 := by
  have h1 := h.owns64
  have h2 := List.length_filter_le (inRoom r) (owns t)
  unfold hs nodesIn
  rw [List.length_map]
  omega
theorem histories_in (k : Nat) (t : Tr) (h : LT t) (r : Int) (hn : hs t r ≠ []) : run (all.map De.g) (k + 4) 6 [enc t, .int r] = .ret (.list (((onceH [] (hs t r)).map hD).mergeSort dle)) [] := by
  rw [run_def (g := d_histories_in.g) rfl rfl]
  show fin d_histories_in.g (exs (cal (all.map De.g) (k + 3)) b_histories_in [some (.val (enc t)), some (.val (.int r)), none]) = _
  have g := h.good
  have c1 : ev (cal (all.map De.g) (k + 3)) (.call 1 [.var 0]) [some (.val (enc t)), some (.val (.int r)), none] = .ok (false, .tuple ((owns t).map fun q => pd q.1)) [some (.val (enc t)), some (.val (.int r)), none] :=
    ev_call (n := 1) (ds := [enc t]) rfl (by simp [evs, ev, frz, valOf, Rs.bind]) rfl (own_nodes_of (k + 1) t g)
  have cm := comp_gi (c := cal (all.map De.g) (k + 3)) (own := [2]) (tg := .v 2) (sr := .it) (elt := .call 5 [(.var 0), (.var 2)]) (cond := .cmp .Eq (.call 3 [(.var 0), (.var 2)]) (.var 1)) (env0 := [some (.val (enc t)), some (.val (.int r)), none]) (W := owns t) (P := inRoom r) (en := fun q => pd q.1) (out := fun q => hD (hist t q)) rfl c1 rfl rfl (by have := h.owns64; omega) fun q hq => by
    obtain ⟨h1, h2, _⟩ := owns_mem hq
    have es : evs (cal (all.map De.g) (k + 3)) [.var 0, .var 2] [some (.val (enc t)), some (.val (.int r)), some (.val (pd q.1))] = .ok [enc t, pd q.1] [some (.val (enc t)), some (.val (.int r)), some (.val (pd q.1))] := by
      simp [evs, ev, frz, valOf, Rs.bind]
    have c3 := ev_call (f := 3) (n := 2) rfl es rfl (room_at (k + 1) t q.2 q.1 (g.at_ h1) (g.dep q h1))
    have c5 := ev_call (f := 5) (n := 2) rfl es rfl (own_history k t q.2 q.1 (by have := h.dep; omega) (g.at_ h1) (g.len q h1))
    rw [h2] at c3
    refine ⟨[some (.val (enc t)), some (.val (.int r)), some (.val (pd q.1))], rfl, rfl, ?_, fun _ => ?_⟩
    · rw [brw, va_cmp]
      dsimp only
      rw [ev_cmp, two, va_call]
      dsimp only
      rw [c3, v_ok, b_ok]
      simp [st_nil, st_cons, st_set, st_par, st_unp, st_put, st_app, st_ext, st_expr, st_ret, st_ite, st_pass, evL_nil, evL_cons, evs_nil, evs_cons, ev_var, ev_cst, ev_glob, ev_tup, ev_lst, ev_dic, ev_bin, ev_cmp, ev_chn, ev_band, ev_bor, ev_not, ev_neg, ev_ite, ev_blt, ev_blt2, ev_isi, ev_idx, ev_slc, ev_rev, ev_pop, ev_get, ev_get2, ev_index, two, brw, Ex.var?, valOf, Rs.bind, Rs.of, Rs.ou, Ou.nxt, nw, ol, slOf, nxO, rd, frz, Sl.d, putV_none, putV_val, putV_own, putV_map, putV_mapc, putL, asg, asgs, chg, upSl, app1, ext1, isLs, isDc, isLD, recv, later, tru_b, lt_ii, gt_ii, le_ii, ge_ii, eq_ii, ne_ii, at_0, at_1, at_2, at_3, add_ll, add_tt, oIdx, dT, small_lt, fin, finR, outs, callV, callS, inRoom]
    · rw [c5]
      rfl
  have e : ((owns t).filter (inRoom r)).map (fun q => hD (hist t q)) = (hs t r).map hD := by
    unfold hs nodesIn
    rw [List.map_map]
    rfl
  rw [e] at cm
  have ss := sset_h (hs t r) hn (hs_len h r)
  rw [b_histories_in, st_cons, st_ret, ev_blt, brw]
  simp only [show ∀ a b c d e f, (Ex.compIf a b c d e f).var? = none from fun _ _ _ _ _ _ => rfl, cm, v_ok, b_ok, nw, ss, Option.map_some, of_some, ou_ok, rt_nxt]
  rfl
end Rv.k08
end
section
/-! k08, mathematics 28: the histories of the rooms, in a dict; the forgotten rooms. -/
namespace Rv.k08
open PySem Rv
/-- calls with the tree alone -/
theorem call_0 {k f : Nat} {t : Tr} {d : D} {env : Env} (h : env[0]? = some (some (.val (enc t)))) (sg : (cal (all.map De.g) k).sig f = some ⟨1, []⟩) (hr : run (all.map De.g) k f [enc t] = .ret d []) (nf : (cal (all.map De.g) k).nw f = false) :
    ev (cal (all.map De.g) k) (.call f [.var 0]) env = .ok (false, d) env :=
  ev_call (n := 1) (ds := [enc t]) sg (by simp [evs, ev, frz, h, valOf, Rs.bind]) rfl hr nf
def addr (a : List Int) (r : Int) : List Int := if r ∈ a then a else a ++ [r]
def rsF (l : List Nd) (a : List Int) : List Int := l.foldl (fun a q => addr a (roomI q.2)) a
def rs (l : List Nd) : List Int := rsF l []
theorem rsF_mem : ∀ (l : List Nd) (a : List Int) (r : Int), r ∈ rsF l a ↔ r ∈ a ∨ ∃ q ∈ l, roomI q.2 = r
  | [], a, r => by simp [rsF]
  | q :: l, a, r => by
    show r ∈ rsF l (addr a (roomI q.2)) ↔ _
    rw [rsF_mem l]
    have e : r ∈ addr a (roomI q.2) ↔ r ∈ a ∨ roomI q.2 = r := by
      unfold addr
      split
      · constructor
        · exact .inl
        · rintro (h | rfl)
          · exact h
          · assumption
      · rw [List.mem_append, List.mem_singleton]
        constructor
        · rintro (h | h)
          · exact .inl h
          · exact .inr h.symm
        · rintro (h | h)
          · exact .inl h
          · exact .inr h.symm
    rw [e]
    constructor
    · rintro ((h | h) | ⟨x, hx, h⟩)
      · exact .inl h
      · exact .inr ⟨q, List.mem_cons_self, h⟩
      · exact .inr ⟨x, List.mem_cons_of_mem _ hx, h⟩
    · rintro (h | ⟨x, hx, h⟩)
      · exact .inl (.inl h)
      · rcases List.mem_cons.mp hx with rfl | hx
        · exact .inl (.inr h)
        · exact .inr ⟨x, hx, h⟩
theorem rs_mem {l : List Nd} {r : Int} : r ∈ rs l ↔ ∃ q ∈ l, roomI q.2 = r := by
  unfold rs
  rw [rsF_mem]
  simp
theorem rs_len : ∀ (l : List Nd) (a : List Int), (rsF l a).length ≤ a.length + l.length
  | [], a => Nat.le_refl _
  | q :: l, a => by
    have h := rs_len l (addr a (roomI q.2))
    have : (addr a (roomI q.2)).length ≤ a.length + 1 := by
      unfold addr
      split <;> simp
    show (rsF l (addr a (roomI q.2))).length ≤ _
    rw [List.length_cons]
    omega
theorem rs_once (l : List Nd) : ∀ a : List Int, (rsF l a).map PyData.int = a.map PyData.int ++ once (a.map PyData.int) (l.map fun q => PyData.int (roomI q.2)) := by
  induction l with
  | nil => intro a; simp [once, rsF]
  | cons q l ih =>
    intro a
    show (rsF l (addr a (roomI q.2))).map PyData.int = _
    rw [ih, List.map_cons, once, any_ints]
    unfold addr
    by_cases h : roomI q.2 ∈ a
    · rw [if_pos h, decide_eq_true h, if_pos rfl]
    · rw [if_neg h, decide_eq_false h]
      simp
theorem rs_snoc (l : List Nd) (q : Nd) : rs (l ++ [q]) = addr (rs l) (roomI q.2) := by
  unfold rs rsF
  rw [List.foldl_append]
  rfl
/-! ### a dict by rooms -/
theorem kfit_r (A : List Int) (g : Int → D) (r : Int) : kfit (A.map fun x => (PyData.int x, g x)) (.int r) = true := by
  unfold kfit
  rw [List.all_map]
  simp [kin]
theorem dget_r (g : Int → D) (r : Int) : ∀ A : List Int, dget (A.map fun x => (PyData.int x, g x)) (.int r) = if r ∈ A then some (g r) else none
  | [] => rfl
  | a :: A => by
    have ih := dget_r g r A
    unfold dget at ih ⊢
    rw [List.map_cons, List.find?_cons]
    dsimp only
    rw [eqv_ii]
    by_cases h : a = r
    · subst h
      simp
    · have h2 : ¬ r = a := fun z => h z.symm
      rw [decide_eq_false h]
      simp only [ih, List.mem_cons, h2, false_or]
theorem dput_r (A : List Int) (g : Int → D) (r : Int) (v : D) : dput (A.map fun x => (PyData.int x, g x)) (.int r) v = if r ∈ A then A.map fun x => (PyData.int x, if x = r then v else g x) else (A.map fun x => (PyData.int x, g x)) ++ [(.int r, v)] := by
  have e : ((A.map fun x => (PyData.int x, g x)).any fun p => PyData.eqv p.1 (.int r)) = decide (r ∈ A) := by
    rw [List.any_map]
    have := any_ints r A
    rw [List.any_map] at this
    exact this
  unfold dput
  rw [e]
  by_cases h : r ∈ A
  · rw [decide_eq_true h, if_pos rfl, if_pos h, List.map_map]
    refine List.map_congr_left fun x _ => ?_
    show (if PyData.eqv (.int x) (.int r) = true then (PyData.int x, v) else (PyData.int x, g x)) = _
    rw [eqv_ii]
    by_cases c : x = r <;> simp [c]
  · rw [decide_eq_false h, if_neg h]
    rfl
def hsl (t : Tr) (l : List Nd) (r : Int) : List Hi := (l.filter (inRoom r)).map (hist t)
def gV (t : Tr) (l : List Nd) (r : Int) : D := .list ((hsl t l r).map hD)
def gD (t : Tr) (l : List Nd) : D := .dict ((rs l).map fun r => (PyData.int r, gV t l r))
theorem hsl_none {t : Tr} {l : List Nd} {r : Int} (h : r ∉ rs l) : hsl t l r = [] := by
  unfold hsl
  rw [List.map_eq_nil_iff, List.filter_eq_nil_iff]
  intro q hq e
  exact h (rs_mem.mpr ⟨q, hq, of_decide_eq_true e⟩)
theorem hsl_snoc (t : Tr) (l : List Nd) (q : Nd) (r : Int) : hsl t (l ++ [q]) r = hsl t l r ++ if roomI q.2 = r then [hist t q] else [] := by
  unfold hsl
  rw [List.filter_append, List.map_append]
  congr 1
  by_cases c : roomI q.2 = r
  · simp [inRoom, c]
  · simp [inRoom, c]
theorem get_g (t : Tr) (l : List Nd) (r : Int) : dgetOr (gD t l) (.int r) (.list []) = some (gV t l r) := by
  show (if kfit ((rs l).map fun r => (PyData.int r, gV t l r)) (.int r) then some ((dget ((rs l).map fun r => (PyData.int r, gV t l r)) (.int r)).getD (.list [])) else none) = _
  rw [kfit_r, if_pos rfl, dget_r]
  by_cases h : r ∈ rs l
  · rw [if_pos h]
    rfl
  · rw [if_neg h, gV, hsl_none h]
    rfl
theorem idx_g {t : Tr} {l : List Nd} {r : Int} (h : r ∈ rs l) : oIdx (gD t l) (.int r) = some (gV t l r) := by
  show (if kfit ((rs l).map fun r => (PyData.int r, gV t l r)) (.int r) then dget ((rs l).map fun r => (PyData.int r, gV t l r)) (.int r) else none) = _
  rw [kfit_r, if_pos rfl, dget_r, if_pos h]
theorem put_g (t : Tr) (l : List Nd) (q : Nd) (hl : l.length < 100000) : putIx (gD t l) (.int (roomI q.2)) (.list ((hsl t l (roomI q.2)).map hD ++ [hD (hist t q)])) = some (gD t (l ++ [q])) := by
  have hn := rs_len l []
  have sm : small (((rs l).map fun r => (PyData.int r, gV t l r)).length + 1) = true := small_lt (by
    rw [List.length_map]
    have : (rs l).length ≤ [].length + l.length := hn
    simp at this
    omega)
  show (if kfit ((rs l).map fun r => (PyData.int r, gV t l r)) (.int (roomI q.2)) && small (((rs l).map fun r => (PyData.int r, gV t l r)).length + 1) then some (PyData.dict (dput ((rs l).map fun r => (PyData.int r, gV t l r)) (.int (roomI q.2)) _)) else none) = _
  rw [kfit_r, sm, dput_r]
  show some (PyData.dict _) = some (PyData.dict _)
  rw [rs_snoc]
  unfold addr
  by_cases h : roomI q.2 ∈ rs l
  · rw [if_pos h, if_pos h]
    congr 2
    refine List.map_congr_left fun x _ => ?_
    unfold gV
    rw [hsl_snoc]
    by_cases c : x = roomI q.2
    · subst c
      simp
    · have c2 : ¬ roomI q.2 = x := fun z => c z.symm
      simp [c, c2]
  · rw [if_neg h, if_neg h, List.map_append]
    congr 3
    · refine List.map_congr_left fun x hx => ?_
      unfold gV
      have hne : ¬ roomI q.2 = x := fun z => h (by rw [z]; exact hx)
      rw [hsl_snoc, if_neg hne, List.append_nil]
    · show [(PyData.int (roomI q.2), PyData.list _)] = [(PyData.int (roomI q.2), PyData.list ((hsl t (l ++ [q]) (roomI q.2)).map hD))]
      rw [hsl_snoc, if_pos rfl, List.map_append]
      rfl
/-! ### _law_histories -/
def ghEnv (T : D) (d : D) (x y : Option D) : Env := [some (.val T), some (.own d), x.map Sl.val, y.map Sl.val]
def ghBody : List Sm := [.put 1 (.var 3) (.bin .Add (.get2 (.var 1) (.var 3) (.lst [])) (.lst [(.call 22 [(.var 0), (.var 2)])]))]
theorem law_histories (k : Nat) (t : Tr) (h : LT t) : run (all.map De.g) (k + 5) 23 [enc t] = .ret (gD t (owns t)) [] := by
  rw [run_def (g := d__law_histories.g) rfl rfl]
  show fin d__law_histories.g (exs (cal (all.map De.g) (k + 4)) [_, .for_ (.t [(.v 2), (.v 3)]) .it [(.call 21 [(.var 0)])] ghBody, _] [some (.val (enc t)), none, none, none]) = _
  have g := h.good
  have lo := h.owns64
  have q1 : ex1 (cal (all.map De.g) (k + 4)) (.set 1 .dic) [some (.val (enc t)), none, none, none] = .nx (ghEnv (enc t) (gD t []) none none) := by
    simp [st_nil, st_cons, st_set, st_par, st_unp, st_put, st_app, st_ext, st_expr, st_ret, st_ite, st_pass, evL_nil, evL_cons, evs_nil, evs_cons, ev_var, ev_cst, ev_glob, ev_tup, ev_lst, ev_dic, ev_bin, ev_cmp, ev_chn, ev_band, ev_bor, ev_not, ev_neg, ev_ite, ev_blt, ev_blt2, ev_isi, ev_idx, ev_slc, ev_rev, ev_pop, ev_get, ev_get2, ev_index, two, brw, Ex.var?, valOf, Rs.bind, Rs.of, Rs.ou, Ou.nxt, nw, ol, slOf, nxO, rd, frz, Sl.d, putV_none, putV_val, putV_own, putV_map, putV_mapc, putL, asg, asgs, chg, upSl, app1, ext1, isLs, isDc, isLD, recv, later, tru_b, lt_ii, gt_ii, le_ii, ge_ii, eq_ii, ne_ii, at_0, at_1, at_2, at_3, add_ll, add_tt, oIdx, dT, small_lt, fin, finR, outs, callV, callS, ghEnv, gD, rs, rsF]
  obtain ⟨e', lp, x, y, he⟩ := loop_on (f := fun x e2 => match asg (.t [.v 2, .v 3]) x e2 with
    | some e3 => exs (cal (all.map De.g) (k + 4)) ghBody e3
    | none => .no) (fun q : Nd => .tuple [pd q.1, .int (roomI q.2)]) (fun pr env => ∃ x y, env = ghEnv (enc t) (gD t pr) x y) (owns t) (by
      rintro pr q post env hw ⟨x, y, rfl⟩
      have hpl : pr.length < 1000 := by
        have := congrArg List.length hw
        rw [List.length_append] at this
        omega
      obtain ⟨h1, _, _⟩ := owns_mem (t := t) (q := q) (by rw [hw]; simp)
      refine ⟨ghEnv (enc t) (gD t (pr ++ [q])) (some (pd q.1)) (some (.int (roomI q.2))), ?_, _, _, rfl⟩
      have ag : asg (.t [(.v 2), (.v 3)]) (.tuple [pd q.1, .int (roomI q.2)]) (ghEnv (enc t) (gD t pr) x y) = some (ghEnv (enc t) (gD t pr) (some (pd q.1)) (some (.int (roomI q.2)))) := by
        cases x <;> cases y <;> simp [asg, asgs, putV, ghEnv]
      rw [ag]
      have c1 : ev (cal (all.map De.g) (k + 4)) (.call 22 [.var 0, .var 2]) (ghEnv (enc t) (gD t pr) (some (pd q.1)) (some (.int (roomI q.2)))) = .ok (false, hD (hist t q)) (ghEnv (enc t) (gD t pr) (some (pd q.1)) (some (.int (roomI q.2)))) :=
        ev_call (n := 2) (ds := [enc t, pd q.1]) rfl (by simp [st_nil, st_cons, st_set, st_par, st_unp, st_put, st_app, st_ext, st_expr, st_ret, st_ite, st_pass, evL_nil, evL_cons, evs_nil, evs_cons, ev_var, ev_cst, ev_glob, ev_tup, ev_lst, ev_dic, ev_bin, ev_cmp, ev_chn, ev_band, ev_bor, ev_not, ev_neg, ev_ite, ev_blt, ev_blt2, ev_isi, ev_idx, ev_slc, ev_rev, ev_pop, ev_get, ev_get2, ev_index, two, brw, Ex.var?, valOf, Rs.bind, Rs.of, Rs.ou, Ou.nxt, nw, ol, slOf, nxO, rd, frz, Sl.d, putV_none, putV_val, putV_own, putV_map, putV_mapc, putL, asg, asgs, chg, upSl, app1, ext1, isLs, isDc, isLD, recv, later, tru_b, lt_ii, gt_ii, le_ii, ge_ii, eq_ii, ne_ii, at_0, at_1, at_2, at_3, add_ll, add_tt, oIdx, dT, small_lt, fin, finR, outs, callV, callS, ghEnv]) rfl (law_history (k + 3) t q.2 q.1 (g.at_ h1) (g.len q h1))
      have hl2 : (hsl t pr (roomI q.2)).length ≤ pr.length := by
        unfold hsl
        rw [List.length_map]
        exact List.length_filter_le _ _
      have sm : small ((hsl t pr (roomI q.2)).length + 1) = true := small_lt (by omega)
      have gg := get_g t pr (roomI q.2)
      have pg := put_g t pr q (by omega)
      have dc : isDc (gD t pr) = true := rfl
      have s0 : small 0 = true := by decide
      have s1 : small 1 = true := by decide
      have hv : ev (cal (all.map De.g) (k + 4)) (.bin .Add (.get2 (.var 1) (.var 3) (.lst [])) (.lst [(.call 22 [(.var 0), (.var 2)])])) (ghEnv (enc t) (gD t pr) (some (pd q.1)) (some (.int (roomI q.2)))) = .ok (true, .list ((hsl t pr (roomI q.2)).map hD ++ [hD (hist t q)])) (ghEnv (enc t) (gD t pr) (some (pd q.1)) (some (.int (roomI q.2)))) := by
        have h2 : ev (cal (all.map De.g) (k + 4)) (.get2 (.var 1) (.var 3) (.lst [])) (ghEnv (enc t) (gD t pr) (some (pd q.1)) (some (.int (roomI q.2)))) = .ok (false, gV t pr (roomI q.2)) (ghEnv (enc t) (gD t pr) (some (pd q.1)) (some (.int (roomI q.2)))) := by
          simp [st_nil, st_cons, st_set, st_par, st_unp, st_put, st_app, st_ext, st_expr, st_ret, st_ite, st_pass, evL_nil, evL_cons, evs_nil, evs_cons, ev_var, ev_cst, ev_glob, ev_tup, ev_lst, ev_dic, ev_bin, ev_cmp, ev_chn, ev_band, ev_bor, ev_not, ev_neg, ev_ite, ev_blt, ev_blt2, ev_isi, ev_idx, ev_slc, ev_rev, ev_pop, ev_get, ev_get2, ev_index, two, brw, Ex.var?, valOf, Rs.bind, Rs.of, Rs.ou, Ou.nxt, nw, ol, slOf, nxO, rd, frz, Sl.d, putV_none, putV_val, putV_own, putV_map, putV_mapc, putL, asg, asgs, chg, upSl, app1, ext1, isLs, isDc, isLD, recv, later, tru_b, lt_ii, gt_ii, le_ii, ge_ii, eq_ii, ne_ii, at_0, at_1, at_2, at_3, add_ll, add_tt, oIdx, dT, small_lt, fin, finR, outs, callV, callS, ghEnv, dc, gg, -isDc]
        have h3 : ev (cal (all.map De.g) (k + 4)) (.lst [(.call 22 [(.var 0), (.var 2)])]) (ghEnv (enc t) (gD t pr) (some (pd q.1)) (some (.int (roomI q.2)))) = .ok (true, .list [hD (hist t q)]) (ghEnv (enc t) (gD t pr) (some (pd q.1)) (some (.int (roomI q.2)))) := by
          rw [ev_lst, evs_cons, c1, v_ok, b_ok, evs_nil, b_ok, b_ok]
          exact if_pos s1
        rw [ev_bin, two, show (Ex.get2 (.var 1) (.var 3) (.lst [])).var? = none from rfl]
        dsimp only
        rw [h2, v_ok, b_ok, brw, va_lst]
        dsimp only
        rw [h3, v_ok, b_ok, b_ok]
        dsimp only
        rw [gV, add_ll (by simpa using sm)]
        rfl
      dsimp only
      rw [ghBody, st_cons, st_put, hv, v_ok, ou_ok]
      simp [st_nil, st_cons, st_set, st_par, st_unp, st_put, st_app, st_ext, st_expr, st_ret, st_ite, st_pass, evL_nil, evL_cons, evs_nil, evs_cons, ev_var, ev_cst, ev_glob, ev_tup, ev_lst, ev_dic, ev_bin, ev_cmp, ev_chn, ev_band, ev_bor, ev_not, ev_neg, ev_ite, ev_blt, ev_blt2, ev_isi, ev_idx, ev_slc, ev_rev, ev_pop, ev_get, ev_get2, ev_index, two, brw, Ex.var?, valOf, Rs.bind, Rs.of, Rs.ou, Ou.nxt, nw, ol, slOf, nxO, rd, frz, Sl.d, putV_none, putV_val, putV_own, putV_map, putV_mapc, putL, asg, asgs, chg, upSl, app1, ext1, isLs, isDc, isLD, recv, later, tru_b, lt_ii, gt_ii, le_ii, ge_ii, eq_ii, ne_ii, at_0, at_1, at_2, at_3, add_ll, add_tt, oIdx, dT, small_lt, fin, finR, outs, callV, callS, ghEnv, pg]) (ghEnv (enc t) (gD t []) none none) ⟨none, none, rfl⟩
  have q2 : ex1 (cal (all.map De.g) (k + 4)) (.for_ (.t [(.v 2), (.v 3)]) .it [(.call 21 [(.var 0)])] ghBody) (ghEnv (enc t) (gD t []) none none) = .nx e' := by
    rw [ex1]
    have cl : ev (cal (all.map De.g) (k + 4)) (.call 21 [(.var 0)]) (ghEnv (enc t) (gD t []) none none) = .ok (false, .list ((owns t).map fun q => .tuple [pd q.1, .int (roomI q.2)])) (ghEnv (enc t) (gD t []) none none) :=
      ev_call (n := 1) (ds := [enc t]) rfl (by simp [st_nil, st_cons, st_set, st_par, st_unp, st_put, st_app, st_ext, st_expr, st_ret, st_ite, st_pass, evL_nil, evL_cons, evs_nil, evs_cons, ev_var, ev_cst, ev_glob, ev_tup, ev_lst, ev_dic, ev_bin, ev_cmp, ev_chn, ev_band, ev_bor, ev_not, ev_neg, ev_ite, ev_blt, ev_blt2, ev_isi, ev_idx, ev_slc, ev_rev, ev_pop, ev_get, ev_get2, ev_index, two, brw, Ex.var?, valOf, Rs.bind, Rs.of, Rs.ou, Ou.nxt, nw, ol, slOf, nxO, rd, frz, Sl.d, putV_none, putV_val, putV_own, putV_map, putV_mapc, putL, asg, asgs, chg, upSl, app1, ext1, isLs, isDc, isLD, recv, later, tru_b, lt_ii, gt_ii, le_ii, ge_ii, eq_ii, ne_ii, at_0, at_1, at_2, at_3, add_ll, add_tt, oIdx, dT, small_lt, fin, finR, outs, callV, callS, ghEnv]) rfl (law_owns k t g h.okA)
    rw [evs_cons, cl, v_ok, b_ok, evs_nil, b_ok, ou_ok]
    exact lp
  rw [st_cons, q1, nxt_nx, st_cons, q2, nxt_nx, he]
  simp [st_nil, st_cons, st_set, st_par, st_unp, st_put, st_app, st_ext, st_expr, st_ret, st_ite, st_pass, evL_nil, evL_cons, evs_nil, evs_cons, ev_var, ev_cst, ev_glob, ev_tup, ev_lst, ev_dic, ev_bin, ev_cmp, ev_chn, ev_band, ev_bor, ev_not, ev_neg, ev_ite, ev_blt, ev_blt2, ev_isi, ev_idx, ev_slc, ev_rev, ev_pop, ev_get, ev_get2, ev_index, two, brw, Ex.var?, valOf, Rs.bind, Rs.of, Rs.ou, Ou.nxt, nw, ol, slOf, nxO, rd, frz, Sl.d, putV_none, putV_val, putV_own, putV_map, putV_mapc, putL, asg, asgs, chg, upSl, app1, ext1, isLs, isDc, isLD, recv, later, tru_b, lt_ii, gt_ii, le_ii, ge_ii, eq_ii, ne_ii, at_0, at_1, at_2, at_3, add_ll, add_tt, oIdx, dT, small_lt, fin, finR, outs, callV, callS, ghEnv, d__law_histories]
/-! ### the rooms, ascending -/
def Rm (t : Tr) : List Int := (rs (owns t)).mergeSort fun a b => decide (a ≤ b)
theorem Rm_mem {t : Tr} {r : Int} : r ∈ Rm t ↔ r ∈ rs (owns t) := (List.mergeSort_perm _ _).mem_iff
theorem Rm_len {t : Tr} (h : LT t) : (Rm t).length ≤ 60 := by
  have h1 := rs_len (owns t) []
  have h2 := h.owns64
  unfold Rm
  rw [(List.mergeSort_perm _ _).length_eq]
  have : (rs (owns t)).length ≤ [].length + (owns t).length := h1
  simp at this
  omega
theorem hs_of {t : Tr} {r : Int} (h : r ∈ Rm t) : hs t r ≠ [] := by
  obtain ⟨q, hq, e⟩ := rs_mem.mp (Rm_mem.mp h)
  intro z
  have : hist t q ∈ hs t r := List.mem_map_of_mem (List.mem_filter.mpr ⟨hq, decide_eq_true e⟩)
  rw [z] at this
  cases this
theorem rooms_of' (k : Nat) (t : Tr) (h : LT t) : run (all.map De.g) (k + 3) 4 [enc t] = .ret (.tuple ((Rm t).map PyData.int)) [] := by
  rw [rooms_of k t h.good]
  have := rs_once (owns t) []
  simp only [List.map_nil, List.nil_append] at this
  rw [← this, sort_map]
  rfl
theorem sorted_g (t : Tr) : oB .sorted [gD t (owns t)] = some (.list ((Rm t).map PyData.int)) := by
  have e : ((rs (owns t)).map fun r => (PyData.int r, gV t (owns t) r)).map (·.1) = (rs (owns t)).map PyData.int := by
    rw [List.map_map]
    rfl
  show oSort (((rs (owns t)).map fun r => (PyData.int r, gV t (owns t) r)).map (·.1)) = _
  rw [e]
  unfold oSort
  rw [sortable_ints, if_pos rfl, sort_map]
  rfl
/-- is a room forgotten? -/
def isF (t : Tr) (r : Int) : Bool := decide (1 < kinds (hs t r))
def Fg (t : Tr) : List Int := (Rm t).filter (isF t)
theorem law_forgotten (k : Nat) (t : Tr) (h : LT t) : run (all.map De.g) (k + 6) 24 [enc t] = .ret (.list ((Fg t).map PyData.int)) [] := by
  rw [run_def (g := d__law_forgotten.g) rfl rfl]
  show fin d__law_forgotten.g (exs (cal (all.map De.g) (k + 5)) b__law_forgotten [some (.val (enc t)), none, none]) = _
  have q1 : ex1 (cal (all.map De.g) (k + 5)) (.set 1 (.call 23 [(.var 0)])) [some (.val (enc t)), none, none] = .nx [some (.val (enc t)), some (.val (gD t (owns t))), none] := by
    rw [st_set, call_0 rfl rfl (law_histories k t h) rfl]
    rfl
  have so := sorted_g t
  have hit : ev (cal (all.map De.g) (k + 5)) (.blt .sorted (.var 1)) [some (.val (enc t)), some (.val (gD t (owns t))), none] = .ok (true, .list ((Rm t).map PyData.int)) [some (.val (enc t)), some (.val (gD t (owns t))), none] := by
    rw [ev_blt, brw, va_var]
    dsimp only
    rw [show rd 1 [some (.val (enc t)), some (.val (gD t (owns t))), none] = some (gD t (owns t)) from rfl, of_some, b_ok, so]
    rfl
  have cm := comp_gi (c := cal (all.map De.g) (k + 5)) (own := [2]) (tg := .v 2) (sr := .it) (elt := .var 2) (cond := .cmp .Gt (.blt .lenSet (.idx (.var 1) (.var 2))) (.cst (.int 1))) (env0 := [some (.val (enc t)), some (.val (gD t (owns t))), none]) (W := Rm t) (P := isF t) (en := PyData.int) (out := PyData.int) rfl hit rfl rfl (by have := Rm_len h; omega) fun r hr => by
    have ix := idx_g (t := t) (Rm_mem.mp hr)
    have ls : oB .lenSet [gV t (owns t) r] = some (.int (kinds (hs t r) : Nat)) := lset_h (hs t r) (hs_len h r)
    refine ⟨[some (.val (enc t)), some (.val (gD t (owns t))), some (.val (.int r))], rfl, rfl, ?_, fun _ => by simp [st_nil, st_cons, st_set, st_par, st_unp, st_put, st_app, st_ext, st_expr, st_ret, st_ite, st_pass, evL_nil, evL_cons, evs_nil, evs_cons, ev_var, ev_cst, ev_glob, ev_tup, ev_lst, ev_dic, ev_bin, ev_cmp, ev_chn, ev_band, ev_bor, ev_not, ev_neg, ev_ite, ev_blt, ev_blt2, ev_isi, ev_idx, ev_slc, ev_rev, ev_pop, ev_get, ev_get2, ev_index, two, brw, Ex.var?, valOf, Rs.bind, Rs.of, Rs.ou, Ou.nxt, nw, ol, slOf, nxO, rd, frz, Sl.d, putV_none, putV_val, putV_own, putV_map, putV_mapc, putL, asg, asgs, chg, upSl, app1, ext1, isLs, isDc, isLD, recv, later, tru_b, lt_ii, gt_ii, le_ii, ge_ii, eq_ii, ne_ii, at_0, at_1, at_2, at_3, add_ll, add_tt, oIdx, dT, small_lt, fin, finR, outs, callV, callS]⟩
    have h1 : ev (cal (all.map De.g) (k + 5)) (.idx (.var 1) (.var 2)) [some (.val (enc t)), some (.val (gD t (owns t))), some (.val (.int r))] = .ok (false, gV t (owns t) r) [some (.val (enc t)), some (.val (gD t (owns t))), some (.val (.int r))] := by
      simp [st_nil, st_cons, st_set, st_par, st_unp, st_put, st_app, st_ext, st_expr, st_ret, st_ite, st_pass, evL_nil, evL_cons, evs_nil, evs_cons, ev_var, ev_cst, ev_glob, ev_tup, ev_lst, ev_dic, ev_bin, ev_cmp, ev_chn, ev_band, ev_bor, ev_not, ev_neg, ev_ite, ev_blt, ev_blt2, ev_isi, ev_idx, ev_slc, ev_rev, ev_pop, ev_get, ev_get2, ev_index, two, brw, Ex.var?, valOf, Rs.bind, Rs.of, Rs.ou, Ou.nxt, nw, ol, slOf, nxO, rd, frz, Sl.d, putV_none, putV_val, putV_own, putV_map, putV_mapc, putL, asg, asgs, chg, upSl, app1, ext1, isLs, isDc, isLD, recv, later, tru_b, lt_ii, gt_ii, le_ii, ge_ii, eq_ii, ne_ii, at_0, at_1, at_2, at_3, add_ll, add_tt, oIdx, dT, small_lt, fin, finR, outs, callV, callS, ix, -oIdx]
    have h2 : ev (cal (all.map De.g) (k + 5)) (.blt .lenSet (.idx (.var 1) (.var 2))) [some (.val (enc t)), some (.val (gD t (owns t))), some (.val (.int r))] = .ok (false, .int (kinds (hs t r) : Nat)) [some (.val (enc t)), some (.val (gD t (owns t))), some (.val (.int r))] := by
      rw [ev_blt, brw, va_idx]
      dsimp only
      rw [h1, v_ok, b_ok, ls]
      rfl
    rw [brw, va_cmp]
    dsimp only
    rw [ev_cmp, two, va_blt]
    dsimp only
    rw [h2, v_ok, b_ok, brw, va_cst]
    dsimp only
    rw [ev_cst, v_ok, b_ok, b_ok]
    dsimp only
    rw [gt_ii]
    have e : decide ((1 : Int) < ((kinds (hs t r) : Nat) : Int)) = isF t r := by
      unfold isF
      congr 1
      exact propext (by omega)
    rw [e]
    rfl
  rw [b__law_forgotten, st_cons, q1, nxt_nx, st_cons, st_ret, cm, v_ok, ou_ok, rt_nxt]
  rfl
end Rv.k08
end
section
/-! k08, mathematics 29: what the program tells of forgetting; pairs. -/
namespace Rv.k08
open PySem Rv
def ffD (t : Tr) : D := match Fg t with
  | [] => .none
  | r :: _ => .int r
def ffE (T : D) (x : Option D) : Env := [some (.val T), x.map Sl.val]
def ffBody : List Sm := [.ite (.cmp .Gt (.blt .len (.call 6 [(.var 0), (.var 1)])) (.cst (.int 1))) [.ret (.var 1)] []]
theorem len_ms (l : List Hi) : oB .len [.list ((l.map hD).mergeSort dle)] = some (.int (l.length : Nat)) := by
  show some (PyData.int (((l.map hD).mergeSort dle).length : Nat)) = _
  rw [(List.mergeSort_perm _ _).length_eq, List.length_map]
theorem ff_turn (k : Nat) (t : Tr) (h : LT t) (r : Int) (hr : r ∈ Rm t) : exs (cal (all.map De.g) (k + 4)) ffBody (ffE (enc t) (some (.int r))) = if isF t r then .rt (.int r) (ffE (enc t) (some (.int r))) else .nx (ffE (enc t) (some (.int r))) := by
  have c6 : ev (cal (all.map De.g) (k + 4)) (.call 6 [.var 0, .var 1]) (ffE (enc t) (some (.int r))) = .ok (false, .list (((onceH [] (hs t r)).map hD).mergeSort dle)) (ffE (enc t) (some (.int r))) :=
    ev_call (n := 2) (ds := [enc t, .int r]) rfl (by simp [st_nil, st_cons, st_set, st_par, st_unp, st_put, st_app, st_ext, st_expr, st_ret, st_ite, st_pass, evL_nil, evL_cons, evs_nil, evs_cons, ev_var, ev_cst, ev_glob, ev_tup, ev_lst, ev_dic, ev_bin, ev_cmp, ev_chn, ev_band, ev_bor, ev_not, ev_neg, ev_ite, ev_blt, ev_blt2, ev_isi, ev_idx, ev_slc, ev_rev, ev_pop, ev_get, ev_get2, ev_index, two, brw, Ex.var?, valOf, Rs.bind, Rs.of, Rs.ou, Ou.nxt, nw, ol, slOf, nxO, rd, frz, Sl.d, putV_none, putV_val, putV_own, putV_map, putV_mapc, putL, asg, asgs, chg, upSl, app1, ext1, isLs, isDc, isLD, recv, later, tru_b, lt_ii, gt_ii, le_ii, ge_ii, eq_ii, ne_ii, at_0, at_1, at_2, at_3, add_ll, add_tt, oIdx, dT, small_lt, fin, finR, outs, callV, callS, ffE]) rfl (histories_in k t h r (hs_of hr))
  have ls := len_ms (onceH [] (hs t r))
  have h2 : ev (cal (all.map De.g) (k + 4)) (.blt .len (.call 6 [.var 0, .var 1])) (ffE (enc t) (some (.int r))) = .ok (false, .int (kinds (hs t r) : Nat)) (ffE (enc t) (some (.int r))) := by
    rw [ev_blt, brw, va_call]
    dsimp only
    rw [c6, v_ok, b_ok, ls]
    rfl
  have e : decide ((1 : Int) < ((kinds (hs t r) : Nat) : Int)) = isF t r := by
    unfold isF
    congr 1
    exact propext (by omega)
  rw [ffBody, st_cons, st_ite, brw, va_cmp]
  dsimp only
  rw [ev_cmp, two, va_blt]
  dsimp only
  rw [h2, v_ok, b_ok, brw, va_cst]
  dsimp only
  rw [ev_cst, v_ok, b_ok, b_ok]
  dsimp only
  rw [gt_ii, e]
  cases isF t r <;> simp [st_nil, st_cons, st_set, st_par, st_unp, st_put, st_app, st_ext, st_expr, st_ret, st_ite, st_pass, evL_nil, evL_cons, evs_nil, evs_cons, ev_var, ev_cst, ev_glob, ev_tup, ev_lst, ev_dic, ev_bin, ev_cmp, ev_chn, ev_band, ev_bor, ev_not, ev_neg, ev_ite, ev_blt, ev_blt2, ev_isi, ev_idx, ev_slc, ev_rev, ev_pop, ev_get, ev_get2, ev_index, two, brw, Ex.var?, valOf, Rs.bind, Rs.of, Rs.ou, Ou.nxt, nw, ol, slOf, nxO, rd, frz, Sl.d, putV_none, putV_val, putV_own, putV_map, putV_mapc, putL, asg, asgs, chg, upSl, app1, ext1, isLs, isDc, isLD, recv, later, tru_b, lt_ii, gt_ii, le_ii, ge_ii, eq_ii, ne_ii, at_0, at_1, at_2, at_3, add_ll, add_tt, oIdx, dT, small_lt, fin, finR, outs, callV, callS, ffE]
theorem ff_loop (k : Nat) (t : Tr) (h : LT t) : ∀ (W : List Int) (x : Option D), (∀ r ∈ W, r ∈ Rm t) → ∃ x', loop (fun x e2 => match asg (.v 1) x e2 with
    | some e3 => exs (cal (all.map De.g) (k + 4)) ffBody e3
    | none => .no) (W.map PyData.int) (ffE (enc t) x) = match W.filter (isF t) with
      | [] => .nx (ffE (enc t) x')
      | r :: _ => .rt (.int r) (ffE (enc t) x')
  | [], x, _ => ⟨x, rfl⟩
  | r :: W, x, hw => by
    have ag : asg (.v 1) (.int r) (ffE (enc t) x) = some (ffE (enc t) (some (.int r))) := putV_map (x := x) rfl
    have tn := ff_turn k t h r (hw r List.mem_cons_self)
    obtain ⟨x', ih⟩ := ff_loop k t h W (some (.int r)) fun q hq => hw q (List.mem_cons_of_mem _ hq)
    rw [List.map_cons, loop, ag]
    dsimp only
    rw [tn, List.filter_cons]
    cases hf : isF t r with
    | true => exact ⟨some (.int r), rfl⟩
    | false => exact ⟨x', ih⟩
theorem first_forgetting (k : Nat) (t : Tr) (h : LT t) : run (all.map De.g) (k + 5) 7 [enc t] = .ret (ffD t) [] := by
  rw [run_def (g := d_first_forgetting.g) rfl rfl]
  show fin d_first_forgetting.g (exs (cal (all.map De.g) (k + 4)) [.for_ (.v 1) .it [(.call 4 [(.var 0)])] ffBody, .ret (.cst .none)] (ffE (enc t) none)) = _
  obtain ⟨x', lp⟩ := ff_loop k t h (Rm t) none fun r hr => hr
  have c4 : ev (cal (all.map De.g) (k + 4)) (.call 4 [.var 0]) (ffE (enc t) none) = .ok (false, .tuple ((Rm t).map PyData.int)) (ffE (enc t) none) := call_0 rfl rfl (rooms_of' (k + 1) t h) rfl
  have q : ex1 (cal (all.map De.g) (k + 4)) (.for_ (.v 1) .it [(.call 4 [(.var 0)])] ffBody) (ffE (enc t) none) = match Fg t with
      | [] => .nx (ffE (enc t) x')
      | r :: _ => .rt (.int r) (ffE (enc t) x') := by
    rw [ex1, evs_cons, c4, v_ok, b_ok, evs_nil, b_ok, ou_ok]
    exact lp
  rw [st_cons, q]
  unfold ffD
  cases Fg t with
  | nil => cases x' <;> simp [st_nil, st_cons, st_set, st_par, st_unp, st_put, st_app, st_ext, st_expr, st_ret, st_ite, st_pass, evL_nil, evL_cons, evs_nil, evs_cons, ev_var, ev_cst, ev_glob, ev_tup, ev_lst, ev_dic, ev_bin, ev_cmp, ev_chn, ev_band, ev_bor, ev_not, ev_neg, ev_ite, ev_blt, ev_blt2, ev_isi, ev_idx, ev_slc, ev_rev, ev_pop, ev_get, ev_get2, ev_index, two, brw, Ex.var?, valOf, Rs.bind, Rs.of, Rs.ou, Ou.nxt, nw, ol, slOf, nxO, rd, frz, Sl.d, putV_none, putV_val, putV_own, putV_map, putV_mapc, putL, asg, asgs, chg, upSl, app1, ext1, isLs, isDc, isLD, recv, later, tru_b, lt_ii, gt_ii, le_ii, ge_ii, eq_ii, ne_ii, at_0, at_1, at_2, at_3, add_ll, add_tt, oIdx, dT, small_lt, fin, finR, outs, callV, callS, ffE, d_first_forgetting]
  | cons r l => cases x' <;> simp [st_nil, st_cons, st_set, st_par, st_unp, st_put, st_app, st_ext, st_expr, st_ret, st_ite, st_pass, evL_nil, evL_cons, evs_nil, evs_cons, ev_var, ev_cst, ev_glob, ev_tup, ev_lst, ev_dic, ev_bin, ev_cmp, ev_chn, ev_band, ev_bor, ev_not, ev_neg, ev_ite, ev_blt, ev_blt2, ev_isi, ev_idx, ev_slc, ev_rev, ev_pop, ev_get, ev_get2, ev_index, two, brw, Ex.var?, valOf, Rs.bind, Rs.of, Rs.ou, Ou.nxt, nw, ol, slOf, nxO, rd, frz, Sl.d, putV_none, putV_val, putV_own, putV_map, putV_mapc, putL, asg, asgs, chg, upSl, app1, ext1, isLs, isDc, isLD, recv, later, tru_b, lt_ii, gt_ii, le_ii, ge_ii, eq_ii, ne_ii, at_0, at_1, at_2, at_3, add_ll, add_tt, oIdx, dT, small_lt, fin, finR, outs, callV, callS, ffE, d_first_forgetting]
theorem does_remember (k : Nat) (t : Tr) (h : LT t) : run (all.map De.g) (k + 6) 8 [enc t] = .ret (.bool (Fg t).isEmpty) [] := by
  rw [run_def (g := d_does_remember.g) rfl rfl]
  show fin d_does_remember.g (exs (cal (all.map De.g) (k + 5)) b_does_remember [some (.val (enc t))]) = _
  have c7 : ev (cal (all.map De.g) (k + 5)) (.call 7 [.var 0]) [some (.val (enc t))] = .ok (false, ffD t) [some (.val (enc t))] := call_0 rfl rfl (first_forgetting k t h) rfl
  have e : oCmp .Is (ffD t) .none = some (.bool (Fg t).isEmpty) := by
    unfold ffD
    cases Fg t <;> rfl
  rw [b_does_remember, st_cons, st_ret, ev_cmp, two, va_call]
  dsimp only
  rw [c7, v_ok, b_ok, brw, va_cst]
  dsimp only
  rw [ev_cst, v_ok, b_ok, b_ok]
  dsimp only
  rw [e]
  rfl
/-! ### histories_of -/
/-- the first own history of a room -/
def h1 (t : Tr) (r : Int) : Hi := (hs t r).headD []
theorem one_h {t : Tr} {r : Int} (hr : r ∈ Rm t) (hf : isF t r = false) : ((onceH [] (hs t r)).map hD).mergeSort dle = [hD (h1 t r)] := by
  unfold isF at hf
  have hk : ¬ 1 < kinds (hs t r) := of_decide_eq_false hf
  have hn := hs_of hr
  unfold h1
  cases e : hs t r with
  | nil => exact absurd e hn
  | cons x l =>
    rw [e] at hk
    rw [kinds_one (by omega), List.map_cons, List.map_nil, List.mergeSort_singleton]
    rfl
theorem noF {t : Tr} (h0 : Fg t = []) {r : Int} (hr : r ∈ Rm t) : isF t r = false := by
  have := List.filter_eq_nil_iff.mp h0 r hr
  simpa using this
def hoD (t : Tr) : D := if Fg t = [] then .tuple ((Rm t).map fun r => hD (h1 t r)) else .none
theorem histories_of (k : Nat) (t : Tr) (h : LT t) : run (all.map De.g) (k + 7) 9 [enc t] = .ret (hoD t) [] := by
  rw [run_def (g := d_histories_of.g) rfl rfl]
  show fin d_histories_of.g (exs (cal (all.map De.g) (k + 6)) b_histories_of [some (.val (enc t)), none]) = _
  have c8 : ev (cal (all.map De.g) (k + 6)) (.call 8 [.var 0]) [some (.val (enc t)), none] = .ok (false, .bool (Fg t).isEmpty) [some (.val (enc t)), none] := call_0 rfl rfl (does_remember k t h) rfl
  have q1 : brw (.not (.call 8 [(.var 0)])) (ev (cal (all.map De.g) (k + 6)) (.not (.call 8 [(.var 0)]))) [some (.val (enc t)), none] = .ok (.bool !(Fg t).isEmpty) [some (.val (enc t)), none] := by
    rw [brw, va_not]
    dsimp only
    rw [ev_not, brw, va_call]
    dsimp only
    rw [c8]
    rfl
  rw [b_histories_of, st_cons, st_ite, q1, ou_ok, tru_b]
  by_cases h0 : Fg t = []
  · have cm := comp_g (c := cal (all.map De.g) (k + 6)) (own := [1]) (tg := .v 1) (sr := .it) (it := .call 4 [.var 0]) (elt := .idx (.call 6 [(.var 0), (.var 1)]) (.cst (.int 0))) (env := [some (.val (enc t)), none]) (env0 := [some (.val (enc t)), none]) (W := Rm t) (en := PyData.int) (out := fun r => hD (h1 t r)) rfl (call_0 rfl rfl (rooms_of' (k + 3) t h) rfl) rfl rfl (by have := Rm_len h; omega) fun r hr => by
      refine ⟨[some (.val (enc t)), some (.val (.int r))], rfl, rfl, ?_⟩
      have c6 : ev (cal (all.map De.g) (k + 6)) (.call 6 [.var 0, .var 1]) [some (.val (enc t)), some (.val (.int r))] = .ok (false, .list (((onceH [] (hs t r)).map hD).mergeSort dle)) [some (.val (enc t)), some (.val (.int r))] :=
        ev_call (n := 2) (ds := [enc t, .int r]) rfl (by simp [st_nil, st_cons, st_set, st_par, st_unp, st_put, st_app, st_ext, st_expr, st_ret, st_ite, st_pass, evL_nil, evL_cons, evs_nil, evs_cons, ev_var, ev_cst, ev_glob, ev_tup, ev_lst, ev_dic, ev_bin, ev_cmp, ev_chn, ev_band, ev_bor, ev_not, ev_neg, ev_ite, ev_blt, ev_blt2, ev_isi, ev_idx, ev_slc, ev_rev, ev_pop, ev_get, ev_get2, ev_index, two, brw, Ex.var?, valOf, Rs.bind, Rs.of, Rs.ou, Ou.nxt, nw, ol, slOf, nxO, rd, frz, Sl.d, putV_none, putV_val, putV_own, putV_map, putV_mapc, putL, asg, asgs, chg, upSl, app1, ext1, isLs, isDc, isLD, recv, later, tru_b, lt_ii, gt_ii, le_ii, ge_ii, eq_ii, ne_ii, at_0, at_1, at_2, at_3, add_ll, add_tt, oIdx, dT, small_lt, fin, finR, outs, callV, callS]) rfl (histories_in (k + 2) t h r (hs_of hr))
      rw [one_h hr (noF h0 hr)] at c6
      have ix : oIdx (.list [hD (h1 t r)]) (.int 0) = some (hD (h1 t r)) := at_0
      rw [ev_idx, two, va_call]
      dsimp only
      rw [c6, v_ok, b_ok, brw, va_cst]
      dsimp only
      rw [ev_cst, v_ok, b_ok, b_ok]
      dsimp only
      rw [ix]
      rfl
    rw [h0]
    show fin _ (exs _ [_] _) = _
    unfold hoD
    rw [if_pos h0, st_cons, st_ret, ev_blt, brw]
    simp only [show ∀ a b c d e, (Ex.comp a b c d e).var? = none from fun _ _ _ _ _ => rfl, cm, v_ok, b_ok]
    rfl
  · have e : (!(Fg t).isEmpty) = true := by
      cases e : Fg t with
      | nil => exact absurd e h0
      | cons a l => rfl
    rw [e]
    unfold hoD
    rw [if_neg h0]
    rfl
/-! ### a pair -/
theorem comp_frz {c : Cal} {own : List Nat} {tg : Tg} {sr : Src} {it : List Ex} {elt cond : Ex} {env env1 : Env} (h : evs c it env = evs c it env1) : ev c (.compIf own tg sr it cond elt) env = ev c (.compIf own tg sr it cond elt) env1 := by
  rw [ev, ev, h]
theorem ne_h (a b : Hi) : oCmp .NotEq (hD a) (hD b) = some (.bool (decide (a ≠ b))) := by
  have : shp2 (hD a) (hD b) = true := by
    unfold shp2
    rw [shp_h, shp_h]
    rfl
  rw [cmp_ne this, eqv_h]
  by_cases c : a = b <;> simp [c]
theorem is_nn : oCmp .Is (.none : D) .none = some (.bool true) := rfl
theorem is_in (i : Int) : oCmp .Is (.int i) .none = some (.bool false) := rfl
def fpE (T r : D) (a : Option Sl) (b c : Option D) : Env := [some (.val T), some (.val r), a, b.map Sl.own, c.map Sl.val]
def pairD (x z : Nd) : D := .tuple [pd x.1, pd z.1]
theorem forgetting_pair (k : Nat) (t : Tr) (h : LT t) : (Fg t = [] ∧ run (all.map De.g) (k + 6) 10 [enc t] = .ret .none []) ∨ ∃ x z, x ∈ owns t ∧ z ∈ owns t ∧ roomI x.2 = roomI z.2 ∧ hist t x ≠ hist t z ∧ Fg t ≠ [] ∧ run (all.map De.g) (k + 6) 10 [enc t] = .ret (pairD x z) [] := by
  have hd : run (all.map De.g) (k + 6) 10 [enc t] = fin d_forgetting_pair.g (exs (cal (all.map De.g) (k + 5)) b_forgetting_pair [some (.val (enc t)), none, none, none, none]) := by
    rw [run_def (g := d_forgetting_pair.g) rfl rfl]
    rfl
  have q1 : ex1 (cal (all.map De.g) (k + 5)) (.set 1 (.call 7 [(.var 0)])) [some (.val (enc t)), none, none, none, none] = .nx (fpE (enc t) (ffD t) none none none) := by
    rw [st_set, call_0 rfl rfl (first_forgetting k t h) rfl]
    rfl
  rw [hd, b_forgetting_pair, st_cons, q1, nxt_nx]
  have g := h.good
  cases e0 : Fg t with
  | nil =>
    left
    refine ⟨rfl, ?_⟩
    have : ffD t = .none := by unfold ffD; rw [e0]
    rw [this]
    simp [st_nil, st_cons, st_set, st_par, st_unp, st_put, st_app, st_ext, st_expr, st_ret, st_ite, st_pass, evL_nil, evL_cons, evs_nil, evs_cons, ev_var, ev_cst, ev_glob, ev_tup, ev_lst, ev_dic, ev_bin, ev_cmp, ev_chn, ev_band, ev_bor, ev_not, ev_neg, ev_ite, ev_blt, ev_blt2, ev_isi, ev_idx, ev_slc, ev_rev, ev_pop, ev_get, ev_get2, ev_index, two, brw, Ex.var?, valOf, Rs.bind, Rs.of, Rs.ou, Ou.nxt, nw, ol, slOf, nxO, rd, frz, Sl.d, putV_none, putV_val, putV_own, putV_map, putV_mapc, putL, asg, asgs, chg, upSl, app1, ext1, isLs, isDc, isLD, recv, later, tru_b, lt_ii, gt_ii, le_ii, ge_ii, eq_ii, ne_ii, at_0, at_1, at_2, at_3, add_ll, add_tt, oIdx, dT, small_lt, fin, finR, outs, callV, callS, fpE, d_forgetting_pair, is_nn]
  | cons r l =>
    right
    have fd : ffD t = .int r := by unfold ffD; rw [e0]
    have hm : r ∈ Fg t := by rw [e0]; exact List.mem_cons_self
    obtain ⟨hr, hF⟩ := List.mem_filter.mp hm
    have hk : 1 < kinds (hs t r) := of_decide_eq_true hF
    cases en : nodesIn t r with
    | nil => exact absurd (by unfold hs; rw [en]; rfl) (hs_of hr)
    | cons x xs =>
      have eh : hs t r = hist t x :: xs.map (hist t) := by unfold hs; rw [en]; rfl
      rw [eh] at hk
      obtain ⟨y, hy, hyx⟩ := kinds_more hk
      obtain ⟨z0, hz0, rfl⟩ := List.mem_map.mp hy
      have hz1 : z0 ∈ (nodesIn t r).filter fun q => decide (hist t q ≠ hist t x) := by
        rw [en]
        exact List.mem_filter.mpr ⟨List.mem_cons_of_mem _ hz0, decide_eq_true hyx⟩
      cases ez : (nodesIn t r).filter fun q => decide (hist t q ≠ hist t x) with
      | nil => rw [ez] at hz1; cases hz1
      | cons z zs =>
        have hz : z ∈ (nodesIn t r).filter fun q => decide (hist t q ≠ hist t x) := by rw [ez]; exact List.mem_cons_self
        obtain ⟨hz2, hz3⟩ := List.mem_filter.mp hz
        have hx2 : x ∈ nodesIn t r := by rw [en]; exact List.mem_cons_self
        obtain ⟨hz4, hz5⟩ := List.mem_filter.mp hz2
        obtain ⟨hx4, hx5⟩ := List.mem_filter.mp hx2
        refine ⟨x, z, hx4, hz4, (of_decide_eq_true hx5).trans (of_decide_eq_true hz5).symm, fun w => of_decide_eq_true hz3 w.symm, by simp, ?_⟩
        have nl : (nodesIn t r).length < 1000000 := by
          have h1 := h.owns64
          have h2 := List.length_filter_le (inRoom r) (owns t)
          unfold nodesIn
          omega
        have cm := comp_gi (c := cal (all.map De.g) (k + 5)) (own := [4]) (tg := .v 4) (sr := .it) (it := .call 1 [.var 0]) (elt := .var 4) (cond := .cmp .Eq (.call 3 [(.var 0), (.var 4)]) (.var 1)) (env := fpE (enc t) (.int r) none none none) (env0 := fpE (enc t) (.int r) none none none) (W := owns t) (P := inRoom r) (en := fun q => pd q.1) (out := fun q => pd q.1) rfl (call_0 rfl rfl (own_nodes_of (k + 3) t g) rfl) rfl rfl (by have := h.owns64; omega) fun q hq => by
          obtain ⟨h1, h2, _⟩ := owns_mem hq
          have c3 := ev_call (c := cal (all.map De.g) (k + 5)) (f := 3) (n := 2) (es := [.var 0, .var 4]) (env := fpE (enc t) (.int r) none none (some (pd q.1))) (e1 := fpE (enc t) (.int r) none none (some (pd q.1))) (ds := [enc t, pd q.1]) rfl (by simp [st_nil, st_cons, st_set, st_par, st_unp, st_put, st_app, st_ext, st_expr, st_ret, st_ite, st_pass, evL_nil, evL_cons, evs_nil, evs_cons, ev_var, ev_cst, ev_glob, ev_tup, ev_lst, ev_dic, ev_bin, ev_cmp, ev_chn, ev_band, ev_bor, ev_not, ev_neg, ev_ite, ev_blt, ev_blt2, ev_isi, ev_idx, ev_slc, ev_rev, ev_pop, ev_get, ev_get2, ev_index, two, brw, Ex.var?, valOf, Rs.bind, Rs.of, Rs.ou, Ou.nxt, nw, ol, slOf, nxO, rd, frz, Sl.d, putV_none, putV_val, putV_own, putV_map, putV_mapc, putL, asg, asgs, chg, upSl, app1, ext1, isLs, isDc, isLD, recv, later, tru_b, lt_ii, gt_ii, le_ii, ge_ii, eq_ii, ne_ii, at_0, at_1, at_2, at_3, add_ll, add_tt, oIdx, dT, small_lt, fin, finR, outs, callV, callS, fpE]) rfl (room_at (k + 3) t q.2 q.1 (g.at_ h1) (g.dep q h1))
          rw [h2] at c3
          refine ⟨fpE (enc t) (.int r) none none (some (pd q.1)), rfl, rfl, ?_, fun _ => by simp [st_nil, st_cons, st_set, st_par, st_unp, st_put, st_app, st_ext, st_expr, st_ret, st_ite, st_pass, evL_nil, evL_cons, evs_nil, evs_cons, ev_var, ev_cst, ev_glob, ev_tup, ev_lst, ev_dic, ev_bin, ev_cmp, ev_chn, ev_band, ev_bor, ev_not, ev_neg, ev_ite, ev_blt, ev_blt2, ev_isi, ev_idx, ev_slc, ev_rev, ev_pop, ev_get, ev_get2, ev_index, two, brw, Ex.var?, valOf, Rs.bind, Rs.of, Rs.ou, Ou.nxt, nw, ol, slOf, nxO, rd, frz, Sl.d, putV_none, putV_val, putV_own, putV_map, putV_mapc, putL, asg, asgs, chg, upSl, app1, ext1, isLs, isDc, isLD, recv, later, tru_b, lt_ii, gt_ii, le_ii, ge_ii, eq_ii, ne_ii, at_0, at_1, at_2, at_3, add_ll, add_tt, oIdx, dT, small_lt, fin, finR, outs, callV, callS, fpE]⟩
          rw [brw, va_cmp]
          dsimp only
          rw [ev_cmp, two, va_call]
          dsimp only
          rw [c3, v_ok, b_ok]
          simp [st_nil, st_cons, st_set, st_par, st_unp, st_put, st_app, st_ext, st_expr, st_ret, st_ite, st_pass, evL_nil, evL_cons, evs_nil, evs_cons, ev_var, ev_cst, ev_glob, ev_tup, ev_lst, ev_dic, ev_bin, ev_cmp, ev_chn, ev_band, ev_bor, ev_not, ev_neg, ev_ite, ev_blt, ev_blt2, ev_isi, ev_idx, ev_slc, ev_rev, ev_pop, ev_get, ev_get2, ev_index, two, brw, Ex.var?, valOf, Rs.bind, Rs.of, Rs.ou, Ou.nxt, nw, ol, slOf, nxO, rd, frz, Sl.d, putV_none, putV_val, putV_own, putV_map, putV_mapc, putL, asg, asgs, chg, upSl, app1, ext1, isLs, isDc, isLD, recv, later, tru_b, lt_ii, gt_ii, le_ii, ge_ii, eq_ii, ne_ii, at_0, at_1, at_2, at_3, add_ll, add_tt, oIdx, dT, small_lt, fin, finR, outs, callV, callS, inRoom, fpE]
        have q2 : ex1 (cal (all.map De.g) (k + 5)) (.set 2 (.compIf [4] (.v 4) .it [(.call 1 [(.var 0)])] (.cmp .Eq (.call 3 [(.var 0), (.var 4)]) (.var 1)) (.var 4))) (fpE (enc t) (.int r) none none none) = .nx (fpE (enc t) (.int r) (some (.own (.list ((nodesIn t r).map fun q => pd q.1)))) none none) := by
          rw [st_set, cm, ou_ok]
          rfl
        have ix : oIdx (.list ((nodesIn t r).map fun q => pd q.1)) (.int 0) = some (pd x.1) := by
          rw [en]
          exact at_0
        have cz := comp_gi (c := cal (all.map De.g) (k + 5)) (own := [4]) (tg := .v 4) (sr := .it) (it := .var 2) (elt := .var 4) (cond := .cmp .NotEq (.call 5 [(.var 0), (.var 4)]) (.call 5 [(.var 0), (.idx (.var 2) (.cst (.int 0)))])) (env := fpE (enc t) (.int r) (some (.val (.list ((nodesIn t r).map fun q => pd q.1)))) none none) (env0 := fpE (enc t) (.int r) (some (.val (.list ((nodesIn t r).map fun q => pd q.1)))) none none) (W := nodesIn t r) (P := fun q => decide (hist t q ≠ hist t x)) (en := fun q => pd q.1) (out := fun q => pd q.1) rfl (by rw [ev_var]; rfl) rfl rfl nl fun q hq => by
          have hq2 := (List.mem_filter.mp hq).1
          obtain ⟨h1, _, _⟩ := owns_mem hq2
          obtain ⟨h2, _, _⟩ := owns_mem hx4
          have c5 := ev_call (c := cal (all.map De.g) (k + 5)) (f := 5) (n := 2) (es := [.var 0, .var 4]) (env := fpE (enc t) (.int r) (some (.val (.list ((nodesIn t r).map fun q => pd q.1)))) none (some (pd q.1))) (e1 := fpE (enc t) (.int r) (some (.val (.list ((nodesIn t r).map fun q => pd q.1)))) none (some (pd q.1))) (ds := [enc t, pd q.1]) rfl (by simp [st_nil, st_cons, st_set, st_par, st_unp, st_put, st_app, st_ext, st_expr, st_ret, st_ite, st_pass, evL_nil, evL_cons, evs_nil, evs_cons, ev_var, ev_cst, ev_glob, ev_tup, ev_lst, ev_dic, ev_bin, ev_cmp, ev_chn, ev_band, ev_bor, ev_not, ev_neg, ev_ite, ev_blt, ev_blt2, ev_isi, ev_idx, ev_slc, ev_rev, ev_pop, ev_get, ev_get2, ev_index, two, brw, Ex.var?, valOf, Rs.bind, Rs.of, Rs.ou, Ou.nxt, nw, ol, slOf, nxO, rd, frz, Sl.d, putV_none, putV_val, putV_own, putV_map, putV_mapc, putL, asg, asgs, chg, upSl, app1, ext1, isLs, isDc, isLD, recv, later, tru_b, lt_ii, gt_ii, le_ii, ge_ii, eq_ii, ne_ii, at_0, at_1, at_2, at_3, add_ll, add_tt, oIdx, dT, small_lt, fin, finR, outs, callV, callS, fpE]) rfl (own_history (k + 2) t q.2 q.1 (by have := h.dep; omega) (g.at_ h1) (g.len q h1))
          have c6 := ev_call (c := cal (all.map De.g) (k + 5)) (f := 5) (n := 2) (es := [.var 0, .idx (.var 2) (.cst (.int 0))]) (env := fpE (enc t) (.int r) (some (.val (.list ((nodesIn t r).map fun q => pd q.1)))) none (some (pd q.1))) (e1 := fpE (enc t) (.int r) (some (.val (.list ((nodesIn t r).map fun q => pd q.1)))) none (some (pd q.1))) (ds := [enc t, pd x.1]) rfl (by simp [st_nil, st_cons, st_set, st_par, st_unp, st_put, st_app, st_ext, st_expr, st_ret, st_ite, st_pass, evL_nil, evL_cons, evs_nil, evs_cons, ev_var, ev_cst, ev_glob, ev_tup, ev_lst, ev_dic, ev_bin, ev_cmp, ev_chn, ev_band, ev_bor, ev_not, ev_neg, ev_ite, ev_blt, ev_blt2, ev_isi, ev_idx, ev_slc, ev_rev, ev_pop, ev_get, ev_get2, ev_index, two, brw, Ex.var?, valOf, Rs.bind, Rs.of, Rs.ou, Ou.nxt, nw, ol, slOf, nxO, rd, frz, Sl.d, putV_none, putV_val, putV_own, putV_map, putV_mapc, putL, asg, asgs, chg, upSl, app1, ext1, isLs, isDc, isLD, recv, later, tru_b, lt_ii, gt_ii, le_ii, ge_ii, eq_ii, ne_ii, at_0, at_1, at_2, at_3, add_ll, add_tt, oIdx, dT, small_lt, fin, finR, outs, callV, callS, fpE, ix, -oIdx]) rfl (own_history (k + 2) t x.2 x.1 (by have := h.dep; omega) (g.at_ h2) (g.len x h2))
          refine ⟨fpE (enc t) (.int r) (some (.val (.list ((nodesIn t r).map fun q => pd q.1)))) none (some (pd q.1)), rfl, rfl, ?_, fun _ => by simp [st_nil, st_cons, st_set, st_par, st_unp, st_put, st_app, st_ext, st_expr, st_ret, st_ite, st_pass, evL_nil, evL_cons, evs_nil, evs_cons, ev_var, ev_cst, ev_glob, ev_tup, ev_lst, ev_dic, ev_bin, ev_cmp, ev_chn, ev_band, ev_bor, ev_not, ev_neg, ev_ite, ev_blt, ev_blt2, ev_isi, ev_idx, ev_slc, ev_rev, ev_pop, ev_get, ev_get2, ev_index, two, brw, Ex.var?, valOf, Rs.bind, Rs.of, Rs.ou, Ou.nxt, nw, ol, slOf, nxO, rd, frz, Sl.d, putV_none, putV_val, putV_own, putV_map, putV_mapc, putL, asg, asgs, chg, upSl, app1, ext1, isLs, isDc, isLD, recv, later, tru_b, lt_ii, gt_ii, le_ii, ge_ii, eq_ii, ne_ii, at_0, at_1, at_2, at_3, add_ll, add_tt, oIdx, dT, small_lt, fin, finR, outs, callV, callS, fpE]⟩
          have nh := ne_h (hist t q) (hist t x)
          rw [brw, va_cmp]
          dsimp only
          rw [ev_cmp, two, va_call]
          dsimp only
          rw [c5, v_ok, b_ok, brw, va_call]
          dsimp only
          rw [c6, v_ok, b_ok, b_ok]
          dsimp only
          rw [show oCmp .NotEq (.tuple ((roomsTo t q.1).map hpair)) (.tuple ((roomsTo t x.1).map hpair)) = _ from nh]
          rfl
        have fz : evs (cal (all.map De.g) (k + 5)) [.var 2] (fpE (enc t) (.int r) (some (.own (.list ((nodesIn t r).map fun q => pd q.1)))) none none) = evs (cal (all.map De.g) (k + 5)) [.var 2] (fpE (enc t) (.int r) (some (.val (.list ((nodesIn t r).map fun q => pd q.1)))) none none) := by
          simp [st_nil, st_cons, st_set, st_par, st_unp, st_put, st_app, st_ext, st_expr, st_ret, st_ite, st_pass, evL_nil, evL_cons, evs_nil, evs_cons, ev_var, ev_cst, ev_glob, ev_tup, ev_lst, ev_dic, ev_bin, ev_cmp, ev_chn, ev_band, ev_bor, ev_not, ev_neg, ev_ite, ev_blt, ev_blt2, ev_isi, ev_idx, ev_slc, ev_rev, ev_pop, ev_get, ev_get2, ev_index, two, brw, Ex.var?, valOf, Rs.bind, Rs.of, Rs.ou, Ou.nxt, nw, ol, slOf, nxO, rd, frz, Sl.d, putV_none, putV_val, putV_own, putV_map, putV_mapc, putL, asg, asgs, chg, upSl, app1, ext1, isLs, isDc, isLD, recv, later, tru_b, lt_ii, gt_ii, le_ii, ge_ii, eq_ii, ne_ii, at_0, at_1, at_2, at_3, add_ll, add_tt, oIdx, dT, small_lt, fin, finR, outs, callV, callS, fpE]
        have q3 : ex1 (cal (all.map De.g) (k + 5)) (.set 3 (.compIf [4] (.v 4) .it [(.var 2)] (.cmp .NotEq (.call 5 [(.var 0), (.var 4)]) (.call 5 [(.var 0), (.idx (.var 2) (.cst (.int 0)))])) (.var 4))) (fpE (enc t) (.int r) (some (.own (.list ((nodesIn t r).map fun q => pd q.1)))) none none) = .nx (fpE (enc t) (.int r) (some (.val (.list ((nodesIn t r).map fun q => pd q.1)))) (some (.list (((nodesIn t r).filter fun q => decide (hist t q ≠ hist t x)).map fun q => pd q.1))) none) := by
          rw [st_set, comp_frz fz, cz, ou_ok]
          rfl
        have iz : oIdx (.list (((nodesIn t r).filter fun q => decide (hist t q ≠ hist t x)).map fun q => pd q.1)) (.int 0) = some (pd z.1) := by
          rw [ez]
          exact at_0
        have q0 : ex1 (cal (all.map De.g) (k + 5)) (.ite (.cmp .Is (.var 1) (.cst .none)) [.ret (.cst .none)] []) (fpE (enc t) (.int r) none none none) = .nx (fpE (enc t) (.int r) none none none) := by
          simp [st_nil, st_cons, st_set, st_par, st_unp, st_put, st_app, st_ext, st_expr, st_ret, st_ite, st_pass, evL_nil, evL_cons, evs_nil, evs_cons, ev_var, ev_cst, ev_glob, ev_tup, ev_lst, ev_dic, ev_bin, ev_cmp, ev_chn, ev_band, ev_bor, ev_not, ev_neg, ev_ite, ev_blt, ev_blt2, ev_isi, ev_idx, ev_slc, ev_rev, ev_pop, ev_get, ev_get2, ev_index, two, brw, Ex.var?, valOf, Rs.bind, Rs.of, Rs.ou, Ou.nxt, nw, ol, slOf, nxO, rd, frz, Sl.d, putV_none, putV_val, putV_own, putV_map, putV_mapc, putL, asg, asgs, chg, upSl, app1, ext1, isLs, isDc, isLD, recv, later, tru_b, lt_ii, gt_ii, le_ii, ge_ii, eq_ii, ne_ii, at_0, at_1, at_2, at_3, add_ll, add_tt, oIdx, dT, small_lt, fin, finR, outs, callV, callS, fpE, is_in]
        rw [fd, st_cons, q0, nxt_nx, st_cons, q2, nxt_nx, st_cons, q3, nxt_nx]
        have s2 : small 2 = true := by decide
        clear q3 q2 cz cm fz
        generalize List.map (fun q : Nd => pd q.1) (List.filter (fun q => decide (hist t q ≠ hist t x)) (nodesIn t r)) = B at iz ⊢
        generalize List.map (fun q : Nd => pd q.1) (nodesIn t r) = A at ix ⊢
        simp [st_nil, st_cons, st_set, st_par, st_unp, st_put, st_app, st_ext, st_expr, st_ret, st_ite, st_pass, evL_nil, evL_cons, evs_nil, evs_cons, ev_var, ev_cst, ev_glob, ev_tup, ev_lst, ev_dic, ev_bin, ev_cmp, ev_chn, ev_band, ev_bor, ev_not, ev_neg, ev_ite, ev_blt, ev_blt2, ev_isi, ev_idx, ev_slc, ev_rev, ev_pop, ev_get, ev_get2, ev_index, two, brw, Ex.var?, valOf, Rs.bind, Rs.of, Rs.ou, Ou.nxt, nw, ol, slOf, nxO, rd, frz, Sl.d, putV_none, putV_val, putV_own, putV_map, putV_mapc, putL, asg, asgs, chg, upSl, app1, ext1, isLs, isDc, isLD, recv, later, tru_b, lt_ii, gt_ii, le_ii, ge_ii, eq_ii, ne_ii, at_0, at_1, at_2, at_3, add_ll, add_tt, oIdx, dT, small_lt, fin, finR, outs, callV, callS, fpE, ix, iz, d_forgetting_pair, pairD, -oIdx, s2]
end Rv.k08
end
section
/-! k08, mathematics 30: paths, looked at; pairs are right. -/
namespace Rv.k08
open PySem Rv
theorem lay_pds : ∀ l : List Nd, PyData.canLayAll0 (l.map fun q => pd q.1) = true
  | [] => rfl
  | q :: l => by
    have hp : (pd q.1).canLay0 = true := by simp [pd, PyData.canLay0, lay_ints]
    rw [List.map_cons, PyData.canLayAll0, hp, lay_pds l]
    rfl
theorem dep_pds : ∀ l : List Nd, PyData.depthAll (l.map fun q => pd q.1) ≤ 1
  | [] => by simp [PyData.depthAll]
  | q :: l => by
    have ih := dep_pds l
    have hp : (pd q.1).depth ≤ 1 := by
      simp only [pd, PyData.depth, depth_ints]
      omega
    rw [List.map_cons, PyData.depthAll]
    omega
theorem in_pds (l : List Nd) (q : Nd) (hq : q ∈ l) : oCmp .In (pd q.1) (.list (l.map fun q => pd q.1)) = some (.bool true) := by
  have h1 : SeqAt.shaped (.list (l.map fun q => pd q.1)) = true := by
    have := dep_pds l
    unfold SeqAt.shaped
    rw [PyData.canLay0, lay_pds, PyData.depth, Bool.true_and, decide_eq_true_eq]
    omega
  have h2 : shp2 (pd q.1) (.list (l.map fun q => pd q.1)) = true := by
    unfold shp2
    rw [h1, shp_path]
    rfl
  have h3 : ((l.map fun q => pd q.1).any fun z => PyData.eqv z (pd q.1)) = true := by
    rw [List.any_eq_true]
    exact ⟨pd q.1, List.mem_map_of_mem (f := fun q : Nd => pd q.1) hq, by rw [eqv_path]; exact decide_eq_true rfl⟩
  show (if shp2 (pd q.1) (.list (l.map fun q => pd q.1)) then some (dT _) else none) = _
  rw [h2, if_pos rfl, h3]
  rfl
theorem ne_nn : oCmp .NotEq (.list []) (.list ([] : List D)) = some (.bool false) := by
  have : shp2 (.list []) (.list ([] : List D)) = true := by decide
  rw [cmp_ne this, ne_nil]
  rfl
def ipE (T P : D) (x : Option D) : Env := [some (.val T), some (.val P), x.map Sl.val, none, none]
def ipE2 (T P : D) (x y : Option D) : Env := [some (.val T), some (.val P), none, x.map Sl.val, y.map Sl.val]
theorem is_path (k : Nat) (t : Tr) (h : LT t) (q : Nd) (hq : q ∈ pre [] t) : run (all.map De.g) (k + 4) 31 [enc t, pd q.1] = .ret (.bool true) [] := by
  rw [run_def (g := d__law_is_path.g) rfl rfl]
  show fin d__law_is_path.g (exs (cal (all.map De.g) (k + 3)) b__law_is_path (ipE (enc t) (pd q.1) none)) = _
  have sm := pre_small [] t h.okn (fun i hi => nomatch hi) q hq
  have len := h.good.len q hq
  have cm := comp_gi (c := cal (all.map De.g) (k + 3)) (own := [2]) (tg := .v 2) (sr := .it) (it := .var 1) (elt := .cst (.int 1)) (cond := .not (.call 15 [(.var 2), (.cst (.int 0)), (.cst (.int 3))])) (env := ipE (enc t) (pd q.1) none) (env0 := ipE (enc t) (pd q.1) none) (b := false) (xs := pd q.1) (W := q.1) (P := fun _ => false) (en := PyData.int) (out := PyData.int) rfl (by rw [ev_var]; rfl) rfl rfl (by omega) fun i hi => by
    obtain ⟨i0, i1⟩ := sm i hi
    have c15 := ev_call (c := cal (all.map De.g) (k + 3)) (f := 15) (n := 3) (es := [(.var 2), (.cst (.int 0)), (.cst (.int 3))]) (env := ipE (enc t) (pd q.1) (some (.int i))) (e1 := ipE (enc t) (pd q.1) (some (.int i))) (ds := [.int i, .int 0, .int 3]) rfl (by simp [st_nil, st_cons, st_set, st_par, st_unp, st_put, st_app, st_ext, st_expr, st_ret, st_ite, st_pass, evL_nil, evL_cons, evs_nil, evs_cons, ev_var, ev_cst, ev_glob, ev_tup, ev_lst, ev_dic, ev_bin, ev_cmp, ev_chn, ev_band, ev_bor, ev_not, ev_neg, ev_ite, ev_blt, ev_blt2, ev_isi, ev_idx, ev_slc, ev_rev, ev_pop, ev_get, ev_get2, ev_index, two, brw, Ex.var?, valOf, Rs.bind, Rs.of, Rs.ou, Ou.nxt, nw, ol, slOf, nxO, rd, frz, Sl.d, putV_none, putV_val, putV_own, putV_map, putV_mapc, putL, asg, asgs, chg, upSl, app1, ext1, isLs, isDc, isLD, recv, later, tru_b, lt_ii, gt_ii, le_ii, ge_ii, eq_ii, ne_ii, at_0, at_1, at_2, at_3, add_ll, add_tt, oIdx, dT, small_lt, fin, finR, outs, callV, callS, ipE]) rfl (whole (k + 2) i 0 3 i0 (by omega))
    refine ⟨ipE (enc t) (pd q.1) (some (.int i)), rfl, rfl, ?_, fun z => nomatch z⟩
    rw [brw, va_not]
    dsimp only
    rw [ev_not, brw, va_call]
    dsimp only
    rw [c15]
    rfl
  have fe : (q.1).filter (fun _ => false) = [] := List.filter_eq_nil_iff.mpr fun _ _ z => nomatch z
  rw [fe, List.map_nil] at cm
  have c19 : ev (cal (all.map De.g) (k + 3)) (.call 19 [.var 0]) (ipE (enc t) (pd q.1) none) = .ok (false, _) (ipE (enc t) (pd q.1) none) := call_0 rfl rfl (law_nodes k t h.good h.okA) rfl
  have cp := comp_g (c := cal (all.map De.g) (k + 3)) (own := [3, 4]) (tg := .t [(.v 3), (.v 4)]) (sr := .it) (it := .call 19 [.var 0]) (elt := .var 3) (env := ipE (enc t) (pd q.1) none) (env0 := ipE (enc t) (pd q.1) none) (W := pre [] t) (en := item) (out := fun q => pd q.1) rfl c19 rfl rfl (by have := h.nodes; omega) fun u _ => ⟨ipE2 (enc t) (pd q.1) (some (pd u.1)) (some (enc u.2)), rfl, rfl, by simp [st_nil, st_cons, st_set, st_par, st_unp, st_put, st_app, st_ext, st_expr, st_ret, st_ite, st_pass, evL_nil, evL_cons, evs_nil, evs_cons, ev_var, ev_cst, ev_glob, ev_tup, ev_lst, ev_dic, ev_bin, ev_cmp, ev_chn, ev_band, ev_bor, ev_not, ev_neg, ev_ite, ev_blt, ev_blt2, ev_isi, ev_idx, ev_slc, ev_rev, ev_pop, ev_get, ev_get2, ev_index, two, brw, Ex.var?, valOf, Rs.bind, Rs.of, Rs.ou, Ou.nxt, nw, ol, slOf, nxO, rd, frz, Sl.d, putV_none, putV_val, putV_own, putV_map, putV_mapc, putL, asg, asgs, chg, upSl, app1, ext1, isLs, isDc, isLD, recv, later, tru_b, lt_ii, gt_ii, le_ii, ge_ii, eq_ii, ne_ii, at_0, at_1, at_2, at_3, add_ll, add_tt, oIdx, dT, small_lt, fin, finR, outs, callV, callS, ipE2]⟩
  have ii := in_pds (pre [] t) q hq
  have s0 : small 0 = true := by decide
  have isT : oIs (pd q.1) .tuple = true := rfl
  have b1 : ev (cal (all.map De.g) (k + 3)) (.not (.isi (.var 1) .tuple)) (ipE (enc t) (pd q.1) none) = .ok (false, .bool false) (ipE (enc t) (pd q.1) none) := by
    simp [st_nil, st_cons, st_set, st_par, st_unp, st_put, st_app, st_ext, st_expr, st_ret, st_ite, st_pass, evL_nil, evL_cons, evs_nil, evs_cons, ev_var, ev_cst, ev_glob, ev_tup, ev_lst, ev_dic, ev_bin, ev_cmp, ev_chn, ev_band, ev_bor, ev_not, ev_neg, ev_ite, ev_blt, ev_blt2, ev_isi, ev_idx, ev_slc, ev_rev, ev_pop, ev_get, ev_get2, ev_index, two, brw, Ex.var?, valOf, Rs.bind, Rs.of, Rs.ou, Ou.nxt, nw, ol, slOf, nxO, rd, frz, Sl.d, putV_none, putV_val, putV_own, putV_map, putV_mapc, putL, asg, asgs, chg, upSl, app1, ext1, isLs, isDc, isLD, recv, later, tru_b, lt_ii, gt_ii, le_ii, ge_ii, eq_ii, ne_ii, at_0, at_1, at_2, at_3, add_ll, add_tt, oIdx, dT, small_lt, fin, finR, outs, callV, callS, ipE, isT, -oIs]
  have b2 : ev (cal (all.map De.g) (k + 3)) (.cmp .NotEq (.compIf [2] (.v 2) .it [(.var 1)] (.not (.call 15 [(.var 2), (.cst (.int 0)), (.cst (.int 3))])) (.cst (.int 1))) (.lst [])) (ipE (enc t) (pd q.1) none) = .ok (false, .bool false) (ipE (enc t) (pd q.1) none) := by
    rw [ev_cmp, two, va_compIf]
    dsimp only
    rw [cm, v_ok, b_ok, brw, va_lst]
    dsimp only
    rw [ev_lst, evs_nil, b_ok]
    simp only [List.length_nil, s0, if_true, v_ok, b_ok, ne_nn, ol, Option.map_some, of_some]
  have q1 : ex1 (cal (all.map De.g) (k + 3)) (.ite (.bor (.not (.isi (.var 1) .tuple)) (.cmp .NotEq (.compIf [2] (.v 2) .it [(.var 1)] (.not (.call 15 [(.var 2), (.cst (.int 0)), (.cst (.int 3))])) (.cst (.int 1))) (.lst []))) [.ret (.cst (.bool false))] []) (ipE (enc t) (pd q.1) none) = .nx (ipE (enc t) (pd q.1) none) := by
    rw [st_ite, brw, show ∀ a b, (Ex.bor a b).var? = none from fun _ _ => rfl]
    dsimp only
    rw [ev_bor, b1, v_ok, b_ok, tru_b]
    dsimp only
    rw [b2]
    rfl
  rw [b__law_is_path, st_cons, q1, nxt_nx, st_cons, st_ret, ev_cmp, two, va_var]
  dsimp only
  rw [show rd 1 (ipE (enc t) (pd q.1) none) = some (pd q.1) from rfl, of_some, b_ok, brw, va_comp]
  dsimp only
  rw [cp, v_ok, b_ok, show rd 1 (ipE (enc t) (pd q.1) none) = some (pd q.1) from rfl, Option.map_some, of_some, b_ok]
  dsimp only
  rw [ii]
  rfl
theorem is_own_path (k : Nat) (t : Tr) (h : LT t) (q : Nd) (hq : q ∈ owns t) : run (all.map De.g) (k + 5) 30 [enc t, pd q.1] = .ret (.bool true) [] := by
  rw [run_def (g := d__law_is_own_path.g) rfl rfl]
  show fin d__law_is_own_path.g (exs (cal (all.map De.g) (k + 4)) b__law_is_own_path [some (.val (enc t)), some (.val (pd q.1)), none, none]) = _
  have c31 := ev_call (c := cal (all.map De.g) (k + 4)) (f := 31) (n := 2) (es := [.var 0, .var 1]) (env := [some (.val (enc t)), some (.val (pd q.1)), none, none]) (e1 := [some (.val (enc t)), some (.val (pd q.1)), none, none]) (ds := [enc t, pd q.1]) rfl (by simp [st_nil, st_cons, st_set, st_par, st_unp, st_put, st_app, st_ext, st_expr, st_ret, st_ite, st_pass, evL_nil, evL_cons, evs_nil, evs_cons, ev_var, ev_cst, ev_glob, ev_tup, ev_lst, ev_dic, ev_bin, ev_cmp, ev_chn, ev_band, ev_bor, ev_not, ev_neg, ev_ite, ev_blt, ev_blt2, ev_isi, ev_idx, ev_slc, ev_rev, ev_pop, ev_get, ev_get2, ev_index, two, brw, Ex.var?, valOf, Rs.bind, Rs.of, Rs.ou, Ou.nxt, nw, ol, slOf, nxO, rd, frz, Sl.d, putV_none, putV_val, putV_own, putV_map, putV_mapc, putL, asg, asgs, chg, upSl, app1, ext1, isLs, isDc, isLD, recv, later, tru_b, lt_ii, gt_ii, le_ii, ge_ii, eq_ii, ne_ii, at_0, at_1, at_2, at_3, add_ll, add_tt, oIdx, dT, small_lt, fin, finR, outs, callV, callS]) rfl (is_path k t h q (owns_mem hq).1)
  have c21 : ev (cal (all.map De.g) (k + 4)) (.call 21 [.var 0]) [some (.val (enc t)), some (.val (pd q.1)), none, none] = .ok (false, _) [some (.val (enc t)), some (.val (pd q.1)), none, none] := call_0 rfl rfl (law_owns k t h.good h.okA) rfl
  have cp := comp_g (c := cal (all.map De.g) (k + 4)) (own := [2, 3]) (tg := .t [(.v 2), (.v 3)]) (sr := .it) (it := .call 21 [.var 0]) (elt := .var 2) (env := [some (.val (enc t)), some (.val (pd q.1)), none, none]) (env0 := [some (.val (enc t)), some (.val (pd q.1)), none, none]) (W := owns t) (en := fun q => .tuple [pd q.1, .int (roomI q.2)]) (out := fun q => pd q.1) rfl c21 rfl rfl (by have := h.owns64; omega) fun u _ => ⟨[some (.val (enc t)), some (.val (pd q.1)), some (.val (pd u.1)), some (.val (.int (roomI u.2)))], rfl, rfl, by simp [st_nil, st_cons, st_set, st_par, st_unp, st_put, st_app, st_ext, st_expr, st_ret, st_ite, st_pass, evL_nil, evL_cons, evs_nil, evs_cons, ev_var, ev_cst, ev_glob, ev_tup, ev_lst, ev_dic, ev_bin, ev_cmp, ev_chn, ev_band, ev_bor, ev_not, ev_neg, ev_ite, ev_blt, ev_blt2, ev_isi, ev_idx, ev_slc, ev_rev, ev_pop, ev_get, ev_get2, ev_index, two, brw, Ex.var?, valOf, Rs.bind, Rs.of, Rs.ou, Ou.nxt, nw, ol, slOf, nxO, rd, frz, Sl.d, putV_none, putV_val, putV_own, putV_map, putV_mapc, putL, asg, asgs, chg, upSl, app1, ext1, isLs, isDc, isLD, recv, later, tru_b, lt_ii, gt_ii, le_ii, ge_ii, eq_ii, ne_ii, at_0, at_1, at_2, at_3, add_ll, add_tt, oIdx, dT, small_lt, fin, finR, outs, callV, callS]⟩
  have ii := in_pds (owns t) q hq
  rw [b__law_is_own_path, st_cons, st_ret, ev_band, c31, v_ok, b_ok, tru_b]
  dsimp only
  rw [ev_cmp, two, va_var]
  dsimp only
  rw [show rd 1 [some (.val (enc t)), some (.val (pd q.1)), none, none] = some (pd q.1) from rfl, of_some, b_ok, brw, va_comp]
  dsimp only
  rw [cp, v_ok, b_ok, show rd 1 [some (.val (enc t)), some (.val (pd q.1)), none, none] = some (pd q.1) from rfl, Option.map_some, of_some, b_ok]
  dsimp only
  rw [ii]
  rfl
theorem is_tuple2 (k : Nat) (a b : D) : run (all.map De.g) (k + 1) 17 [.tuple [a, b], .int 2] = .ret (.bool true) [] := by
  rw [run_def (g := d__law_is_tuple.g) rfl rfl]
  show fin d__law_is_tuple.g (exs _ b__law_is_tuple [some (.val (.tuple [a, b])), some (.val (.int 2))]) = _
  simp [b__law_is_tuple, exs, ex1, ev, two, brw, va_var, va_blt, va_isi, rd, Rs.of, Rs.bind, Sl.d, valOf, nw, ol, oB, isLD, oIs, dT, tru, cmp_eq (shp_int 2 2), eqv_i, Rs.ou, Ou.nxt, fin, finR, d__law_is_tuple, outs]
/-! ### _law_pair_right -/
theorem eq_rooms (l : List Int) : oCmp .Eq (.list (l.map PyData.int)) (.list []) = some (.bool l.isEmpty) := by
  rw [cmp_eq (shp_gs l), ne_nil]
  cases l <;> rfl
theorem right_none (k : Nat) (t : Tr) : run (all.map De.g) (k + 6) 35 [enc t, .list (([] : List Int).map PyData.int), .none] = .ret (.bool true) [] := by
  rw [run_def (g := d__law_pair_right.g) rfl rfl]
  show fin d__law_pair_right.g (exs (cal (all.map De.g) (k + 5)) b__law_pair_right [some (.val (enc t)), some (.val (.list [])), some (.val .none), none]) = _
  have e : oCmp .Eq (.list []) (.list ([] : List D)) = some (.bool true) := eq_rooms []
  have s0 : small 0 = true := by decide
  have b1 : ev (cal (all.map De.g) (k + 5)) (.cmp .Eq (.var 1) (.lst [])) [some (.val (enc t)), some (.val (.list [])), some (.val .none), none] = .ok (false, .bool true) [some (.val (enc t)), some (.val (.list [])), some (.val .none), none] := by
    simp [st_nil, st_cons, st_set, st_par, st_unp, st_put, st_app, st_ext, st_expr, st_ret, st_ite, st_pass, evL_nil, evL_cons, evs_nil, evs_cons, ev_var, ev_cst, ev_glob, ev_tup, ev_lst, ev_dic, ev_bin, ev_cmp, ev_chn, ev_band, ev_bor, ev_not, ev_neg, ev_ite, ev_blt, ev_blt2, ev_isi, ev_idx, ev_slc, ev_rev, ev_pop, ev_get, ev_get2, ev_index, two, brw, Ex.var?, valOf, Rs.bind, Rs.of, Rs.ou, Ou.nxt, nw, ol, slOf, nxO, rd, frz, Sl.d, putV_none, putV_val, putV_own, putV_map, putV_mapc, putL, asg, asgs, chg, upSl, app1, ext1, isLs, isDc, isLD, recv, later, tru_b, lt_ii, gt_ii, le_ii, ge_ii, eq_ii, ne_ii, at_0, at_1, at_2, at_3, add_ll, add_tt, oIdx, dT, small_lt, fin, finR, outs, callV, callS, e, s0]
  have b2 : ev (cal (all.map De.g) (k + 5)) (.cmp .Is (.var 2) (.cst .none)) [some (.val (enc t)), some (.val (.list [])), some (.val .none), none] = .ok (false, .bool true) [some (.val (enc t)), some (.val (.list [])), some (.val .none), none] := by
    simp [st_nil, st_cons, st_set, st_par, st_unp, st_put, st_app, st_ext, st_expr, st_ret, st_ite, st_pass, evL_nil, evL_cons, evs_nil, evs_cons, ev_var, ev_cst, ev_glob, ev_tup, ev_lst, ev_dic, ev_bin, ev_cmp, ev_chn, ev_band, ev_bor, ev_not, ev_neg, ev_ite, ev_blt, ev_blt2, ev_isi, ev_idx, ev_slc, ev_rev, ev_pop, ev_get, ev_get2, ev_index, two, brw, Ex.var?, valOf, Rs.bind, Rs.of, Rs.ou, Ou.nxt, nw, ol, slOf, nxO, rd, frz, Sl.d, putV_none, putV_val, putV_own, putV_map, putV_mapc, putL, asg, asgs, chg, upSl, app1, ext1, isLs, isDc, isLD, recv, later, tru_b, lt_ii, gt_ii, le_ii, ge_ii, eq_ii, ne_ii, at_0, at_1, at_2, at_3, add_ll, add_tt, oIdx, dT, small_lt, fin, finR, outs, callV, callS, is_nn]
  rw [b__law_pair_right, st_cons, st_ite, brw, show ∀ a b, (Ex.bor a b).var? = none from fun _ _ => rfl]
  dsimp only
  rw [ev_bor, b1, v_ok, b_ok, tru_b]
  show fin _ ((exs _ [_] _).nxt _) = _
  rw [st_cons, st_ret, ev_band, b1, v_ok, b_ok, tru_b]
  dsimp only
  rw [b2]
  rfl
def prE (T R : D) (x z : Nd) (d : Option Sl) : Env := [some (.val T), some (.val R), some (.val (pairD x z)), d]
theorem ix_0 (x z : Nd) : oIdx (pairD x z) (.int 0) = some (pd x.1) := at_0
theorem ix_1 (x z : Nd) : oIdx (pairD x z) (.int 1) = some (pd z.1) := at_1
theorem right_pair (k : Nat) (t : Tr) (h : LT t) (x z : Nd) (hx : x ∈ owns t) (hz : z ∈ owns t) (hr : roomI x.2 = roomI z.2) (hh : hist t x ≠ hist t z) (rs : List Int) (hrs : rs ≠ []) : run (all.map De.g) (k + 7) 35 [enc t, .list (rs.map PyData.int), pairD x z] = .ret (.bool true) [] := by
  rw [run_def (g := d__law_pair_right.g) rfl rfl]
  show fin d__law_pair_right.g (exs (cal (all.map De.g) (k + 6)) b__law_pair_right (prE (enc t) (.list (rs.map PyData.int)) x z none)) = _
  have e := eq_rooms rs
  have em : rs.isEmpty = false := by
    cases rs with
    | nil => exact absurd rfl hrs
    | cons _ _ => rfl
  rw [em] at e
  have i0 := ix_0 x z
  have i1 := ix_1 x z
  have s0 : small 0 = true := by decide
  have b1 : ev (cal (all.map De.g) (k + 6)) (.cmp .Eq (.var 1) (.lst [])) (prE (enc t) (.list (rs.map PyData.int)) x z none) = .ok (false, .bool false) (prE (enc t) (.list (rs.map PyData.int)) x z none) := by
    simp [st_nil, st_cons, st_set, st_par, st_unp, st_put, st_app, st_ext, st_expr, st_ret, st_ite, st_pass, evL_nil, evL_cons, evs_nil, evs_cons, ev_var, ev_cst, ev_glob, ev_tup, ev_lst, ev_dic, ev_bin, ev_cmp, ev_chn, ev_band, ev_bor, ev_not, ev_neg, ev_ite, ev_blt, ev_blt2, ev_isi, ev_idx, ev_slc, ev_rev, ev_pop, ev_get, ev_get2, ev_index, two, brw, Ex.var?, valOf, Rs.bind, Rs.of, Rs.ou, Ou.nxt, nw, ol, slOf, nxO, rd, frz, Sl.d, putV_none, putV_val, putV_own, putV_map, putV_mapc, putL, asg, asgs, chg, upSl, app1, ext1, isLs, isDc, isLD, recv, later, tru_b, lt_ii, gt_ii, le_ii, ge_ii, eq_ii, ne_ii, at_0, at_1, at_2, at_3, add_ll, add_tt, oIdx, dT, small_lt, fin, finR, outs, callV, callS, prE, e, s0]
  have c17 := ev_call (c := cal (all.map De.g) (k + 6)) (f := 17) (n := 2) (es := [.var 2, .cst (.int 2)]) (env := prE (enc t) (.list (rs.map PyData.int)) x z none) (e1 := prE (enc t) (.list (rs.map PyData.int)) x z none) (ds := [pairD x z, .int 2]) rfl (by simp [st_nil, st_cons, st_set, st_par, st_unp, st_put, st_app, st_ext, st_expr, st_ret, st_ite, st_pass, evL_nil, evL_cons, evs_nil, evs_cons, ev_var, ev_cst, ev_glob, ev_tup, ev_lst, ev_dic, ev_bin, ev_cmp, ev_chn, ev_band, ev_bor, ev_not, ev_neg, ev_ite, ev_blt, ev_blt2, ev_isi, ev_idx, ev_slc, ev_rev, ev_pop, ev_get, ev_get2, ev_index, two, brw, Ex.var?, valOf, Rs.bind, Rs.of, Rs.ou, Ou.nxt, nw, ol, slOf, nxO, rd, frz, Sl.d, putV_none, putV_val, putV_own, putV_map, putV_mapc, putL, asg, asgs, chg, upSl, app1, ext1, isLs, isDc, isLD, recv, later, tru_b, lt_ii, gt_ii, le_ii, ge_ii, eq_ii, ne_ii, at_0, at_1, at_2, at_3, add_ll, add_tt, oIdx, dT, small_lt, fin, finR, outs, callV, callS, prE]) rfl (is_tuple2 (k + 5) (pd x.1) (pd z.1))
  have w0 : ∀ d, evs (cal (all.map De.g) (k + 6)) [.var 0, .idx (.var 2) (.cst (.int 0))] (prE (enc t) (.list (rs.map PyData.int)) x z d) = .ok [enc t, pd x.1] (prE (enc t) (.list (rs.map PyData.int)) x z d) := fun d => by simp [st_nil, st_cons, st_set, st_par, st_unp, st_put, st_app, st_ext, st_expr, st_ret, st_ite, st_pass, evL_nil, evL_cons, evs_nil, evs_cons, ev_var, ev_cst, ev_glob, ev_tup, ev_lst, ev_dic, ev_bin, ev_cmp, ev_chn, ev_band, ev_bor, ev_not, ev_neg, ev_ite, ev_blt, ev_blt2, ev_isi, ev_idx, ev_slc, ev_rev, ev_pop, ev_get, ev_get2, ev_index, two, brw, Ex.var?, valOf, Rs.bind, Rs.of, Rs.ou, Ou.nxt, nw, ol, slOf, nxO, rd, frz, Sl.d, putV_none, putV_val, putV_own, putV_map, putV_mapc, putL, asg, asgs, chg, upSl, app1, ext1, isLs, isDc, isLD, recv, later, tru_b, lt_ii, gt_ii, le_ii, ge_ii, eq_ii, ne_ii, at_0, at_1, at_2, at_3, add_ll, add_tt, oIdx, dT, small_lt, fin, finR, outs, callV, callS, prE, i0, -oIdx]
  have w1 : ∀ d, evs (cal (all.map De.g) (k + 6)) [.var 0, .idx (.var 2) (.cst (.int 1))] (prE (enc t) (.list (rs.map PyData.int)) x z d) = .ok [enc t, pd z.1] (prE (enc t) (.list (rs.map PyData.int)) x z d) := fun d => by simp [st_nil, st_cons, st_set, st_par, st_unp, st_put, st_app, st_ext, st_expr, st_ret, st_ite, st_pass, evL_nil, evL_cons, evs_nil, evs_cons, ev_var, ev_cst, ev_glob, ev_tup, ev_lst, ev_dic, ev_bin, ev_cmp, ev_chn, ev_band, ev_bor, ev_not, ev_neg, ev_ite, ev_blt, ev_blt2, ev_isi, ev_idx, ev_slc, ev_rev, ev_pop, ev_get, ev_get2, ev_index, two, brw, Ex.var?, valOf, Rs.bind, Rs.of, Rs.ou, Ou.nxt, nw, ol, slOf, nxO, rd, frz, Sl.d, putV_none, putV_val, putV_own, putV_map, putV_mapc, putL, asg, asgs, chg, upSl, app1, ext1, isLs, isDc, isLD, recv, later, tru_b, lt_ii, gt_ii, le_ii, ge_ii, eq_ii, ne_ii, at_0, at_1, at_2, at_3, add_ll, add_tt, oIdx, dT, small_lt, fin, finR, outs, callV, callS, prE, i1, -oIdx]
  have c30x := ev_call (f := 30) (n := 2) rfl (w0 none) rfl (is_own_path (k + 1) t h x hx)
  have c30z := ev_call (f := 30) (n := 2) rfl (w1 none) rfl (is_own_path (k + 1) t h z hz)
  have notc : ∀ {f : Nat} {es : List Ex} {env : Env}, ev (cal (all.map De.g) (k + 6)) (.call f es) env = .ok (false, .bool true) env → ev (cal (all.map De.g) (k + 6)) (.not (.call f es)) env = .ok (false, .bool false) env := fun {f es env} hc => by
    rw [ev_not, brw, va_call]
    dsimp only
    rw [hc]
    rfl
  have bor2 : ∀ {a b : Ex} {env : Env}, ev (cal (all.map De.g) (k + 6)) a env = .ok (false, .bool false) env → ev (cal (all.map De.g) (k + 6)) b env = .ok (false, .bool false) env → ∀ A : List Sm, ex1 (cal (all.map De.g) (k + 6)) (.ite (.bor a b) A []) env = .nx env := fun {a b env} ha hb A => by
    rw [st_ite, brw, show (Ex.bor a b).var? = none from rfl]
    dsimp only
    rw [ev_bor, ha, v_ok, b_ok, tru_b]
    dsimp only
    rw [hb, v_ok, b_ok, v_ok, ou_ok, tru_b]
    dsimp only
    rw [st_nil]
  have c21 : ev (cal (all.map De.g) (k + 6)) (.call 21 [.var 0]) (prE (enc t) (.list (rs.map PyData.int)) x z none) = .ok (false, _) (prE (enc t) (.list (rs.map PyData.int)) x z none) := call_0 rfl rfl (law_owns (k + 2) t h.good h.okA) rfl
  have dp := dict_p (roomsP t) (rooms_nodup t)
  have e2 : ((roomsP t).map fun q => PyData.tuple [pd q.1, .int q.2]) = (owns t).map fun q => .tuple [pd q.1, .int (roomI q.2)] := by
    unfold roomsP
    rw [List.map_map]
    rfl
  rw [e2] at dp
  have q3 : ex1 (cal (all.map De.g) (k + 6)) (.set 3 (.blt .dict (.call 21 [(.var 0)]))) (prE (enc t) (.list (rs.map PyData.int)) x z none) = .nx (prE (enc t) (.list (rs.map PyData.int)) x z (some (.own (pdD (roomsP t))))) := by
    rw [st_set, ev_blt, brw, va_call]
    dsimp only
    rw [c21, v_ok, b_ok, nw, dp]
    rfl
  have gx : ∀ q ∈ owns t, oIdx (pdD (roomsP t)) (pd q.1) = some (.int (roomI q.2)) := fun q hq => by
    rw [idx_p, pget_mem (q := (q.1, roomI q.2)) (rooms_nodup t) (List.mem_map.mpr ⟨q, hq, rfl⟩)]
    rfl
  have gx1 := gx x hx
  have gz1 := gx z hz
  rw [← hr] at gz1
  have nei : oCmp .NotEq (.int (roomI x.2)) (.int (roomI x.2)) = some (.bool false) := by rw [ne_ii]; simp
  have q4 : ex1 (cal (all.map De.g) (k + 6)) (.ite (.cmp .NotEq (.idx (.var 3) (.idx (.var 2) (.cst (.int 0)))) (.idx (.var 3) (.idx (.var 2) (.cst (.int 1))))) [.ret (.cst (.bool false))] []) (prE (enc t) (.list (rs.map PyData.int)) x z (some (.own (pdD (roomsP t))))) = .nx (prE (enc t) (.list (rs.map PyData.int)) x z (some (.own (pdD (roomsP t))))) := by
    simp [st_nil, st_cons, st_set, st_par, st_unp, st_put, st_app, st_ext, st_expr, st_ret, st_ite, st_pass, evL_nil, evL_cons, evs_nil, evs_cons, ev_var, ev_cst, ev_glob, ev_tup, ev_lst, ev_dic, ev_bin, ev_cmp, ev_chn, ev_band, ev_bor, ev_not, ev_neg, ev_ite, ev_blt, ev_blt2, ev_isi, ev_idx, ev_slc, ev_rev, ev_pop, ev_get, ev_get2, ev_index, two, brw, Ex.var?, valOf, Rs.bind, Rs.of, Rs.ou, Ou.nxt, nw, ol, slOf, nxO, rd, frz, Sl.d, putV_none, putV_val, putV_own, putV_map, putV_mapc, putL, asg, asgs, chg, upSl, app1, ext1, isLs, isDc, isLD, recv, later, tru_b, lt_ii, gt_ii, le_ii, ge_ii, eq_ii, ne_ii, at_0, at_1, at_2, at_3, add_ll, add_tt, oIdx, dT, small_lt, fin, finR, outs, callV, callS, prE, i0, i1, gx1, gz1, nei, -oIdx]
  obtain ⟨hx1, _, _⟩ := owns_mem hx
  obtain ⟨hz1, _, _⟩ := owns_mem hz
  have g := h.good
  have c22x := ev_call (f := 22) (n := 2) rfl (w0 (some (.own (pdD (roomsP t))))) rfl (law_history (k + 5) t x.2 x.1 (g.at_ hx1) (g.len x hx1))
  have c22z := ev_call (f := 22) (n := 2) rfl (w1 (some (.own (pdD (roomsP t))))) rfl (law_history (k + 5) t z.2 z.1 (g.at_ hz1) (g.len z hz1))
  have nh : oCmp .NotEq (.tuple ((roomsTo t x.1).map hpair)) (.tuple ((roomsTo t z.1).map hpair)) = some (.bool true) := by
    have := ne_h (hist t x) (hist t z)
    rw [decide_eq_true hh] at this
    exact this
  rw [b__law_pair_right, st_cons, bor2 b1 (notc c17), nxt_nx, st_cons, bor2 (notc c30x) (notc c30z), nxt_nx, st_cons, q3, nxt_nx, st_cons, q4, nxt_nx, st_cons, st_ret, ev_cmp, two, va_call]
  dsimp only
  rw [c22x, v_ok, b_ok, brw, va_call]
  dsimp only
  rw [c22z, v_ok, b_ok, b_ok]
  dsimp only
  rw [nh]
  rfl
end Rv.k08
end
section
/-! k08, mathematics 31: the law. -/
namespace Rv.k08
open PySem Rv
def lawEnv (Z P : D) (turn tree noted one hi due before rooms : Option D) : Env :=
  [some (.val Z), some (.own P), turn.map Sl.val, tree.map Sl.val, noted.map Sl.val, one.map Sl.val, hi.map Sl.val, due.map Sl.val, before.map Sl.val, rooms.map Sl.val, none]
def s1 : Sm := .set 3 (.ite (.cmp .Gt (.call 13 [(.var 1), (.cst (.int 5))]) (.cst (.int 0))) (.call 27 [(.var 1)]) (.call 34 [(.var 1)]))
def s2 : Sm := .set 4 (.call 28 [(.var 3), (.call 33 [(.var 3)])])
def t1 : Sm := .par [8, 9] [(.blt .repr (.var 5)), (.call 24 [(.var 5)])]
def t2 : Sm := .set 6 (.call 23 [(.var 5)])
def t3 : Sm := .ite (.cmp .NotEq (.blt .repr (.call 8 [(.var 5)])) (.blt .repr (.cmp .Eq (.var 9) (.lst [])))) [.ret (.cst (.bool false))] []
def t4 : Sm := .ite (.cmp .NotEq (.blt .repr (.call 7 [(.var 5)])) (.blt .repr (.idx (.bin .Add (.var 9) (.lst [(.cst .none)])) (.cst (.int 0))))) [.ret (.cst (.bool false))] []
def t5 : Sm := .set 7 (.blt .tuple (.comp [10] (.v 10) .it [(.blt .sorted (.var 6))] (.idx (.idx (.var 6) (.var 10)) (.cst (.int 0)))))
def t6 : Sm := .set 7 (.ite (.cmp .Eq (.var 9) (.lst [])) (.var 7) (.cst .none))
def t7 : Sm := .ite (.cmp .NotEq (.blt .repr (.call 9 [(.var 5)])) (.blt .repr (.var 7))) [.ret (.cst (.bool false))] []
def t8 : Sm := .ite (.not (.call 35 [(.var 5), (.var 9), (.call 10 [(.var 5)])])) [.ret (.cst (.bool false))] []
def t9 : Sm := .ite (.cmp .NotEq (.blt .repr (.var 5)) (.var 8)) [.ret (.cst (.bool false))] []
def oneBody : List Sm := [t1, t2, t3, t4, t5, t6, t7, t8, t9]
def s3 : Sm := .for_ (.v 5) .it [(.tup [(.var 3), (.var 4)])] oneBody
def lawBody : List Sm := [s1, s2, s3]
/-- calls with the tree alone -/
theorem call_t {k f : Nat} (i : Nat) {t : Tr} {d : D} {env : Env} (h : env[i]? = some (some (.val (enc t)))) (sg : (cal (all.map De.g) k).sig f = some ⟨1, []⟩) (hr : run (all.map De.g) k f [enc t] = .ret d []) (nf : (cal (all.map De.g) k).nw f = false) :
    ev (cal (all.map De.g) k) (.call f [.var i]) env = .ok (false, d) env :=
  ev_call (n := 1) (ds := [enc t]) sg (by simp [evs, ev, frz, h, valOf, Rs.bind]) rfl hr nf
theorem brw_call {c : Cal} {f : Nat} {es : List Ex} {env e : Env} {d : D} (h : ev c (.call f es) env = .ok (false, d) e) : brw (.call f es) (ev c (.call f es)) env = .ok d e := by
  rw [brw, va_call]
  dsimp only
  rw [h]
  rfl
theorem brw_blt {c : Cal} {B : B1} {a : Ex} {env e : Env} {d : D} {b : Bool} (h : ev c (.blt B a) env = .ok (b, d) e) : brw (.blt B a) (ev c (.blt B a)) env = .ok d e := by
  rw [brw, va_blt]
  dsimp only
  rw [h]
  rfl
def fgD (t : Tr) : D := .list ((Fg t).map PyData.int)
section
variable {k : Nat} {t : Tr} (lt : LT t) {Z P : D} {turn tree noted one hi due before rooms : Option D}
include lt
theorem r1 : ex1 (cal (all.map De.g) (k + 30)) t1 (lawEnv Z P turn tree noted (some (enc t)) hi due before rooms) = .nx (lawEnv Z P turn tree noted (some (enc t)) hi due (some (.str (enc t).shown)) (some (fgD t))) := by
  have hr := lt.treeRp.repr
  have c24 := call_t (k := k + 30) (f := 24) 5 (t := t) (env := lawEnv Z P turn tree noted (some (enc t)) hi due before rooms) rfl rfl (law_forgotten (k + 24) t lt) rfl
  have h1 : ev (cal (all.map De.g) (k + 30)) (.blt .repr (.var 5)) (lawEnv Z P turn tree noted (some (enc t)) hi due before rooms) = .ok (false, .str (enc t).shown) (lawEnv Z P turn tree noted (some (enc t)) hi due before rooms) := by
    simp [st_nil, st_cons, st_set, st_par, st_unp, st_put, st_app, st_ext, st_expr, st_ret, st_ite, st_pass, evL_nil, evL_cons, evs_nil, evs_cons, ev_var, ev_cst, ev_glob, ev_tup, ev_lst, ev_dic, ev_bin, ev_cmp, ev_chn, ev_band, ev_bor, ev_not, ev_neg, ev_ite, ev_blt, ev_blt2, ev_isi, ev_idx, ev_slc, ev_rev, ev_pop, ev_get, ev_get2, ev_index, two, brw, Ex.var?, valOf, Rs.bind, Rs.of, Rs.ou, Ou.nxt, nw, ol, slOf, nxO, rd, frz, Sl.d, putV_none, putV_val, putV_own, putV_map, putV_mapc, putL, asg, asgs, chg, upSl, app1, ext1, isLs, isDc, isLD, recv, later, tru_b, lt_ii, gt_ii, le_ii, ge_ii, eq_ii, ne_ii, at_0, at_1, at_2, at_3, add_ll, add_tt, oIdx, dT, small_lt, fin, finR, outs, callV, callS, lawEnv, hr]
  have p1 : putV 8 (.val (.str (enc t).shown)) (lawEnv Z P turn tree noted (some (enc t)) hi due before rooms) = some (lawEnv Z P turn tree noted (some (enc t)) hi due (some (.str (enc t).shown)) rooms) := putV_map (x := before) rfl
  have p2 : putV 9 (.val (.list ((Fg t).map PyData.int))) (lawEnv Z P turn tree noted (some (enc t)) hi due (some (.str (enc t).shown)) rooms) = some (lawEnv Z P turn tree noted (some (enc t)) hi due (some (.str (enc t).shown)) (some (fgD t))) := putV_map (x := rooms) rfl
  unfold t1
  rw [st_par, evL_cons, h1, b_ok, evL_cons, c24, b_ok, evL_nil, b_ok, b_ok, ou_ok]
  simp only [putL, slOf, Bool.false_eq_true, if_false, p1, Option.bind, p2]
  rfl
theorem r2 : ex1 (cal (all.map De.g) (k + 30)) t2 (lawEnv Z P turn tree noted (some (enc t)) hi due before rooms) = .nx (lawEnv Z P turn tree noted (some (enc t)) (some (gD t (owns t))) due before rooms) := by
  have c23 := call_t (k := k + 30) (f := 23) 5 (t := t) (env := lawEnv Z P turn tree noted (some (enc t)) hi due before rooms) rfl rfl (law_histories (k + 25) t lt) rfl
  have p1 : putV 6 (.val (gD t (owns t))) (lawEnv Z P turn tree noted (some (enc t)) hi due before rooms) = some (lawEnv Z P turn tree noted (some (enc t)) (some (gD t (owns t))) due before rooms) := putV_map (x := hi) rfl
  unfold t2
  rw [st_set, c23, ou_ok]
  show nxO (putV 6 (.val (gD t (owns t))) _) = _
  rw [p1]
  rfl
omit lt in
theorem ev_eq9 : ev (cal (all.map De.g) (k + 30)) (.cmp .Eq (.var 9) (.lst [])) (lawEnv Z P turn tree noted one hi due before (some (fgD t))) = .ok (false, .bool (Fg t).isEmpty) (lawEnv Z P turn tree noted one hi due before (some (fgD t))) := by
  have e : oCmp .Eq (fgD t) (.list []) = some (.bool (Fg t).isEmpty) := eq_rooms (Fg t)
  have s0 : small 0 = true := by decide
  generalize fgD t = F at e
  simp [st_nil, st_cons, st_set, st_par, st_unp, st_put, st_app, st_ext, st_expr, st_ret, st_ite, st_pass, evL_nil, evL_cons, evs_nil, evs_cons, ev_var, ev_cst, ev_glob, ev_tup, ev_lst, ev_dic, ev_bin, ev_cmp, ev_chn, ev_band, ev_bor, ev_not, ev_neg, ev_ite, ev_blt, ev_blt2, ev_isi, ev_idx, ev_slc, ev_rev, ev_pop, ev_get, ev_get2, ev_index, two, brw, Ex.var?, valOf, Rs.bind, Rs.of, Rs.ou, Ou.nxt, nw, ol, slOf, nxO, rd, frz, Sl.d, putV_none, putV_val, putV_own, putV_map, putV_mapc, putL, asg, asgs, chg, upSl, app1, ext1, isLs, isDc, isLD, recv, later, tru_b, lt_ii, gt_ii, le_ii, ge_ii, eq_ii, ne_ii, at_0, at_1, at_2, at_3, add_ll, add_tt, oIdx, dT, small_lt, fin, finR, outs, callV, callS, lawEnv, e, s0]
theorem r3 : ex1 (cal (all.map De.g) (k + 30)) t3 (lawEnv Z P turn tree noted (some (enc t)) hi due before (some (fgD t))) = .nx (lawEnv Z P turn tree noted (some (enc t)) hi due before (some (fgD t))) := by
  have c8 := call_t (k := k + 30) (f := 8) 5 (t := t) (env := lawEnv Z P turn tree noted (some (enc t)) hi due before (some (fgD t))) rfl rfl (does_remember (k + 24) t lt) rfl
  unfold t3
  refine ne_repr (brw_call c8) ?_ ((Rp.bool _).mono (by omega) (by omega))
  rw [brw, va_cmp]
  dsimp only
  rw [ev_eq9]
  rfl
theorem ff_rp : Rp 60 1000000 (ffD t) := by
  unfold ffD
  cases e : Fg t with
  | nil => exact Rp.none.mono (by omega) (by omega)
  | cons r l =>
    have hm : r ∈ Fg t := by rw [e]; exact List.mem_cons_self
    obtain ⟨hr, _⟩ := List.mem_filter.mp hm
    obtain ⟨q, hq, e2⟩ := rs_mem.mp (Rm_mem.mp hr)
    have := lt.room (owns_mem hq).1
    rw [e2] at this
    exact (Rp.int (by omega)).mono (by omega) (by omega)
theorem Fg_len : (Fg t).length ≤ 60 := Nat.le_trans (List.length_filter_le _ _) (Rm_len lt)
theorem r4 : ex1 (cal (all.map De.g) (k + 30)) t4 (lawEnv Z P turn tree noted (some (enc t)) hi due before (some (fgD t))) = .nx (lawEnv Z P turn tree noted (some (enc t)) hi due before (some (fgD t))) := by
  have c7 := call_t (k := k + 30) (f := 7) 5 (t := t) (env := lawEnv Z P turn tree noted (some (enc t)) hi due before (some (fgD t))) rfl rfl (first_forgetting (k + 25) t lt) rfl
  unfold t4
  refine ne_repr (brw_call c7) ?_ (ff_rp lt)
  have ad : oBin .Add (fgD t) (.list [.none]) = some (.list ((Fg t).map PyData.int ++ [.none])) := add_ll (small_lt (by
    have := Fg_len lt
    rw [List.length_map, List.length_singleton]
    omega))
  have ix : oIdx (.list ((Fg t).map PyData.int ++ [.none])) (.int 0) = some (ffD t) := by
    unfold ffD
    cases Fg t with
    | nil => exact at_0
    | cons r l => exact at_0
  have s1 : small 1 = true := by decide
  generalize fgD t = F at ad
  generalize ffD t = G at ix
  generalize (Fg t).map PyData.int ++ [.none] = H at ad ix
  simp [st_nil, st_cons, st_set, st_par, st_unp, st_put, st_app, st_ext, st_expr, st_ret, st_ite, st_pass, evL_nil, evL_cons, evs_nil, evs_cons, ev_var, ev_cst, ev_glob, ev_tup, ev_lst, ev_dic, ev_bin, ev_cmp, ev_chn, ev_band, ev_bor, ev_not, ev_neg, ev_ite, ev_blt, ev_blt2, ev_isi, ev_idx, ev_slc, ev_rev, ev_pop, ev_get, ev_get2, ev_index, two, brw, Ex.var?, valOf, Rs.bind, Rs.of, Rs.ou, Ou.nxt, nw, ol, slOf, nxO, rd, frz, Sl.d, putV_none, putV_val, putV_own, putV_map, putV_mapc, putL, asg, asgs, chg, upSl, app1, ext1, isLs, isDc, isLD, recv, later, tru_b, lt_ii, gt_ii, le_ii, ge_ii, eq_ii, ne_ii, at_0, at_1, at_2, at_3, add_ll, add_tt, oIdx, dT, small_lt, fin, finR, outs, callV, callS, lawEnv, ad, ix, s1, va_idx, va_bin, -oIdx, -oBin]
theorem dueT : ∀ x, ex1 (cal (all.map De.g) (k + 30)) t5 (lawEnv Z P turn tree noted one (some (gD t (owns t))) x before rooms) = .nx (lawEnv Z P turn tree noted one (some (gD t (owns t))) (some (.tuple ((Rm t).map fun r => hD (h1 t r)))) before rooms) := fun x => by
  have so := sorted_g t
  have hit : ev (cal (all.map De.g) (k + 30)) (.blt .sorted (.var 6)) (lawEnv Z P turn tree noted one (some (gD t (owns t))) x before rooms) = .ok (true, .list ((Rm t).map PyData.int)) (lawEnv Z P turn tree noted one (some (gD t (owns t))) x before rooms) := by
    rw [ev_blt, brw, va_var]
    dsimp only
    rw [show rd 6 (lawEnv Z P turn tree noted one (some (gD t (owns t))) x before rooms) = some (gD t (owns t)) from rfl, of_some, b_ok, so]
    rfl
  have cm := comp_g (c := cal (all.map De.g) (k + 30)) (own := [10]) (tg := .v 10) (sr := .it) (it := .blt .sorted (.var 6)) (elt := .idx (.idx (.var 6) (.var 10)) (.cst (.int 0))) (env := lawEnv Z P turn tree noted one (some (gD t (owns t))) x before rooms) (env0 := lawEnv Z P turn tree noted one (some (gD t (owns t))) x before rooms) (W := Rm t) (en := PyData.int) (out := fun r => hD (h1 t r)) rfl hit rfl rfl (by have := Rm_len lt; omega) fun r hr => by
    have ix := idx_g (t := t) (Rm_mem.mp hr)
    have i0 : oIdx (gV t (owns t) r) (.int 0) = some (hD (h1 t r)) := by
      have hn := hs_of hr
      show L2.atI ((hs t r).map hD) 0 = _
      unfold h1
      cases e : hs t r with
      | nil => exact absurd e hn
      | cons a l => exact at_0
    refine ⟨(lawEnv Z P turn tree noted one (some (gD t (owns t))) x before rooms).set 10 (some (.val (.int r))), rfl, rfl, ?_⟩
    generalize gD t (owns t) = G at ix
    generalize gV t (owns t) r = V at ix i0
    simp [st_nil, st_cons, st_set, st_par, st_unp, st_put, st_app, st_ext, st_expr, st_ret, st_ite, st_pass, evL_nil, evL_cons, evs_nil, evs_cons, ev_var, ev_cst, ev_glob, ev_tup, ev_lst, ev_dic, ev_bin, ev_cmp, ev_chn, ev_band, ev_bor, ev_not, ev_neg, ev_ite, ev_blt, ev_blt2, ev_isi, ev_idx, ev_slc, ev_rev, ev_pop, ev_get, ev_get2, ev_index, two, brw, Ex.var?, valOf, Rs.bind, Rs.of, Rs.ou, Ou.nxt, nw, ol, slOf, nxO, rd, frz, Sl.d, putV_none, putV_val, putV_own, putV_map, putV_mapc, putL, asg, asgs, chg, upSl, app1, ext1, isLs, isDc, isLD, recv, later, tru_b, lt_ii, gt_ii, le_ii, ge_ii, eq_ii, ne_ii, at_0, at_1, at_2, at_3, add_ll, add_tt, oIdx, dT, small_lt, fin, finR, outs, callV, callS, lawEnv, ix, i0, va_idx, -oIdx]
  have p1 : putV 7 (.val (.tuple ((Rm t).map fun r => hD (h1 t r)))) (lawEnv Z P turn tree noted one (some (gD t (owns t))) x before rooms) = some (lawEnv Z P turn tree noted one (some (gD t (owns t))) (some (.tuple ((Rm t).map fun r => hD (h1 t r)))) before rooms) := putV_map (x := x) rfl
  unfold t5
  rw [st_set, ev_blt, brw, va_comp]
  dsimp only
  rw [cm, v_ok, b_ok, nw]
  show nxO (putV 7 (.val (.tuple ((Rm t).map fun r => hD (h1 t r)))) _) = _
  rw [p1]
  rfl
theorem r6 : ex1 (cal (all.map De.g) (k + 30)) t6 (lawEnv Z P turn tree noted one hi (some (.tuple ((Rm t).map fun r => hD (h1 t r)))) before (some (fgD t))) = .nx (lawEnv Z P turn tree noted one hi (some (hoD t)) before (some (fgD t))) := by
  unfold t6
  rw [st_set, ev_ite, brw, va_cmp]
  dsimp only
  rw [ev_eq9, v_ok, b_ok, tru_b]
  unfold hoD
  have em : (Fg t).isEmpty = decide (Fg t = []) := by cases Fg t <;> simp
  rw [em]
  by_cases c : Fg t = []
  · rw [decide_eq_true c, if_pos c]
    rfl
  · rw [decide_eq_false c, if_neg c]
    rfl
theorem ho_rp : Rp 60 1000000 (hoD t) := by
  unfold hoD
  split
  · have := (Rps.map (m := 2) (n := 10000) (f := fun r => hD (h1 t r)) (l := Rm t) fun r hr => by
      have hn := hs_of hr
      unfold h1
      cases e : hs t r with
      | nil => exact absurd e hn
      | cons a l =>
        have ha : a ∈ hs t r := by rw [e]; exact List.mem_cons_self
        obtain ⟨q, hq, rfl⟩ := List.mem_map.mp ha
        exact lt.hist (owns_mem (List.mem_filter.mp hq).1).1).tup
    have hl : (Rm t).length * (10000 + 1) ≤ 60 * 10001 := Nat.mul_le_mul (Rm_len lt) (by omega)
    exact this.mono (by omega) (by omega)
  · exact Rp.none.mono (by omega) (by omega)
theorem r7 : ex1 (cal (all.map De.g) (k + 30)) t7 (lawEnv Z P turn tree noted (some (enc t)) hi (some (hoD t)) before rooms) = .nx (lawEnv Z P turn tree noted (some (enc t)) hi (some (hoD t)) before rooms) := by
  have c9 := call_t (k := k + 30) (f := 9) 5 (t := t) (env := lawEnv Z P turn tree noted (some (enc t)) hi (some (hoD t)) before rooms) rfl rfl (histories_of (k + 23) t lt) rfl
  unfold t7
  exact ne_repr (brw_call c9) rfl (ho_rp lt)
theorem r8 : ex1 (cal (all.map De.g) (k + 30)) t8 (lawEnv Z P turn tree noted (some (enc t)) hi due before (some (fgD t))) = .nx (lawEnv Z P turn tree noted (some (enc t)) hi due before (some (fgD t))) := by
  have key : ∃ d, run (all.map De.g) (k + 30) 10 [enc t] = .ret d [] ∧ run (all.map De.g) (k + 30) 35 [enc t, fgD t, d] = .ret (.bool true) [] := by
    rcases forgetting_pair (k + 24) t lt with ⟨h1, h2⟩ | ⟨x, z, hx, hz, hr, hh, hF, h2⟩
    · refine ⟨_, h2, ?_⟩
      unfold fgD
      rw [h1]
      exact right_none (k + 24) t
    · exact ⟨_, h2, right_pair (k + 23) t lt x z hx hz hr hh (Fg t) hF⟩
  obtain ⟨d, h1, h2⟩ := key
  have c10 := call_t (k := k + 30) (f := 10) 5 (t := t) (env := lawEnv Z P turn tree noted (some (enc t)) hi due before (some (fgD t))) rfl rfl h1 rfl
  have es : evs (cal (all.map De.g) (k + 30)) [(.var 5), (.var 9), (.call 10 [(.var 5)])] (lawEnv Z P turn tree noted (some (enc t)) hi due before (some (fgD t))) = .ok [enc t, fgD t, d] (lawEnv Z P turn tree noted (some (enc t)) hi due before (some (fgD t))) := by
    have v5 : ev (cal (all.map De.g) (k + 30)) (.var 5) (lawEnv Z P turn tree noted (some (enc t)) hi due before (some (fgD t))) = .ok (false, enc t) (lawEnv Z P turn tree noted (some (enc t)) hi due before (some (fgD t))) := by rw [ev_var]; rfl
    have v9 : ev (cal (all.map De.g) (k + 30)) (.var 9) (lawEnv Z P turn tree noted (some (enc t)) hi due before (some (fgD t))) = .ok (false, fgD t) (lawEnv Z P turn tree noted (some (enc t)) hi due before (some (fgD t))) := by rw [ev_var]; rfl
    rw [evs_cons, v5, v_ok, b_ok, evs_cons, v9, v_ok, b_ok, evs_cons, c10, v_ok, b_ok, evs_nil, b_ok, b_ok, b_ok]
  have c35 := ev_call (f := 35) (n := 3) rfl es rfl h2
  unfold t8
  rw [st_ite, brw, va_not]
  dsimp only
  rw [ev_not, brw_call c35, b_ok, tru_b]
  rw [Option.map_some, ol, Option.map_some, of_some, v_ok, ou_ok]
  show exs _ [] _ = _
  rw [st_nil]
theorem r9 : ex1 (cal (all.map De.g) (k + 30)) t9 (lawEnv Z P turn tree noted (some (enc t)) hi due (some (.str (enc t).shown)) rooms) = .nx (lawEnv Z P turn tree noted (some (enc t)) hi due (some (.str (enc t).shown)) rooms) := by
  have hr := lt.treeRp.repr
  have ns := ne_same (enc t).shown
  unfold t9
  simp [st_nil, st_cons, st_set, st_par, st_unp, st_put, st_app, st_ext, st_expr, st_ret, st_ite, st_pass, evL_nil, evL_cons, evs_nil, evs_cons, ev_var, ev_cst, ev_glob, ev_tup, ev_lst, ev_dic, ev_bin, ev_cmp, ev_chn, ev_band, ev_bor, ev_not, ev_neg, ev_ite, ev_blt, ev_blt2, ev_isi, ev_idx, ev_slc, ev_rev, ev_pop, ev_get, ev_get2, ev_index, two, brw, Ex.var?, valOf, Rs.bind, Rs.of, Rs.ou, Ou.nxt, nw, ol, slOf, nxO, rd, frz, Sl.d, putV_none, putV_val, putV_own, putV_map, putV_mapc, putL, asg, asgs, chg, upSl, app1, ext1, isLs, isDc, isLD, recv, later, tru_b, lt_ii, gt_ii, le_ii, ge_ii, eq_ii, ne_ii, at_0, at_1, at_2, at_3, add_ll, add_tt, oIdx, dT, small_lt, fin, finR, outs, callV, callS, lawEnv, hr, ns]
theorem one_tree : ∃ hi' due' before' rooms', exs (cal (all.map De.g) (k + 30)) oneBody (lawEnv Z P turn tree noted (some (enc t)) hi due before rooms) = .nx (lawEnv Z P turn tree noted (some (enc t)) hi' due' before' rooms') := by
  refine ⟨some (gD t (owns t)), some (hoD t), some (.str (enc t).shown), some (fgD t), ?_⟩
  rw [oneBody, st_cons, r1 lt, nxt_nx, st_cons, r2 lt, nxt_nx, st_cons, r3 lt, nxt_nx, st_cons, r4 lt, nxt_nx, st_cons, dueT lt, nxt_nx, st_cons, r6 lt, nxt_nx, st_cons, r7 lt, nxt_nx, st_cons, r8 lt, nxt_nx, st_cons, r9 lt, nxt_nx, st_nil]
theorem u2 : ∃ t', LT t' ∧ ex1 (cal (all.map De.g) (k + 30)) s2 (lawEnv Z P turn (some (enc t)) noted one hi due before rooms) = .nx (lawEnv Z P turn (some (enc t)) (some (enc t')) one hi due before rooms) := by
  obtain ⟨t', lt', _, rn⟩ := noted_tree t lt
  refine ⟨t', lt', ?_⟩
  have c33 := call_t (k := k + 30) (f := 33) 3 (t := t) (env := lawEnv Z P turn (some (enc t)) noted one hi due before rooms) rfl rfl (least_splitting (k + 25) t lt.good lt.okA) rfl
  have v3 : ev (cal (all.map De.g) (k + 30)) (.var 3) (lawEnv Z P turn (some (enc t)) noted one hi due before rooms) = .ok (false, enc t) (lawEnv Z P turn (some (enc t)) noted one hi due before rooms) := by rw [ev_var]; rfl
  have es : evs (cal (all.map De.g) (k + 30)) [(.var 3), (.call 33 [(.var 3)])] (lawEnv Z P turn (some (enc t)) noted one hi due before rooms) = .ok [enc t, .tuple ((owns t).map fun q => .int (note t q))] (lawEnv Z P turn (some (enc t)) noted one hi due before rooms) := by
    rw [evs_cons, v3, v_ok, b_ok, evs_cons, c33, v_ok, b_ok, evs_nil, b_ok, b_ok]
  have c28 := ev_call (f := 28) (n := 2) rfl es rfl (rn (k + 30) (by omega))
  have p1 : putV 4 (.val (enc t')) (lawEnv Z P turn (some (enc t)) noted one hi due before rooms) = some (lawEnv Z P turn (some (enc t)) (some (enc t')) one hi due before rooms) := putV_map (x := noted) rfl
  unfold s2
  rw [st_set, c28, ou_ok]
  show nxO (putV 4 (.val (enc t')) _) = _
  rw [p1]
  rfl
theorem u3 {t' : Tr} (lt' : LT t') : ∃ one' hi' due' before' rooms', ex1 (cal (all.map De.g) (k + 30)) s3 (lawEnv Z P turn (some (enc t)) (some (enc t')) one hi due before rooms) = .nx (lawEnv Z P turn (some (enc t)) (some (enc t')) one' hi' due' before' rooms') := by
  obtain ⟨e', lp, on, hi', du, be, ro, he⟩ := loop_on (f := fun x e2 => match asg (.v 5) x e2 with
    | some e3 => exs (cal (all.map De.g) (k + 30)) oneBody e3
    | none => .no) enc (fun pr env => ∃ on hi' du be ro, env = lawEnv Z P turn (some (enc t)) (some (enc t')) on hi' du be ro) [t, t'] (by
      rintro pr u post env hw ⟨on, hi', du, be, ro, rfl⟩
      have lu : LT u := by
        have : u ∈ [t, t'] := by rw [hw]; simp
        rcases List.mem_cons.mp this with rfl | this
        · exact lt
        · rw [List.mem_singleton.mp this]; exact lt'
      obtain ⟨hi2, du2, be2, ro2, bd⟩ := one_tree (k := k) lu (Z := Z) (P := P) (turn := turn) (tree := some (enc t)) (noted := some (enc t')) (hi := hi') (due := du) (before := be) (rooms := ro)
      refine ⟨_, ?_, some (enc u), hi2, du2, be2, ro2, rfl⟩
      have ag : asg (.v 5) (enc u) (lawEnv Z P turn (some (enc t)) (some (enc t')) on hi' du be ro) = some (lawEnv Z P turn (some (enc t)) (some (enc t')) (some (enc u)) hi' du be ro) := putV_map (x := on) rfl
      rw [ag]
      exact bd) (lawEnv Z P turn (some (enc t)) (some (enc t')) one hi due before rooms) ⟨one, hi, due, before, rooms, rfl⟩
  refine ⟨on, hi', du, be, ro, ?_⟩
  have v3 : ev (cal (all.map De.g) (k + 30)) (.var 3) (lawEnv Z P turn (some (enc t)) (some (enc t')) one hi due before rooms) = .ok (false, enc t) (lawEnv Z P turn (some (enc t)) (some (enc t')) one hi due before rooms) := by rw [ev_var]; rfl
  have v4 : ev (cal (all.map De.g) (k + 30)) (.var 4) (lawEnv Z P turn (some (enc t)) (some (enc t')) one hi due before rooms) = .ok (false, enc t') (lawEnv Z P turn (some (enc t)) (some (enc t')) one hi due before rooms) := by rw [ev_var]; rfl
  have es : evs (cal (all.map De.g) (k + 30)) [(.tup [(.var 3), (.var 4)])] (lawEnv Z P turn (some (enc t)) (some (enc t')) one hi due before rooms) = .ok [.tuple [enc t, enc t']] (lawEnv Z P turn (some (enc t)) (some (enc t')) one hi due before rooms) := by
    have sm : small [enc t, enc t'].length = true := by
      show small 2 = true
      decide
    rw [evs_cons, ev_tup, evs_cons, v3, v_ok, b_ok, evs_cons, v4, v_ok, b_ok, evs_nil, b_ok, b_ok, b_ok, if_pos sm, v_ok, b_ok, evs_nil, b_ok]
  unfold s3
  rw [ex1, es, ou_ok]
  exact lp.trans (by rw [he])
end
section
variable {k : Nat} {Z : D} {turn noted one hi due before rooms : Option D}
theorem u1 (g : List Int) (s d : Int) (h : 0 ≤ s) (tree : Option D) : ∃ t s' d', LT t ∧ 0 ≤ s' ∧ ex1 (cal (all.map De.g) (k + 30)) s1 (lawEnv Z (penD g s d) turn tree noted one hi due before rooms) = .nx (lawEnv Z (penD g s' d') turn (some (enc t)) noted one hi due before rooms) := by
  obtain ⟨x, s1', d1, x0, x1, hs1, dr⟩ := draw (k + 28) g s d 5 h (by omega) (by omega)
  have c27 : ∀ env : Env, ev (cal (all.map De.g) (k + 30)) (.call 27 [.var 1]) env = (Rs.of (rd 1 env) env).bind fun _ e0 => (evs (cal (all.map De.g) (k + 30)) [] e0).bind fun ds e1 => callS (fun d => run (all.map De.g) (k + 30) 27 (d :: ds)) 1 e1 := fun env => ev_call1 (n := 1) rfl rfl
  have c34 : ∀ env : Env, ev (cal (all.map De.g) (k + 30)) (.call 34 [.var 1]) env = (Rs.of (rd 1 env) env).bind fun _ e0 => (evs (cal (all.map De.g) (k + 30)) [] e0).bind fun ds e1 => callS (fun d => run (all.map De.g) (k + 30) 34 (d :: ds)) 1 e1 := fun env => ev_call1 (n := 1) rfl rfl
  by_cases hx : 0 < x
  · obtain ⟨t, s2', d2, lt, hs2, tr⟩ := law_tree (k + 10) g s1' d1 hs1
    refine ⟨t, s2', d2, lt, hs2, ?_⟩
    unfold s1
    simp [st_nil, st_cons, st_set, st_par, st_unp, st_put, st_app, st_ext, st_expr, st_ret, st_ite, st_pass, evL_nil, evL_cons, evs_nil, evs_cons, ev_var, ev_cst, ev_glob, ev_tup, ev_lst, ev_dic, ev_bin, ev_cmp, ev_chn, ev_band, ev_bor, ev_not, ev_neg, ev_ite, ev_blt, ev_blt2, ev_isi, ev_idx, ev_slc, ev_rev, ev_pop, ev_get, ev_get2, ev_index, two, brw, Ex.var?, valOf, Rs.bind, Rs.of, Rs.ou, Ou.nxt, nw, ol, slOf, nxO, rd, frz, Sl.d, putV_none, putV_val, putV_own, putV_map, putV_mapc, putL, asg, asgs, chg, upSl, app1, ext1, isLs, isDc, isLD, recv, later, tru_b, lt_ii, gt_ii, le_ii, ge_ii, eq_ii, ne_ii, at_0, at_1, at_2, at_3, add_ll, add_tt, oIdx, dT, small_lt, fin, finR, outs, callV, callS, lawEnv, c13, dr, hx, c27, tr, putV_map (x := tree)]
  · obtain ⟨t, s2', d2, lt, hs2, tr⟩ := wide_tree (k + 27) g s1' d1 hs1
    refine ⟨t, s2', d2, lt, hs2, ?_⟩
    unfold s1
    simp [st_nil, st_cons, st_set, st_par, st_unp, st_put, st_app, st_ext, st_expr, st_ret, st_ite, st_pass, evL_nil, evL_cons, evs_nil, evs_cons, ev_var, ev_cst, ev_glob, ev_tup, ev_lst, ev_dic, ev_bin, ev_cmp, ev_chn, ev_band, ev_bor, ev_not, ev_neg, ev_ite, ev_blt, ev_blt2, ev_isi, ev_idx, ev_slc, ev_rev, ev_pop, ev_get, ev_get2, ev_index, two, brw, Ex.var?, valOf, Rs.bind, Rs.of, Rs.ou, Ou.nxt, nw, ol, slOf, nxO, rd, frz, Sl.d, putV_none, putV_val, putV_own, putV_map, putV_mapc, putL, asg, asgs, chg, upSl, app1, ext1, isLs, isDc, isLD, recv, later, tru_b, lt_ii, gt_ii, le_ii, ge_ii, eq_ii, ne_ii, at_0, at_1, at_2, at_3, add_ll, add_tt, oIdx, dT, small_lt, fin, finR, outs, callV, callS, lawEnv, c13, dr, hx, c34, tr, putV_map (x := tree)]
/-- a turn of the law -/
theorem law_turn (g : List Int) (s d : Int) (h : 0 ≤ s) (tree : Option D) : ∃ s' d' tree' noted' one' hi' due' before' rooms', 0 ≤ s' ∧
    exs (cal (all.map De.g) (k + 30)) lawBody (lawEnv Z (penD g s d) turn tree noted one hi due before rooms) = .nx (lawEnv Z (penD g s' d') turn tree' noted' one' hi' due' before' rooms') := by
  obtain ⟨t, s1', d1, lt, hs1, e1⟩ := u1 (k := k) (Z := Z) (turn := turn) (noted := noted) (one := one) (hi := hi) (due := due) (before := before) (rooms := rooms) g s d h tree
  obtain ⟨t', lt', e2⟩ := u2 (k := k) lt (Z := Z) (P := penD g s1' d1) (turn := turn) (noted := noted) (one := one) (hi := hi) (due := due) (before := before) (rooms := rooms)
  obtain ⟨on, hi', du, be, ro, e3⟩ := u3 (k := k) lt (Z := Z) (P := penD g s1' d1) (turn := turn) (one := one) (hi := hi) (due := due) (before := before) (rooms := rooms) lt'
  refine ⟨s1', d1, some (enc t), some (enc t'), on, hi', du, be, ro, hs1, ?_⟩
  rw [lawBody, st_cons, e1, nxt_nx, st_cons, e2, nxt_nx, st_cons, e3, nxt_nx, st_nil]
end
theorem law_pen (k : Nat) (zs : List Int) : ∃ g : List Int, run (all.map De.g) (k + 1) 11 [.list (zs.map PyData.int)] = .ret (penD g 0 0) [] := by
  refine ⟨zs.take 63, ?_⟩
  rw [run_def (g := d__law_pen.g) rfl rfl]
  show fin d__law_pen.g (exs (cal (all.map De.g) k) b__law_pen [some (.val (.list (zs.map PyData.int)))]) = _
  have sc : oSlc (.list (zs.map PyData.int)) none (some 63) = some (.list ((zs.take 63).map PyData.int)) := by
    show some (PyData.list (cut (zs.map PyData.int) none (some (63 : Int)))) = _
    unfold cut
    rw [HT.sIx_none, show (63 : Int) = ((63 : Nat) : Int) from rfl, HT.sIx_nat, List.drop_zero, Nat.sub_zero, List.map_take]
    congr 2
    by_cases h : (zs.map PyData.int).length ≤ 63
    · rw [Nat.min_eq_right h, List.take_of_length_le (Nat.le_refl _), List.take_of_length_le h]
    · rw [Nat.min_eq_left (by omega)]
  rw [b__law_pen]
  simp [st_nil, st_cons, st_set, st_par, st_unp, st_put, st_app, st_ext, st_expr, st_ret, st_ite, st_pass, evL_nil, evL_cons, evs_nil, evs_cons, ev_var, ev_cst, ev_glob, ev_tup, ev_lst, ev_dic, ev_bin, ev_cmp, ev_chn, ev_band, ev_bor, ev_not, ev_neg, ev_ite, ev_blt, ev_blt2, ev_isi, ev_idx, ev_slc, ev_rev, ev_pop, ev_get, ev_get2, ev_index, two, brw, Ex.var?, valOf, Rs.bind, Rs.of, Rs.ou, Ou.nxt, nw, ol, slOf, nxO, rd, frz, Sl.d, putV_none, putV_val, putV_own, putV_map, putV_mapc, putL, asg, asgs, chg, upSl, app1, ext1, isLs, isDc, isLD, recv, later, tru_b, lt_ii, gt_ii, le_ii, ge_ii, eq_ii, ne_ii, at_0, at_1, at_2, at_3, add_ll, add_tt, oIdx, dT, small_lt, fin, finR, outs, callV, callS, prt, part, sc, oB, d__law_pen, penD]
theorem answers (zs : List Int) (hz : zs.length ≤ 63) : ∃ o, run (all.map De.g) 40 36 [.list (zs.map PyData.int)] = .ret (.bool true) o := by
  refine ⟨[], ?_⟩
  rw [run_def (k := 39) (g := d_law.g) rfl rfl]
  show fin d_law.g (exs (cal (all.map De.g) (9 + 30)) [.set 1 (.call 11 [(.var 0)]), .for_ (.v 2) .rng1 [(.blt2 .max (.cst (.int 3)) (.blt2 .min (.cst (.int 8)) (.blt .len (.var 0))))] lawBody, _] [some (.val (.list (zs.map PyData.int))), none, none, none, none, none, none, none, none, none, none]) = _
  obtain ⟨g, pn⟩ := law_pen 38 zs
  have p1 : ex1 (cal (all.map De.g) (9 + 30)) (.set 1 (.call 11 [(.var 0)])) [some (.val (.list (zs.map PyData.int))), none, none, none, none, none, none, none, none, none, none] = .nx (lawEnv (.list (zs.map PyData.int)) (penD g 0 0) none none none none none none none none) := by
    have sg : (cal (all.map De.g) 39).sig 11 = some ⟨1, []⟩ := rfl
    have nf : (cal (all.map De.g) 39).nw 11 = true := rfl
    have rn : (cal (all.map De.g) 39).run 11 [.list (zs.map PyData.int)] = .ret (penD g 0 0) [] := pn
    simp [st_set, ev, sg, nf, evArs, frz, valOf, Rs.bind, runC, slotsOf, argDs, argD, rn, outOf, lay, Rs.ou, slOf, putV, nxO, lawEnv]
  obtain ⟨m, hm⟩ : ∃ m : Nat, evs (cal (all.map De.g) (9 + 30)) [(.blt2 .max (.cst (.int 3)) (.blt2 .min (.cst (.int 8)) (.blt .len (.var 0))))] (lawEnv (.list (zs.map PyData.int)) (penD g 0 0) none none none none none none none none) = .ok [.int (m : Nat)] (lawEnv (.list (zs.map PyData.int)) (penD g 0 0) none none none none none none none none) ∧ m ≤ 8 := by
    have mn : oB .min [.int 8, .int (zs.length : Nat)] = some (.int (min 8 (zs.length : Nat))) := by
      show some (PyData.int (if ((zs.length : Nat) : Int) < 8 then ((zs.length : Nat) : Int) else 8)) = _
      congr 2
      split <;> omega
    have mx := max_ii 3 (min 8 (zs.length : Nat))
    refine ⟨(max 3 (min 8 ((zs.length : Nat) : Int))).toNat, ?_, by omega⟩
    have e : (((max 3 (min 8 ((zs.length : Nat) : Int))).toNat : Nat) : Int) = max 3 (min 8 ((zs.length : Nat) : Int)) := by omega
    rw [e]
    have ln : oB .len [.list (zs.map PyData.int)] = some (.int (zs.length : Nat)) := by
      show some (PyData.int ((zs.map PyData.int).length : Nat)) = _
      rw [List.length_map]
    simp [st_nil, st_cons, st_set, st_par, st_unp, st_put, st_app, st_ext, st_expr, st_ret, st_ite, st_pass, evL_nil, evL_cons, evs_nil, evs_cons, ev_var, ev_cst, ev_glob, ev_tup, ev_lst, ev_dic, ev_bin, ev_cmp, ev_chn, ev_band, ev_bor, ev_not, ev_neg, ev_ite, ev_blt, ev_blt2, ev_isi, ev_idx, ev_slc, ev_rev, ev_pop, ev_get, ev_get2, ev_index, two, brw, Ex.var?, valOf, Rs.bind, Rs.of, Rs.ou, Ou.nxt, nw, ol, slOf, nxO, rd, frz, Sl.d, putV_none, putV_val, putV_own, putV_map, putV_mapc, putL, asg, asgs, chg, upSl, app1, ext1, isLs, isDc, isLD, recv, later, tru_b, lt_ii, gt_ii, le_ii, ge_ii, eq_ii, ne_ii, at_0, at_1, at_2, at_3, add_ll, add_tt, oIdx, dT, small_lt, fin, finR, outs, callV, callS, lawEnv, ln, mn, mx]
  obtain ⟨hm, m8⟩ := hm
  have wk : walk .rng1 [.int (m : Nat)] = some ((List.range m).map fun i : Nat => PyData.int (0 + (i : Nat))) := by
    have ro : rngOk (m : Nat) = true := by
      unfold rngOk
      rw [decide_eq_true (by omega), decide_eq_true (by omega)]
      rfl
    show (if rngOk (m : Nat) then some (upTo 0 ((m : Nat) : Int).toNat) else none) = _
    rw [ro, if_pos rfl, Int.toNat_natCast]
    rfl
  obtain ⟨e', lp, s', d', tu, tr, ow, ro, to, du, pa, be, he, _⟩ := loop_on (f := fun x e2 => match asg (.v 2) x e2 with
    | some e3 => exs (cal (all.map De.g) (9 + 30)) lawBody e3
    | none => .no) (fun i : Nat => PyData.int (0 + (i : Nat))) (fun pr env => ∃ s' d' tu tr ow ro to du pa be, env = lawEnv (.list (zs.map PyData.int)) (penD g s' d') tu tr ow ro to du pa be ∧ 0 ≤ s') (List.range m) (by
      rintro pr i post env hw ⟨s', d', tu, tr, ow, ro, to, du, pa, be, rfl, hs'⟩
      obtain ⟨s2, d2, tr2, ow2, ro2, to2, du2, pa2, be2, hs2, bd⟩ := law_turn (k := 9) (Z := .list (zs.map PyData.int)) (turn := some (.int (0 + (i : Nat)))) (noted := ow) (one := ro) (hi := to) (due := du) (before := pa) (rooms := be) g s' d' hs' tr
      refine ⟨_, ?_, s2, d2, some (.int (0 + (i : Nat))), tr2, ow2, ro2, to2, du2, pa2, be2, rfl, hs2⟩
      have ag : asg (.v 2) (.int (0 + (i : Nat))) (lawEnv (.list (zs.map PyData.int)) (penD g s' d') tu tr ow ro to du pa be) = some (lawEnv (.list (zs.map PyData.int)) (penD g s' d') (some (.int (0 + (i : Nat)))) tr ow ro to du pa be) := putV_map (x := tu) rfl
      rw [ag]
      exact bd) (lawEnv (.list (zs.map PyData.int)) (penD g 0 0) none none none none none none none none) ⟨0, 0, none, none, none, none, none, none, none, none, rfl, by omega⟩
  have p2 : ex1 (cal (all.map De.g) (9 + 30)) (.for_ (.v 2) .rng1 [(.blt2 .max (.cst (.int 3)) (.blt2 .min (.cst (.int 8)) (.blt .len (.var 0))))] lawBody) (lawEnv (.list (zs.map PyData.int)) (penD g 0 0) none none none none none none none none) = .nx e' := by
    rw [ex1, hm, ou_ok, wk]
    exact lp
  rw [st_cons, p1, nxt_nx, st_cons, p2, nxt_nx, he]
  simp [st_nil, st_cons, st_set, st_par, st_unp, st_put, st_app, st_ext, st_expr, st_ret, st_ite, st_pass, evL_nil, evL_cons, evs_nil, evs_cons, ev_var, ev_cst, ev_glob, ev_tup, ev_lst, ev_dic, ev_bin, ev_cmp, ev_chn, ev_band, ev_bor, ev_not, ev_neg, ev_ite, ev_blt, ev_blt2, ev_isi, ev_idx, ev_slc, ev_rev, ev_pop, ev_get, ev_get2, ev_index, two, brw, Ex.var?, valOf, Rs.bind, Rs.of, Rs.ou, Ou.nxt, nw, ol, slOf, nxO, rd, frz, Sl.d, putV_none, putV_val, putV_own, putV_map, putV_mapc, putL, asg, asgs, chg, upSl, app1, ext1, isLs, isDc, isLD, recv, later, tru_b, lt_ii, gt_ii, le_ii, ge_ii, eq_ii, ne_ii, at_0, at_1, at_2, at_3, add_ll, add_tt, oIdx, dT, small_lt, fin, finR, outs, callV, callS, lawEnv, d_law]
end Rv.k08
end
section
open PySem PySem.W PyProof.Rows Rv Rv.k08
set_option maxHeartbeats 0 in
theorem PySem.Challenge.cw_mixahead_k08_remembering_holds : PySem.Challenge.rw_mixahead_k08_remembering.Holds := by
  w_on; o_law; k_head; (case hw => w_witness2)
  k_fill
  refine Rv.walk_rv (l := PySem.Challenge.rw_mixahead_k08_remembering) (n := 63) (k := 40) (i := 36) (x := "script") (T := txt) (ds := Rv.k08.all) (e := d_law) rfl (by decide) rfl ⟨rfl, by decide, by decide⟩ (fun w h Y => PySem.W.kIn_of Y) rfl rfl rfl rfl rfl rfl ?A Rv.k08.answers
  case A =>
    intro w mg h KX G
    refine all_of fnsOk oks ⟨?_, ?_, ?_, ?_, ?_, ?_, ?_, ?_, ?_, ?_, ?_, ?_, ?_, ?_, ?_, ?_, ?_, ?_, ?_, ?_, ?_, ?_, ?_, ?_, ?_, ?_, ?_, ?_, ?_, ?_, ?_, ?_, ?_, ?_, ?_, ?_, ?_, True.intro⟩ ⟨?_, ?_, ?_, ?_, ?_, ?_, ?_, ?_, ?_, ?_, ?_, ?_, ?_, ?_, ?_, True.intro⟩ ⟨?_, True.intro⟩
    · refine' at_mk (d := d_nodes_of) (x := "nodes_of") (st := topS 2) (ps := ["tree"]) rfl rfl rfl KX G (fun _ _ _ _ _ _ us hl => match us, hl with | [_], _ => rfl) ?a ?l ?c ?k; (case a => k_is); (case l => k_is); (case c => k_is); (case k => k_is)
    · refine' at_mk (d := d_own_nodes_of) (x := "own_nodes_of") (st := topS 3) (ps := ["tree"]) rfl rfl rfl KX G (fun _ _ _ _ _ _ us hl => match us, hl with | [_], _ => rfl) ?a ?l ?c ?k; (case a => k_is); (case l => k_is); (case c => k_is); (case k => k_is)
    · refine' at_mk (d := d_node_at) (x := "node_at") (st := topS 4) (ps := ["tree", "path"]) rfl rfl rfl KX G (fun _ _ _ _ _ _ us hl => match us, hl with | [_, _], _ => rfl) ?a ?l ?c ?k; (case a => k_is); (case l => k_is); (case c => k_is); (case k => k_is)
    · refine' at_mk (d := d_room_at) (x := "room_at") (st := topS 5) (ps := ["tree", "path"]) rfl rfl rfl KX G (fun _ _ _ _ _ _ us hl => match us, hl with | [_, _], _ => rfl) ?a ?l ?c ?k; (case a => k_is); (case l => k_is); (case c => k_is); (case k => k_is)
    · refine' at_mk (d := d_rooms_of) (x := "rooms_of") (st := topS 6) (ps := ["tree"]) rfl rfl rfl KX G (fun _ _ _ _ _ _ us hl => match us, hl with | [_], _ => rfl) ?a ?l ?c ?k; (case a => k_is); (case l => k_is); (case c => k_is); (case k => k_is)
    · refine' at_mk (d := d_own_history) (x := "own_history") (st := topS 7) (ps := ["tree", "path"]) rfl rfl rfl KX G (fun _ _ _ _ _ _ us hl => match us, hl with | [_, _], _ => rfl) ?a ?l ?c ?k; (case a => k_is); (case l => k_is); (case c => k_is); (case k => k_is)
    · refine' at_mk (d := d_histories_in) (x := "histories_in") (st := topS 9) (ps := ["tree", "room"]) rfl rfl rfl KX G (fun _ _ _ _ _ _ us hl => match us, hl with | [_, _], _ => rfl) ?a ?l ?c ?k; (case a => k_is); (case l => k_is); (case c => k_is); (case k => k_is)
    · refine' at_mk (d := d_first_forgetting) (x := "first_forgetting") (st := topS 10) (ps := ["tree"]) rfl rfl rfl KX G (fun _ _ _ _ _ _ us hl => match us, hl with | [_], _ => rfl) ?a ?l ?c ?k; (case a => k_is); (case l => k_is); (case c => k_is); (case k => k_is)
    · refine' at_mk (d := d_does_remember) (x := "does_remember") (st := topS 11) (ps := ["tree"]) rfl rfl rfl KX G (fun _ _ _ _ _ _ us hl => match us, hl with | [_], _ => rfl) ?a ?l ?c ?k; (case a => k_is); (case l => k_is); (case c => k_is); (case k => k_is)
    · refine' at_mk (d := d_histories_of) (x := "histories_of") (st := topS 12) (ps := ["tree"]) rfl rfl rfl KX G (fun _ _ _ _ _ _ us hl => match us, hl with | [_], _ => rfl) ?a ?l ?c ?k; (case a => k_is); (case l => k_is); (case c => k_is); (case k => k_is)
    · refine' at_mk (d := d_forgetting_pair) (x := "forgetting_pair") (st := topS 13) (ps := ["tree"]) rfl rfl rfl KX G (fun _ _ _ _ _ _ us hl => match us, hl with | [_], _ => rfl) ?a ?l ?c ?k; (case a => k_is); (case l => k_is); (case c => k_is); (case k => k_is)
    · refine' at_mk (d := d__law_pen) (x := "_law_pen") (st := topS 15) (ps := ["script"]) rfl rfl rfl KX G (fun _ _ _ _ _ _ us hl => match us, hl with | [_], _ => rfl) ?a ?l ?c ?k; (case a => k_is); (case l => k_is); (case c => k_is); (case k => k_is)
    · refine' at_mk (d := d__law_fresh) (x := "_law_fresh") (st := topS 16) (ps := ["pen"]) rfl rfl rfl KX G (fun _ _ _ _ _ _ us hl => match us, hl with | [_], _ => rfl) ?a ?l ?c ?k; (case a => k_is); (case l => k_is); (case c => k_is); (case k => k_is)
    · refine' at_mk (d := d__law_draw) (x := "_law_draw") (st := topS 17) (ps := ["pen", "bound"]) rfl rfl rfl KX G (fun _ _ _ _ _ _ us hl => match us, hl with | [_, _], _ => rfl) ?a ?l ?c ?k; (case a => k_is); (case l => k_is); (case c => k_is); (case k => k_is)
    · refine' at_mk (d := d__law_one_of) (x := "_law_one_of") (st := topS 18) (ps := ["pen", "some"]) rfl rfl rfl KX G (fun _ _ _ _ _ _ us hl => match us, hl with | [_, _], _ => rfl) ?a ?l ?c ?k; (case a => k_is); (case l => k_is); (case c => k_is); (case k => k_is)
    · refine' at_mk (d := d__law_whole) (x := "_law_whole") (st := topS 19) (ps := ["value", "low", "high"]) rfl rfl rfl KX G (fun _ _ _ _ _ _ us hl => match us, hl with | [_, _, _], _ => rfl) ?a ?l ?c ?k; (case a => k_is); (case l => k_is); (case c => k_is); (case k => k_is)
    · refine' at_mk (d := d__law_is_marked) (x := "_law_is_marked") (st := topS 20) (ps := ["value", "word", "many"]) rfl rfl rfl KX G (fun _ _ _ _ _ _ us hl => match us, hl with | [_, _, _], _ => rfl) ?a ?l ?c ?k; (case a => k_is); (case l => k_is); (case c => k_is); (case k => k_is)
    · refine' at_mk (d := d__law_is_tuple) (x := "_law_is_tuple") (st := topS 21) (ps := ["value", "many"]) rfl rfl rfl KX G (fun _ _ _ _ _ _ us hl => match us, hl with | [_, _], _ => rfl) ?a ?l ?c ?k; (case a => k_is); (case l => k_is); (case c => k_is); (case k => k_is)
    · refine' at_mk (d := d__law_is_node) (x := "_law_is_node") (st := topS 22) (ps := ["value"]) rfl rfl rfl KX G (fun _ _ _ _ _ _ us hl => match us, hl with | [_], _ => rfl) ?a ?l ?c ?k; (case a => k_is); (case l => k_is); (case c => k_is); (case k => k_is)
    · refine' at_mk (d := d__law_nodes) (x := "_law_nodes") (st := topS 23) (ps := ["value"]) rfl rfl rfl KX G (fun _ _ _ _ _ _ us hl => match us, hl with | [_], _ => rfl) ?a ?l ?c ?k; (case a => k_is); (case l => k_is); (case c => k_is); (case k => k_is)
    · refine' at_mk (d := d__law_ends) (x := "_law_ends") (st := topS 24) (ps := ["tree"]) rfl rfl rfl KX G (fun _ _ _ _ _ _ us hl => match us, hl with | [_], _ => rfl) ?a ?l ?c ?k; (case a => k_is); (case l => k_is); (case c => k_is); (case k => k_is)
    · refine' at_mk (d := d__law_owns) (x := "_law_owns") (st := topS 25) (ps := ["tree"]) rfl rfl rfl KX G (fun _ _ _ _ _ _ us hl => match us, hl with | [_], _ => rfl) ?a ?l ?c ?k; (case a => k_is); (case l => k_is); (case c => k_is); (case k => k_is)
    · refine' at_mk (d := d__law_history) (x := "_law_history") (st := topS 26) (ps := ["tree", "path"]) rfl rfl rfl KX G (fun _ _ _ _ _ _ us hl => match us, hl with | [_, _], _ => rfl) ?a ?l ?c ?k; (case a => k_is); (case l => k_is); (case c => k_is); (case k => k_is)
    · refine' at_mk (d := d__law_histories) (x := "_law_histories") (st := topS 27) (ps := ["tree"]) rfl rfl rfl KX G (fun _ _ _ _ _ _ us hl => match us, hl with | [_], _ => rfl) ?a ?l ?c ?k; (case a => k_is); (case l => k_is); (case c => k_is); (case k => k_is)
    · refine' at_mk (d := d__law_forgotten) (x := "_law_forgotten") (st := topS 28) (ps := ["tree"]) rfl rfl rfl KX G (fun _ _ _ _ _ _ us hl => match us, hl with | [_], _ => rfl) ?a ?l ?c ?k; (case a => k_is); (case l => k_is); (case c => k_is); (case k => k_is)
    · refine' at_mk (d := d__law_new_tree) (x := "_law_new_tree") (st := topS 29) (ps := ["pen", "depth", "widths", "ends"]) rfl rfl rfl KX G (fun _ _ _ _ _ _ us hl => match us, hl with | [_, _, _, _], _ => rfl) ?a ?l ?c ?k; (case a => k_is); (case l => k_is); (case c => k_is); (case k => k_is)
    · refine' at_mk (d := d__law_known_tree) (x := "_law_known_tree") (st := topS 30) (ps := ["pen"]) rfl rfl rfl KX G (fun _ _ _ _ _ _ us hl => match us, hl with | [_], _ => rfl) ?a ?l ?c ?k; (case a => k_is); (case l => k_is); (case c => k_is); (case k => k_is)
    · refine' at_mk (d := d__law_tree) (x := "_law_tree") (st := topS 31) (ps := ["pen"]) rfl rfl rfl KX G (fun _ _ _ _ _ _ us hl => match us, hl with | [_], _ => rfl) ?a ?l ?c ?k; (case a => k_is); (case l => k_is); (case c => k_is); (case k => k_is)
    · refine' at_mk (d := d__law_noted) (x := "_law_noted") (st := topS 32) (ps := ["tree", "notes"]) rfl rfl rfl KX G (fun _ _ _ _ _ _ us hl => match us, hl with | [_, _], _ => rfl) ?a ?l ?c ?k; (case a => k_is); (case l => k_is); (case c => k_is); (case k => k_is)
    · refine' at_mk (d := d__law_noted_by) (x := "_law_noted_by") (st := topS 33) (ps := ["tree", "told", "path"]) rfl rfl rfl KX G (fun _ _ _ _ _ _ us hl => match us, hl with | [_, _, _], _ => rfl) ?a ?l ?c ?k; (case a => k_is); (case l => k_is); (case c => k_is); (case k => k_is)
    · refine' at_mk (d := d__law_is_own_path) (x := "_law_is_own_path") (st := topS 34) (ps := ["tree", "value"]) rfl rfl rfl KX G (fun _ _ _ _ _ _ us hl => match us, hl with | [_, _], _ => rfl) ?a ?l ?c ?k; (case a => k_is); (case l => k_is); (case c => k_is); (case k => k_is)
    · refine' at_mk (d := d__law_is_path) (x := "_law_is_path") (st := topS 35) (ps := ["tree", "value"]) rfl rfl rfl KX G (fun _ _ _ _ _ _ us hl => match us, hl with | [_, _], _ => rfl) ?a ?l ?c ?k; (case a => k_is); (case l => k_is); (case c => k_is); (case k => k_is)
    · refine' at_mk (d := d__law_numbered) (x := "_law_numbered") (st := topS 36) (ps := ["keys"]) rfl rfl rfl KX G (fun _ _ _ _ _ _ us hl => match us, hl with | [_], _ => rfl) ?a ?l ?c ?k; (case a => k_is); (case l => k_is); (case c => k_is); (case k => k_is)
    · refine' at_mk (d := d__law_least_splitting) (x := "_law_least_splitting") (st := topS 37) (ps := ["tree"]) rfl rfl rfl KX G (fun _ _ _ _ _ _ us hl => match us, hl with | [_], _ => rfl) ?a ?l ?c ?k; (case a => k_is); (case l => k_is); (case c => k_is); (case k => k_is)
    · refine' at_mk (d := d__law_wide_tree) (x := "_law_wide_tree") (st := topS 38) (ps := ["pen"]) rfl rfl rfl KX G (fun _ _ _ _ _ _ us hl => match us, hl with | [_], _ => rfl) ?a ?l ?c ?k; (case a => k_is); (case l => k_is); (case c => k_is); (case k => k_is)
    · refine' at_mk (d := d__law_pair_right) (x := "_law_pair_right") (st := topS 39) (ps := ["tree", "rooms", "pair"]) rfl rfl rfl KX G (fun _ _ _ _ _ _ us hl => match us, hl with | [_, _, _], _ => rfl) ?a ?l ?c ?k; (case a => k_is); (case l => k_is); (case c => k_is); (case k => k_is)
    · refine' at_mk (d := d_law) (x := "law") (st := topS 40) (ps := ["script"]) rfl rfl rfl KX G (fun _ _ _ _ _ _ us hl => match us, hl with | [_], _ => rfl) ?a ?l ?c ?k; (case a => k_is); (case l => k_is); (case c => k_is); (case k => k_is)
    · refine' blt_none KX G ?a; (case a => k_is)
    · refine' blt_none KX G ?a; (case a => k_is)
    · refine' blt_none KX G ?a; (case a => k_is)
    · refine' blt_none KX G ?a; (case a => k_is)
    · refine' blt_none KX G ?a; (case a => k_is)
    · refine' blt_none KX G ?a; (case a => k_is)
    · refine' blt_none KX G ?a; (case a => k_is)
    · refine' blt_none KX G ?a; (case a => k_is)
    · refine' blt_none KX G ?a; (case a => k_is)
    · refine' blt_none KX G ?a; (case a => k_is)
    · refine' blt_none KX G ?a; (case a => k_is)
    · refine' blt_none KX G ?a; (case a => k_is)
    · refine' blt_none KX G ?a; (case a => k_is)
    · refine' blt_none KX G ?a; (case a => k_is)
    · refine' blt_none KX G ?a; (case a => k_is)
    · refine' cst_str KX G ?a; (case a => k_is)
end
