import PyProof.Rows.All
import Wide.All
import OpenK.AllK
import Wide.FinOn
import PyProof.EqAt
import PyProof.EqKinds
import Open.SpecLaws
import KE.KStateDown
import PySem.Str
import PySem.Syntax
import HandS.ForMost
import HandS.IsInst
import HandS.Style
import HandS.Wide
import HandS.Flow
import HandS.Zip
import HandS.ExcInit
import HandS.TupMul
import HandS.TupAny
import HandS.WordsDict
import HandS.Iter
import KE.GoesMore
import HandS.TryMany
import HandS.CallSlots
import HandS.WordsExc
import HandS.DictComp
import HandS.Comp
import HandS.Conv
import HandS.HeadHook4
import HandS.Codes
import HandS.Head0
import HandS.Head1
import HandS.Head2
import HandS.HeadEnd
import HandS.HeadHook1
import HandS.HeadHook2
import PySem.Challenge.RW_pointswhole_k02_whole_systems_moved
set_option autoImplicit false
set_option linter.all false
set_option Elab.async false
set_option maxRecDepth 100000
set_option maxHeartbeats 0
/-! A small tree language and its evaluator on plain values. -/
namespace PL
open PySem (Str)

/-- plain values -/
inductive PV where
  | non
  | bl (b : Bool)
  | int (i : Int)
  | str (s : Str)
  | ty (n : String)
  | fn (f : Nat)
  | ref (n : Nat)
  | scr (xs : List PV)
  | lst (xs : List PV)
  | tup (xs : List PV)
  | dic (ks : List (Int ⊕ Str)) (vs : List PV)
  deriving Inhabited

inductive Cell where
  | lst (xs : List PV)
  deriving Inhabited
abbrev Hs := List Cell

inductive SV where
  | no
  | val (v : PV)
  | own (v : PV)
  deriving Inhabited
abbrev Env := List SV

inductive Bop where
  | add | sub | mul | fdiv | mod | pow
  deriving DecidableEq
inductive Cop where
  | eq | ne | lt | le | gt | ge | is_ | isnot | in_ | notin
  deriving DecidableEq
inductive Bn where
  | len | all | any | sum | abs | int | list | tuple | max | min
  deriving DecidableEq
inductive Mn where
  | append | extend | pop | popAt
  deriving DecidableEq

/-- targets -/
inductive Tg where
  | nm (i : Nat)
  | tp (t : Tg)
  | nil
  | cons (t ts : Tg)

inductive Ex where
  | stuck
  | var (i : Nat)
  | con (v : PV)
  | bin (op : Bop) (a b : Ex)
  | neg (a : Ex)
  | cmp (op : Cop) (a b : Ex)
  | chain (op op' : Cop) (a b c : Ex)
  | and (a b : Ex)
  | or (a b : Ex)
  | not (a : Ex)
  | ite (c a b : Ex)
  | lst (es : Ex)
  | tup (es : Ex)
  | nil
  | cons (a es : Ex)
  | idx (a b : Ex)
  | sli (a lo hi : Ex)
  | call (f : Nat) (perm : List Nat) (es : Ex)
  | bcall (b : Bn) (es : Ex)
  | isi (a : Ex) (ts : List String)
  | meth (m : Mn) (o es : Ex)
  | lc (own : List Nat) (tg : Tg) (it ifs body : Ex)
  | lcin (tg : Tg) (it ifs body : Ex)
  | one (e : Ex)
  | iseq (e : Ex)
  | irng1 (a : Ex)
  | irng2 (a b : Ex)
  | izip (a b : Ex)
  | ienum (a : Ex)
  | dic0
  | cell (a : Ex)
  | sel (kvs : List (Int × Int)) (a : Ex)
  | dc (own : List Nat) (tg : Tg) (it ifs body : Ex)
  | kv (a b : Ex)
  | midx (o a : Ex)
  | lrng (a : Ex)

inductive Sm where
  | stuck
  | skip
  | asg (i : Nat) (e : Ex)
  | tasg (tg : Tg) (e : Ex)
  | par (i j : Nat) (a b : Ex)
  | seti (o i e : Ex)
  | expr (e : Ex)
  | ite (c : Ex) (a b : Sm)
  | seq (a b : Sm)
  | for_ (tg : Tg) (it : Ex) (body : Sm)
  | while_ (c : Ex) (body : Sm)
  | ret (e : Ex)
  | brk
  | cont
  | raise (c : Nat) (es : Ex)

inductive Out (α : Type) where
  | ok (a : α) (e : Env) (h : Hs)
  | exc (c : Nat) (fs : List PV) (e : Env) (h : Hs)
  | stuck
def Out.bind {α β : Type} (o : Out α) (f : α → Env → Hs → Out β) : Out β :=
  match o with
  | .ok a e h => f a e h
  | .exc c fs e h => .exc c fs e h
  | .stuck => .stuck
/-- no error may leave -/
def Out.noex {α : Type} : Out α → Out α
  | .exc .. => .stuck
  | o => o

inductive Rs where
  | slot (i : Nat)
  | v (p : PV) (fresh : Bool)
inductive Ret where
  | ret (p : PV) (fresh : Bool) (h : Hs)
  | exc (c : Nat) (fs : List PV) (h : Hs)
  | stuck
abbrev Calls := Nat → List PV → Hs → Ret

/-! ### reading -/
def view (h : Hs) : PV → PV
  | .ref n => match h[n]? with
    | some (.lst xs) => .lst xs
    | none => .ref n
  | p => p
def rd (r : Rs) (e : Env) (h : Hs) : Option PV :=
  match r with
  | .slot i => match e[i]? with
    | some (.val v) => some (view h v)
    | some (.own v) => some v
    | _ => none
  | .v p _ => some (view h p)
def esc (r : Rs) (e : Env) : Option (PV × Bool × Env) :=
  match r with
  | .slot i => match e[i]? with
    | some (.val v) => some (v, false, e)
    | some (.own v) => some (v, false, e.set i (.val v))
    | _ => none
  | .v p fr => some (p, fr, e)

def line : Nat := 16777216
def truthy : PV → Option Bool
  | .non => some false
  | .bl b => some b
  | .int i => some (i != 0)
  | .str s => if s.length ≤ line then some ((s.length : Int) != 0) else none
  | .lst xs => some (!xs.isEmpty)
  | .tup xs => some (!xs.isEmpty)
  | .dic ks _ => some (!ks.isEmpty)
  | _ => none

mutual
/-- data that == tells apart by what it is -/
def okD : PV → Bool
  | .non => true
  | .bl _ => true
  | .int _ => true
  | .str s => s.cps.all (· < 0x110000)
  | .lst xs => okDs xs
  | .tup xs => okDs xs
  | _ => false
def okDs : List PV → Bool
  | [] => true
  | x :: xs => okD x && okDs xs
end
mutual
/-- how deep it is -/
def dep : PV → Nat
  | .lst xs => deps xs + 1
  | .tup xs => deps xs + 1
  | _ => 0
def deps : List PV → Nat
  | [] => 0
  | x :: xs => max (dep x) (deps xs)
end
mutual
/-- == of plain data -/
def eqv : PV → PV → Bool
  | .non, .non => true
  | .bl a, .bl b => a == b
  | .bl a, .int j => (if a then 1 else 0) == j
  | .int i, .bl b => i == (if b then 1 else 0)
  | .int i, .int j => i == j
  | .str x, .str y => x == y
  | .lst xs, .lst ys => eqvs xs ys
  | .tup xs, .tup ys => eqvs xs ys
  | _, _ => false
def eqvs : List PV → List PV → Bool
  | [], [] => true
  | x :: xs, y :: ys => eqv x y && eqvs xs ys
  | _, _ => false
end
def opEq (x y : PV) : Option Bool := if okD x = true ∧ okD y = true ∧ min (dep x) (dep y) ≤ 64 then some (eqv x y) else none

mutual
/-- the very same value -/
def pvEq : PV → PV → Bool
  | .non, .non => true
  | .bl a, .bl b => a == b
  | .int i, .int j => i == j
  | .str x, .str y => x == y
  | .ty n, .ty m => n == m
  | .fn f, .fn g => f == g
  | .ref n, .ref m => n == m
  | .scr xs, .scr ys => pvsEq xs ys
  | .lst xs, .lst ys => pvsEq xs ys
  | .tup xs, .tup ys => pvsEq xs ys
  | .dic ks xs, .dic ls ys => decide (ks = ls) && pvsEq xs ys
  | _, _ => false
def pvsEq : List PV → List PV → Bool
  | [], [] => true
  | x :: xs, y :: ys => pvEq x y && pvsEq xs ys
  | _, _ => false
end
/-- cells that a walk leans on -/
abbrev Gd := List (Nat × List PV)
def gd1 (h : Hs) (z : Nat × List PV) : Bool := match h[z.1]? with
  | some (.lst xs) => pvsEq xs z.2
  | none => false
def gdOk (gd : Gd) (h : Hs) : Bool := gd.all (gd1 h)

def ixN (n : Nat) (i : Int) : Option Nat :=
  if 0 ≤ i then (if i < n then some i.toNat else none) else if -(n : Int) ≤ i then some (i + n).toNat else none
def sIx (n d : Nat) : Option Int → Nat
  | none => d
  | some v => if v < 0 then (v + (n : Int)).toNat else min v.toNat n
def cut (xs : List PV) (lo hi : Option Int) : List PV :=
  (xs.drop (sIx xs.length 0 lo)).take (sIx xs.length xs.length hi - sIx xs.length 0 lo)
def mulOk (i j : Int) : Bool := decide (i.natAbs.log2 + j.natAbs.log2 < 1000000)

def opBin : Bop → PV → PV → Option (PV × Bool)
  | .add, .int i, .int j => some (.int (i + j), false)
  | .add, .str i, .str j => if i.length + j.length ≤ line then some (.str (i ++ j), false) else none
  | .add, .lst xs, .lst ys => if xs.length + ys.length ≤ line then some (.lst (xs ++ ys), true) else none
  | .add, .tup xs, .tup ys => if xs.length + ys.length ≤ line then some (.tup (xs ++ ys), false) else none
  | .sub, .int i, .int j => some (.int (i - j), false)
  | .mul, .int i, .int j => if mulOk i j then some (.int (i * j), false) else none
  | .mul, .lst xs, .int k => if k < 9223372036854775808 ∧ -9223372036854775808 ≤ k ∧ xs.length * k.toNat ≤ line then some (.lst (List.replicate k.toNat xs).flatten, true) else none
  | .mul, .tup xs, .int k => if 1 ≤ k ∧ k ≤ 1000 ∧ 1 ≤ xs.length ∧ xs.length ≤ 1000 then some (.tup (List.replicate k.toNat xs).flatten, false) else none
  | .fdiv, .int i, .int j => if j ≠ 0 ∧ j.natAbs < 1073741824 then some (.int (i.fdiv j), false) else none
  | .mod, .int i, .int j => if j ≠ 0 then some (.int (i.fmod j), false) else none
  | .pow, .int i, .int j => if 0 ≤ j ∧ j ≤ 1000000 ∧ i.natAbs < 2 ^ 64 then some (.int (i ^ j.toNat), false) else none
  | _, _, _ => none

/-- is a value in some things -/
def opIn (x : PV) (ys : List PV) : Option Bool := if okD x = true ∧ okDs ys = true ∧ min (dep x) (deps ys) ≤ 64 then some (ys.any fun y => eqv y x) else none

def opCmp : Cop → PV → PV → Option Bool
  | .eq, x, y => opEq x y
  | .ne, x, y => (opEq x y).map (!·)
  | .lt, .int i, .int j => some (decide (i < j))
  | .le, .int i, .int j => some (decide (i ≤ j))
  | .gt, .int i, .int j => some (decide (j < i))
  | .ge, .int i, .int j => some (decide (j ≤ i))
  | .is_, x, .non => some (match x with | .non => true | _ => false)
  | .isnot, x, .non => some (match x with | .non => false | _ => true)
  | .is_, .bl a, .bl b => some (a == b)
  | .isnot, .bl a, .bl b => some (a != b)
  | .in_, x, .lst ys => opIn x ys
  | .in_, x, .tup ys => opIn x ys
  | .notin, x, .lst ys => (opIn x ys).map (!·)
  | .notin, x, .tup ys => (opIn x ys).map (!·)
  | _, _, _ => none

/-- keys and values -/
def keyOf : PV → Option (Int ⊕ Str)
  | .int i => some (.inl i)
  | .str s => some (.inr s)
  | _ => none
def putP (kvs : List ((Int ⊕ Str) × PV)) (k : Int ⊕ Str) (v : PV) : List ((Int ⊕ Str) × PV) :=
  if (kvs.any fun kv => decide (kv.1 = k)) = true then kvs.map (fun kv => if kv.1 = k then (kv.1, v) else kv) else kvs ++ [(k, v)]
def mkD : List ((Int ⊕ Str) × PV) → List PV → Option (List ((Int ⊕ Str) × PV))
  | acc, [] => some acc
  | acc, k :: v :: r => match keyOf k with
    | some k => mkD (putP acc k v) r
    | none => none
  | _, _ => none
def valP (ks : List (Int ⊕ Str)) (vs : List PV) (k : Int ⊕ Str) : Option PV := ((ks.zip vs).find? fun kv => decide (kv.1 = k)).map (·.2)
def fndI : List Int → Int → Option Nat
  | [], _ => none
  | j :: r, i => if j = i then some 0 else (fndI r i).map (· + 1)
def opIdx : PV → PV → Option PV
  | .dic ks vs, k => (keyOf k).bind (valP ks vs)
  | .lst xs, .int i => (ixN xs.length i).bind fun j => xs[j]?
  | .tup xs, .int i => (ixN xs.length i).bind fun j => xs[j]?
  | _, _ => none
def opSli : PV → Option Int → Option Int → Option (PV × Bool)
  | .lst xs, lo, hi => some (.lst (cut xs lo hi), true)
  | .tup xs, lo, hi => if sIx xs.length 0 lo = 0 ∧ sIx xs.length xs.length hi = xs.length then none else some (.tup (cut xs lo hi), false)
  | _, _, _ => none

def typeName : PV → Option String
  | .non => some "NoneType"
  | .bl _ => some "bool"
  | .int _ => some "int"
  | .str _ => some "str"
  | .lst _ => some "list"
  | .tup _ => some "tuple"
  | .dic _ _ => some "dict"
  | _ => none
/-- isinstance, by the names of plain types -/
def isType (n : String) (t : String) : Bool := n == t || (n == "bool" && t == "int")
def isAny (n : String) (ts : List String) : Bool := ts.any (isType n)

def allInts : List PV → Option (List Int)
  | [] => some []
  | .int i :: r => (allInts r).map (i :: ·)
  | _ :: _ => none
def allBools : List PV → Option (List Bool)
  | [] => some []
  | .bl i :: r => (allBools r).map (i :: ·)
  | _ :: _ => none

def opB : Bn → List PV → Option (PV × Bool)
  | .len, [.lst xs] => some (.int xs.length, false)
  | .len, [.tup xs] => some (.int xs.length, false)
  | .len, [.scr xs] => some (.int xs.length, false)
  | .len, [.dic ks _] => some (.int ks.length, false)
  | .len, [.str s] => if s.length ≤ line then some (.int s.length, false) else none
  | .all, [.lst xs] => (allBools xs).map fun bs => (.bl (bs.all id), false)
  | .any, [.lst xs] => (allBools xs).map fun bs => (.bl (bs.any id), false)
  | .sum, [.lst xs] => (allInts xs).map fun is => (.int is.sum, false)
  | .abs, [.int i] => some (.int (if i < 0 then -i else i), false)
  | .int, [.int i] => some (.int i, false)
  | .list, [.lst xs] => some (.lst xs, true)
  | .list, [.tup xs] => some (.lst xs, true)
  | .list, [.scr xs] => some (.lst xs, true)
  | .tuple, [.lst xs] => some (.tup xs, false)
  | .tuple, [.tup xs] => some (.tup xs, false)
  | .max, [.int i, .int j] => some (.int (if j > i then j else i), false)
  | .min, [.int i, .int j] => some (.int (if j < i then j else i), false)
  | _, _ => none

/-! ### targets -/
mutual
def bindT : Tg → PV → Env → Option Env
  | .nm i, p, e => if i < e.length then some (e.set i (.val p)) else none
  | .tp t, .tup xs, e => bindTs t xs e
  | _, _, _ => none
def bindTs : Tg → List PV → Env → Option Env
  | .nil, [], e => some e
  | .cons t ts, x :: xs, e => (bindT t x e).bind fun e1 => bindTs ts xs e1
  | _, _, _ => none
end

/-- the slots that a target stores to -/
def tgIs : Tg → List Nat
  | .nm i => [i]
  | .tp t => tgIs t
  | .nil => []
  | .cons t ts => tgIs t ++ tgIs ts
/-! ### loops -/
def lcLoop (gd : Gd) (f : PV → Env → Hs → Out (List PV)) : List PV → Env → Hs → Out (List PV)
  | [], e, h => if gdOk gd h = true then .ok [] e h else .stuck
  | x :: xs, e, h => if gdOk gd h = true then (f x e h).bind fun r e1 h1 => (lcLoop gd f xs e1 h1).bind fun rs e2 h2 => .ok (r ++ rs) e2 h2 else .stuck
def frzS : SV → SV
  | .own v => .val v
  | s => s
def frzAt : List Nat → Env → Env
  | [], e => e
  | v :: vs, e => (frzAt vs e).set v (frzS ((frzAt vs e).getD v .no))
def wipeE : List Nat → Env → Env
  | [], e => e
  | v :: vs, e => (wipeE vs e).set v .no
/-- the names of a block as they stood ahead of it -/
def backE : List Nat → Env → Env → Env
  | [], _, e => e
  | v :: vs, e0, e => (backE vs e0 e).set v (e0.getD v .no)

/-- the arguments in the order of the parameters -/
def permute (perm : List Nat) (ps : List PV) : List PV :=
  match perm with
  | [] => ps
  | _ => perm.map fun i => ps.getD i .non
def rngItems (lo hi : Int) : List PV := (List.range (hi - lo).toNat).map fun (k : Nat) => PV.int (lo + k)
def small62 (i : Int) : Bool := decide (-4611686018427387904 ≤ i ∧ i < 4611686018427387904)
def items : PV → Option (List PV)
  | .lst xs => some xs
  | .tup xs => some xs
  | .scr xs => some xs
  | _ => none
/-- a list that is walked: what it holds, the cell it is -/
def lstOf (h : Hs) : PV → Option (List PV × Gd)
  | .lst xs => some (xs, [])
  | .ref n => match h[n]? with
    | some (.lst xs) => some (xs, [(n, xs)])
    | none => none
  | _ => none
def seqOf (h : Hs) : PV → Option (List PV × Gd)
  | .tup xs => some (xs, [])
  | .scr xs => some (xs, [])
  | p => lstOf h p
def enumItems (xs : List PV) : List PV := (xs.zipIdx).map fun z => PV.tup [.int (z.2 : Nat), z.1]
def zipItems (xs ys : List PV) : List PV := (xs.zip ys).map fun z => PV.tup [z.1, z.2]
def optInt : Rs → Env → Hs → Option (Option Int)
  | r, e, h => match rd r e h with
    | some (.int i) => some (some i)
    | _ => none

/-- a call of a built-in type's method on what may be written -/
def opM : Mn → List PV → List PV → Option (PV × List PV)
  | .append, xs, [a] => if xs.length < line then some (.non, xs ++ [a]) else none
  | .extend, xs, [.lst ys] => if xs.length + ys.length ≤ line then some (.non, xs ++ ys) else none
  | .pop, xs, [] => (xs[xs.length - 1]?).map fun y => (y, xs.dropLast)
  | .popAt, xs, [.int i] => if -9223372036854775808 ≤ i ∧ i < 9223372036854775808 then (ixN xs.length i).bind fun k => (xs[k]?).map fun y => (y, xs.eraseIdx k) else none
  | _, _, _ => none
/-- what stands there and may be written -/
def mut? (r : Rs) (e : Env) (h : Hs) : Option (List PV) :=
  match r with
  | .slot i => match e[i]? with
    | some (.own (.lst xs)) => some xs
    | some (.val (.ref n)) => match h[n]? with
      | some (.lst xs) => some xs
      | none => none
    | _ => none
  | .v (.ref n) _ => match h[n]? with
    | some (.lst xs) => some xs
    | none => none
  | _ => none
def put (r : Rs) (xs : List PV) (e : Env) (h : Hs) : Env × Hs :=
  match r with
  | .slot i => match e[i]? with
    | some (.val (.ref n)) => (e, h.set n (.lst xs))
    | _ => (e.set i (.own (.lst xs)), h)
  | .v (.ref n) _ => (e, h.set n (.lst xs))
  | _ => (e, h)

def lift {α : Type} (o : Option α) (e : Env) (h : Hs) : Out α :=
  match o with
  | some a => .ok a e h
  | none => .stuck

section
variable (C : Calls)
mutual
def evA : Ex → Env → Hs → Out Rs
  | .var i, e, h => match e[i]? with
    | some (.val _) => .ok (.slot i) e h
    | some (.own _) => .ok (.slot i) e h
    | _ => .stuck
  | .con v, e, h => .ok (.v v false) e h
  | .bin op a b, e, h => (evA a e h).bind fun ra e1 h1 => (evA b e1 h1).bind fun rb e2 h2 =>
      match rd ra e2 h2, rd rb e2 h2 with
      | some x, some y => match opBin op x y with
        | some (z, fr) => .ok (.v z fr) e2 h2
        | none => .stuck
      | _, _ => .stuck
  | .neg a, e, h => (evA a e h).bind fun ra e1 h1 => match rd ra e1 h1 with
      | some (.int i) => .ok (.v (.int (-i)) false) e1 h1
      | _ => .stuck
  | .cmp op a b, e, h => (evA a e h).bind fun ra e1 h1 => (evA b e1 h1).bind fun rb e2 h2 =>
      match rd ra e2 h2, rd rb e2 h2 with
      | some x, some y => match opCmp op x y with
        | some z => .ok (.v (.bl z) false) e2 h2
        | none => .stuck
      | _, _ => .stuck
  | .chain op op' a b c, e, h => (evA a e h).bind fun ra e1 h1 => (evA b e1 h1).bind fun rb e2 h2 =>
      match rd ra e2 h2, rd rb e2 h2 with
      | some x, some y => match opCmp op x y with
        | some true => (evA c e2 h2).bind fun rc e3 h3 => match rd rb e3 h3, rd rc e3 h3 with
          | some y, some z => match opCmp op' y z with
            | some k => .ok (.v (.bl k) false) e3 h3
            | none => .stuck
          | _, _ => .stuck
        | some false => .ok (.v (.bl false) false) e2 h2
        | none => .stuck
      | _, _ => .stuck
  | .and a b, e, h => (evA a e h).bind fun ra e1 h1 => match (rd ra e1 h1).bind truthy with
      | some true => evA b e1 h1
      | some false => .ok ra e1 h1
      | none => .stuck
  | .or a b, e, h => (evA a e h).bind fun ra e1 h1 => match (rd ra e1 h1).bind truthy with
      | some true => .ok ra e1 h1
      | some false => evA b e1 h1
      | none => .stuck
  | .not a, e, h => (evA a e h).bind fun ra e1 h1 => match (rd ra e1 h1).bind truthy with
      | some k => .ok (.v (.bl (!k)) false) e1 h1
      | none => .stuck
  | .ite c a b, e, h => (evT c e h).bind fun k e1 h1 => if k = true then evA a e1 h1 else evA b e1 h1
  | .cell a, e, h => (evA a e h).bind fun r e1 h1 => match r with
      | .v (.lst xs) true => .ok (.v (.ref h1.length) false) e1 (h1 ++ [.lst xs])
      | _ => .stuck
  | .dic0, e, h => .ok (.v (.dic [] []) false) e h
  | .midx o a, e, h => (evA o e h).bind fun ra e1 h1 => match rd ra e1 h1 with
      | some (.lst _) => (evL a e1 h1).bind fun ps e2 h2 => match rd ra e2 h2, ps with
        | some (.lst xs), [.int i] => match (allInts xs).bind fun is => fndI is i with
          | some j => .ok (.v (.int j) false) e2 h2
          | none => .stuck
        | _, _ => .stuck
      | _ => .stuck
  | .lrng a, e, h => (evA a e h).bind fun ra e1 h1 => match rd ra e1 h1 with
      | some (.int j) => if -4611686018427387904 ≤ j ∧ j ≤ 16777216 then .ok (.v (.lst (rngItems 0 j)) true) e1 h1 else .stuck
      | _ => .stuck
  | .dc own tg it ifs body, e, h => (evI it e h).bind fun xs e1 h1 =>
      let e0 := frzAt own e1
      match (lcLoop xs.2 (fun x e h => match bindT tg x (wipeE own e) with
        | some e' => (evT ifs e' h).bind fun k e2 h2 => if k = true then evM body e2 h2 else .ok [] e2 h2
        | none => .stuck) xs.1 e0 h1).noex with
      | .ok ps e2 h2 => if ps.length ≤ line then (match mkD [] ps with
        | some kvs => .ok (.v (.dic (kvs.map (·.1)) (kvs.map (·.2))) false) (backE own e0 e2) h2
        | none => .stuck) else .stuck
      | _ => .stuck
  | .sel kvs a, e, h => (evA a e h).bind fun ra e1 h1 => match rd ra e1 h1 with
      | some (.int i) => match kvs.find? (fun kv => decide (kv.1 = i)) with
        | some kv => .ok (.v (.int kv.2) false) e1 h1
        | none => .stuck
      | _ => .stuck
  | .lst es, e, h => (evL es e h).bind fun ps e1 h1 => .ok (.v (.lst ps) true) e1 h1
  | .tup es, e, h => (evL es e h).bind fun ps e1 h1 => .ok (.v (.tup ps) false) e1 h1
  | .idx a b, e, h => (evA a e h).bind fun ra e1 h1 => (evA b e1 h1).bind fun rb e2 h2 =>
      match rd ra e2 h2, rd rb e2 h2 with
      | some x, some y => match opIdx x y with
        | some z => .ok (.v z false) e2 h2
        | none => .stuck
      | _, _ => .stuck
  | .sli a lo hi, e, h => (evA a e h).bind fun ra e1 h1 => (evO lo e1 h1).bind fun l e2 h2 => (evO hi e2 h2).bind fun u e3 h3 =>
      match rd ra e3 h3 with
      | some x => match opSli x l u with
        | some (z, fr) => .ok (.v z fr) e3 h3
        | none => .stuck
      | none => .stuck
  | .call f perm es, e, h => (evL es e h).bind fun ps e1 h1 => match C f (permute perm ps) h1 with
      | .ret p fr h2 => .ok (.v p fr) e1 h2
      | .exc c fs h2 => .exc c fs e1 h2
      | .stuck => .stuck
  | .bcall b es, e, h => (evR es e h).bind fun rs e1 h1 => match rs.mapM (fun r => rd r e1 h1) with
      | some xs => match opB b xs with
        | some (z, fr) => .ok (.v z fr) e1 h1
        | none => .stuck
      | none => .stuck
  | .isi a ts, e, h => (evA a e h).bind fun ra e1 h1 => match (rd ra e1 h1).bind typeName with
      | some n => .ok (.v (.bl (isAny n ts)) false) e1 h1
      | none => .stuck
  | .meth m o es, e, h => (evA o e h).bind fun ro e1 h1 => match mut? ro e1 h1 with
      | some _ => (evL es e1 h1).bind fun as e2 h2 => match mut? ro e2 h2 with
        | some xs => match opM m xs as with
          | some (z, ys) => let st := put ro ys e2 h2; .ok (.v z false) st.1 st.2
          | none => .stuck
        | none => .stuck
      | none => .stuck
  | .lc own tg it ifs body, e, h => (evI it e h).bind fun xs e1 h1 =>
      let e0 := frzAt own e1
      match (lcLoop xs.2 (fun x e h => match bindT tg x (wipeE own e) with
        | some e' => (evT ifs e' h).bind fun k e2 h2 => if k = true then evM body e2 h2 else .ok [] e2 h2
        | none => .stuck) xs.1 e0 h1).noex with
      | .ok ps e2 h2 => if ps.length ≤ line then .ok (.v (.lst ps) true) (backE own e0 e2) h2 else .stuck
      | _ => .stuck
  | _, _, _ => .stuck
/-- the comprehension's innermost part: one element, or a further clause -/
def evM : Ex → Env → Hs → Out (List PV)
  | .one a, e, h => (evA a e h).bind fun r e1 h1 => match esc r e1 with
      | some (p, _, e2) => .ok [p] e2 h1
      | none => .stuck
  | .kv a b, e, h => (evA a e h).bind fun r e1 h1 => match esc r e1 with
      | some (p, _, e2) => (evA b e2 h1).bind fun r3 e3 h3 => match esc r3 e3 with
        | some (q, _, e4) => .ok [p, q] e4 h3
        | none => .stuck
      | none => .stuck
  | .lcin tg it ifs body, e, h => (evI it e h).bind fun xs e1 h1 =>
      lcLoop xs.2 (fun x e h => match bindT tg x (wipeE (tgIs tg) e) with
        | some e' => (evT ifs e' h).bind fun k e2 h2 => if k = true then evM body e2 h2 else .ok [] e2 h2
        | none => .stuck) xs.1 e1 h1
  | _, _, _ => .stuck
/-- a test -/
def evT : Ex → Env → Hs → Out Bool
  | .nil, e, h => .ok true e h
  | .not a, e, h => (evT a e h).bind fun k e1 h1 => .ok (!k) e1 h1
  | .and a b, e, h => (evT a e h).bind fun k e1 h1 => if k = true then evT b e1 h1 else .ok false e1 h1
  | .or a b, e, h => (evT a e h).bind fun k e1 h1 => if k = true then .ok true e1 h1 else evT b e1 h1
  | .ite c a b, e, h => (evT c e h).bind fun k e1 h1 => if k = true then evT a e1 h1 else evT b e1 h1
  | a, e, h => (evA a e h).bind fun ra e1 h1 => lift ((rd ra e1 h1).bind truthy) e1 h1
/-- values that are handed on -/
def evL : Ex → Env → Hs → Out (List PV)
  | .nil, e, h => .ok [] e h
  | .cons a es, e, h => (evA a e h).bind fun r e1 h1 => match esc r e1 with
      | some (p, _, e2) => (evL es e2 h1).bind fun ps e3 h3 => .ok (p :: ps) e3 h3
      | none => .stuck
  | _, _, _ => .stuck
/-- values that are looked at -/
def evR : Ex → Env → Hs → Out (List Rs)
  | .nil, e, h => .ok [] e h
  | .cons a es, e, h => (evA a e h).bind fun r e1 h1 => (evR es e1 h1).bind fun rs e2 h2 => .ok (r :: rs) e2 h2
  | _, _, _ => .stuck
/-- a slice's part -/
def evO : Ex → Env → Hs → Out (Option Int)
  | .nil, e, h => .ok none e h
  | a, e, h => (evA a e h).bind fun ra e1 h1 => match rd ra e1 h1 with
      | some (.int i) => .ok (some i) e1 h1
      | _ => .stuck
/-- what is walked -/
def evI : Ex → Env → Hs → Out (List PV × Gd)
  | .iseq a, e, h => (evA a e h).bind fun r e1 h1 => match esc r e1 with
      | some (p, _, e2) => lift (seqOf h1 p) e2 h1
      | none => .stuck
  | .irng1 a, e, h => (evA a e h).bind fun ra e1 h1 => match rd ra e1 h1 with
      | some (.int j) => if small62 j = true then .ok (rngItems 0 j, []) e1 h1 else .stuck
      | _ => .stuck
  | .irng2 a b, e, h => (evA a e h).bind fun ra e1 h1 => (evA b e1 h1).bind fun rb e2 h2 => match rd ra e2 h2, rd rb e2 h2 with
      | some (.int i), some (.int j) => if small62 i = true ∧ small62 j = true then .ok (rngItems i j, []) e2 h2 else .stuck
      | _, _ => .stuck
  | .izip a b, e, h => (evA a e h).bind fun ra e1 h1 => match esc ra e1 with
      | some (p, _, e2) => (evA b e2 h1).bind fun rb e3 h3 => match esc rb e3 with
        | some (q, _, e4) => match p, q with
          | .tup xs, .tup ys => .ok (zipItems xs ys, []) e4 h3
          | p, q => match lstOf h3 p, lstOf h3 q with
            | some xs, some ys => .ok (zipItems xs.1 ys.1, xs.2 ++ ys.2) e4 h3
            | _, _ => .stuck
        | none => .stuck
      | none => .stuck
  | .ienum a, e, h => (evA a e h).bind fun r e1 h1 => match esc r e1 with
      | some (.tup xs, _, e2) => .ok (enumItems xs, []) e2 h1
      | some (p, _, e2) => match lstOf h1 p with
        | some xs => .ok (enumItems xs.1, xs.2) e2 h1
        | none => .stuck
      | none => .stuck
  | _, _, _ => .stuck
end

inductive Fl where
  | next | brk | cont
  | ret (p : PV) (fresh : Bool)

def mk (p : PV) (fr : Bool) : SV :=
  match p with
  | .lst xs => if fr then .own (.lst xs) else .val (.lst xs)
  | p => .val p
def forLoop (gd : Gd) (f : PV → Env → Hs → Out Fl) : List PV → Env → Hs → Out Fl
  | [], e, h => if gdOk gd h = true then .ok .next e h else .stuck
  | x :: xs, e, h => if gdOk gd h = true then (f x e h).bind fun r e1 h1 => match r with
    | .next => forLoop gd f xs e1 h1
    | .cont => forLoop gd f xs e1 h1
    | .brk => .ok .next e1 h1
    | .ret p fr => .ok (.ret p fr) e1 h1 else .stuck
def whLoop (c : Env → Hs → Out Bool) (b : Env → Hs → Out Fl) : Nat → Env → Hs → Out Fl
  | 0, _, _ => .stuck
  | n + 1, e, h => (c e h).bind fun k e1 h1 => if k = true then (b e1 h1).bind fun r e2 h2 => match r with
      | .next => whLoop c b n e2 h2
      | .cont => whLoop c b n e2 h2
      | .brk => .ok .next e2 h2
      | .ret p fr => .ok (.ret p fr) e2 h2
    else .ok .next e1 h1
def LF : Nat := 16777216
def evS : Sm → Env → Hs → Out Fl
  | .stuck, _, _ => .stuck
  | .skip, e, h => .ok .next e h
  | .asg i a, e, h => (evA C a e h).bind fun r e1 h1 => match esc r e1 with
      | some (p, fr, e2) => if i < e2.length then .ok .next (e2.set i (mk p fr)) h1 else .stuck
      | none => .stuck
  | .tasg tg a, e, h => (evA C a e h).bind fun r e1 h1 => match esc r e1 with
      | some (p, _, e2) => lift ((bindT tg p e2).map fun _ => Fl.next) ((bindT tg p e2).getD e2) h1
      | none => .stuck
  | .par i j a b, e, h => (evA C a e h).bind fun r e1 h1 => match esc r e1 with
      | some (p, fr, e2) => (evA C b e2 h1).bind fun r3 e3 h3 => match esc r3 e3 with
        | some (q, fr', e4) => if i < e4.length ∧ j < e4.length then .ok .next ((e4.set i (mk p fr)).set j (mk q fr')) h3 else .stuck
        | none => .stuck
      | none => .stuck
  | .seti o i a, e, h => (evA C a e h).bind fun r e1 h1 => match esc r e1 with
      | some (p, _, e2) => (evA C o e2 h1).bind fun ro e3 h3 => (evA C i e3 h3).bind fun ri e4 h4 =>
        match mut? ro e4 h4, rd ri e4 h4 with
        | some xs, some (.int k) => match ixN xs.length k with
          | some j => let st := put ro (xs.set j p) e4 h4; .ok .next st.1 st.2
          | none => .stuck
        | _, _ => .stuck
      | none => .stuck
  | .expr a, e, h => (evA C a e h).bind fun _ e1 h1 => .ok .next e1 h1
  | .ite c a b, e, h => (evT C c e h).bind fun k e1 h1 => if k = true then evS a e1 h1 else evS b e1 h1
  | .seq a b, e, h => (evS a e h).bind fun r e1 h1 => match r with
      | .next => evS b e1 h1
      | r => .ok r e1 h1
  | .for_ tg it body, e, h => (evI C it e h).bind fun xs e1 h1 => forLoop xs.2 (fun x e h => match bindT tg x e with
      | some e' => evS body e' h
      | none => .stuck) xs.1 e1 h1
  | .while_ c body, e, h => whLoop (fun e h => evT C c e h) (fun e h => evS body e h) LF e h
  | .ret a, e, h => (evA C a e h).bind fun r e1 h1 => match r with
      | .slot i => match e1[i]? with
        | some (.val v) => .ok (.ret v false) e1 h1
        | some (.own v) => .ok (.ret v true) (e1.set i .no) h1
        | _ => .stuck
      | .v p fr => .ok (.ret p fr) e1 h1
  | .brk, e, h => .ok .brk e h
  | .cont, e, h => .ok .cont e h
  | .raise c es, e, h => (evL C es e h).bind fun ps e1 h1 => .exc c ps e1 h1
end

/-- a def -/
structure Fn where
  np : Nat
  ns : Nat
  body : Sm
def finish : Out Fl → Ret
  | .ok (.ret p fr) _ h => .ret p fr h
  | .ok .next _ h => .ret .non false h
  | .exc c fs _ h => .exc c fs h
  | _ => .stuck
def envOf (d : Fn) (args : List PV) : Env := args.map .val ++ List.replicate (d.ns - d.np) .no
def callN (G : List Fn) : Nat → Calls
  | 0 => fun _ _ _ => .stuck
  | k + 1 => fun f args h => match G[f]? with
    | some d => if args.length = d.np then finish (evS (callN G k) d.body (envOf d args) h) else .stuck
    | none => .stuck
end PL

namespace PL
open PySem L2

/-- what the compiler knows -/
structure Sc where
  N : List Str
  sc : Scope
  blk : Bool
  asg : Str → Bool
  defs : List (Str × List Str)
  clss : List (Str × Nat)
  free : List Str
  cel : List Nat
  kws : List (Nat × Nat × List Str × List Nat)

def visB (sc : Scope) (x : Str) : Bool := match sc.names.lookup x with
  | some .local => true
  | some .cell => true
  | some .free => true
  | _ => false
def locB (sc : Scope) (x : Str) : Bool := match sc.names.lookup x with
  | some .local => true
  | some .cell => true
  | _ => false
def glB (sc : Scope) (x : Str) : Bool := match sc.names.lookup x with
  | some .globalImplicit => true
  | _ => false
def okName (x : Str) : Bool := !(x == ("__debug__" : Str)) && !(x == ("__classdict__" : Str)) && !(x == ("__name__" : Str))

def idxOf? (x : Str) : List Str → Option Nat
  | [] => none
  | y :: r => if x = y then some 0 else (idxOf? x r).map (· + 1)
def defOf? (x : Str) : List (Str × List Str) → Option (Nat × List Str)
  | [] => none
  | (y, ps) :: r => if x = y then some (0, ps) else (defOf? x r).map fun z => (z.1 + 1, z.2)
def clsOf? (x : Str) : List (Str × Nat) → Option (Nat × Nat)
  | [] => none
  | (y, k) :: r => if x = y then some (0, k) else (clsOf? x r).map fun z => (z.1 + 1, z.2)

def cName (S : Sc) (x : Str) : Ex :=
  if okName x then
    if visB S.sc x then (match idxOf? x S.N with | some i => .var i | none => .stuck)
    else if glB S.sc x then (match defOf? x S.defs with | some (i, _) => .con (.fn i) | none => .stuck)
    else .stuck
  else .stuck
def cConst : Const → Ex
  | .none => .con .non
  | .bool b => .con (.bl b)
  | .int i => .con (.int i)
  | .str s => .con (.str s)
  | _ => .stuck
def cBop : Operator → Option Bop
  | .Add => some .add
  | .Sub => some .sub
  | .Mult => some .mul
  | .FloorDiv => some .fdiv
  | .Mod => some .mod
  | .Pow => some .pow
  | _ => none
def cCop : CmpOp → Option Cop
  | .Eq => some .eq
  | .NotEq => some .ne
  | .Lt => some .lt
  | .LtE => some .le
  | .Gt => some .gt
  | .GtE => some .ge
  | .Is => some .is_
  | .IsNot => some .isnot
  | .In => some .in_
  | .NotIn => some .notin
/-- a list that is made here is a cell -/
def celIf (S : Sc) (p : Pos) (e : Ex) : Ex := if S.cel.any (fun n => n == 0 || n == p.line * 1000 + p.col) then .cell e else e
def isSetE : Expr → Bool
  | .Set .. => true
  | _ => false
def isStarE : Expr → Bool
  | .Starred .. => true
  | _ => false
def isSliceE : Expr → Bool
  | .Slice .. => true
  | _ => false

def cList (f : Expr → Ex) : List Expr → Ex
  | [] => .nil
  | e :: r => .cons (f e) (cList f r)
def cBools (op : BoolOp) (f : Expr → Ex) : List Expr → Ex
  | [] => .stuck
  | [a] => f a
  | a :: b :: r => match op with
    | .And => .and (f a) (cBools op f (b :: r))
    | .Or => .or (f a) (cBools op f (b :: r))

def bnOf (x : Str) : Option (Bn × Nat × Nat) :=
  if x = ("len" : Str) then some (.len, 1, 1) else
  if x = ("all" : Str) then some (.all, 1, 1) else
  if x = ("any" : Str) then some (.any, 1, 1) else
  if x = ("sum" : Str) then some (.sum, 1, 1) else
  if x = ("abs" : Str) then some (.abs, 1, 1) else
  if x = ("int" : Str) then some (.int, 1, 1) else
  if x = ("list" : Str) then some (.list, 1, 1) else
  if x = ("tuple" : Str) then some (.tuple, 1, 1) else
  if x = ("max" : Str) then some (.max, 2, 2) else
  if x = ("min" : Str) then some (.min, 2, 2) else none
/-- the plain types that isinstance is asked of -/
def tyName (S : Sc) (x : Str) : Option String :=
  if okName x && glB S.sc x && S.free.contains x then
    (if x = ("int" : Str) then some "int" else if x = ("bool" : Str) then some "bool" else if x = ("str" : Str) then some "str"
     else if x = ("list" : Str) then some "list" else if x = ("tuple" : Str) then some "tuple" else if x = ("dict" : Str) then some "dict" else none)
  else none
def tyNames (S : Sc) : List Expr → Option (List String)
  | [] => some []
  | .Name x _ :: r => match tyName S x, tyNames S r with
    | some n, some ns => some (n :: ns)
    | _, _ => none
  | _ :: _ => none
/-- the names of keywords, all of them written -/
def kwNames : List Keyword → Option (List Str)
  | [] => some []
  | ⟨some n, _, _⟩ :: r => (kwNames r).map (n :: ·)
  | ⟨none, _, _⟩ :: _ => none
/-- which written argument goes to which parameter -/
def permOf (ps : List Str) (n : Nat) (ks : List Str) : Option (List Nat) :=
  (List.range ps.length).mapM fun i => if i < n then some i else match ps[i]? with
    | some x => (idxOf? x ks).map (· + n)
    | none => none

def mnOf (m : Str) (n : Nat) : Option Mn :=
  if m = ("append" : Str) && n = 1 then some .append else
  if m = ("extend" : Str) && n = 1 then some .extend else
  if m = ("pop" : Str) && n = 0 then some .pop else
  if m = ("pop" : Str) && n = 1 then some .popAt else none

/-- a name, or an item -/
def plainObj : Expr → Bool
  | .Name .. => true
  | .Subscript .. => true
  | _ => false
def cTg (S : Sc) : Nat → Expr → Option Tg
  | 0, _ => none
  | n + 1, .Name x _ => if okName x && locB S.sc x && S.asg x then (idxOf? x S.N).map .nm else none
  | n + 1, .Tuple es _ _ => if es.all fun e => !isStarE e then
      (es.foldr (fun e t => match cTg S n e, t with | some a, some b => some (.cons a b) | _, _ => none) (some Tg.nil)).map .tp else none
  | _, _ => none
/-- the slots of a block's own names -/
def ownOf (N : List Str) (scope : Scope) : List (Str × Nat) :=
  scope.names.filterMap fun y => match y.2 with
    | .local => (idxOf? y.1 N).map fun i => (y.1, i)
    | .cell => (idxOf? y.1 N).map fun i => (y.1, i)
    | _ => none
def inBlk (S : Sc) (scope : Scope) : Sc :=
  { S with sc := relS scope S.sc, blk := true, asg := fun x => scope.names.lookup x == some .cell || scope.names.lookup x == some .local }
section
variable (f : Sc → Expr → Ex) (S : Sc)
def cIt (it : Expr) (tup : Bool) : Ex :=
  match it with
  | .Call (.Name x p) es kws pos =>
    if glB S.sc x && okName x && S.free.contains x && kws.isEmpty && es.all fun e => !isStarE e then
      (if x = ("range" : Str) then (match es with
        | [a] => .irng1 (f S a)
        | [a, b] => .irng2 (f S a) (f S b)
        | _ => .stuck)
       else if x = ("zip" : Str) && tup then (match es with
        | [a, b] => .izip (f S a) (f S b)
        | _ => .stuck)
       else if x = ("enumerate" : Str) && tup then (match es with
        | [a] => .ienum (f S a)
        | _ => .stuck)
       else .iseq (f S (.Call (.Name x p) es kws pos)))
    else .iseq (f S (.Call (.Name x p) es kws pos))
  | .Set .. => .stuck
  | e => .iseq (f S e)
def isTup : Expr → Bool
  | .Tuple .. => true
  | _ => false
def cIfs (ifs : List Expr) : Ex :=
  match ifs with
  | [] => .nil
  | [c] => f S c
  | _ => .stuck
def cCall (x : Str) (es : List Expr) (kws : List Keyword) (pos : Pos) : Ex :=
  if okName x && glB S.sc x && es.all fun e => !isStarE e then
    match defOf? x S.defs with
    | some (i, ps) => match kwNames kws with
      | some ks => if kws.isEmpty then (if es.length = ps.length then .call i [] (cList (f S) es) else .stuck)
        else if es.length + ks.length = ps.length then (match permOf ps es.length ks with
          | some perm => if (i, es.length, ks, perm) ∈ S.kws ∧ perm ≠ [] then .call i perm (cList (f S) (es ++ kws.map (·.value))) else .stuck
          | none => .stuck) else .stuck
      | none => .stuck
    | none => if S.free.contains x && kws.isEmpty then
        (if x = ("isinstance" : Str) then (match es with
          | [a, .Name y _] => (match tyName S y with | some n => .isi (f S a) [n] | none => .stuck)
          | [a, .Tuple ys _ _] => if ys.length ≤ 1000 then (match tyNames S ys with | some ns => .isi (f S a) ns | none => .stuck) else .stuck
          | _ => .stuck)
         else match bnOf x with
          | some (b, lo, hi) => if lo ≤ es.length ∧ es.length ≤ hi then (if b = .list then celIf S pos (.bcall b (cList (f S) es)) else .bcall b (cList (f S) es)) else .stuck
          | none => .stuck)
      else .stuck
  else .stuck
def cComp (elt : Expr) (gs : List Comprehension) (scope : Scope) : Ex :=
  let own := ownOf S.N scope
  let S' := inBlk S scope
  if blkC S.N S.sc scope own then
    match gs with
    | [⟨tg, it, ifs, 0⟩] => if isSetE it then .stuck else match cTg S' 8 tg with
      | some t => if (tgIs t).all (own.map (·.2)).contains then .lc (own.map (·.2)) t (cIt f S it (isTup tg)) (cIfs f S' ifs) (.one (f S' elt)) else .stuck
      | none => .stuck
    | [⟨tg, it, ifs, 0⟩, ⟨tg1, it1, ifs1, 0⟩] => if isSetE it || isSetE it1 then .stuck else match cTg S' 8 tg, cTg S' 8 tg1 with
      | some t, some t1 => if (tgIs t).all (own.map (·.2)).contains && (tgIs t1).all (own.map (·.2)).contains && (tgIs t).all (fun i => !(tgIs t1).contains i) then
          .lc (own.map (·.2)) t (cIt f S it (isTup tg)) (cIfs f S' ifs) (.lcin t1 (cIt f S' it1 (isTup tg1)) (cIfs f S' ifs1) (.one (f S' elt))) else .stuck
      | _, _ => .stuck
    | _ => .stuck
  else .stuck
def cDComp (kx vx : Expr) (gs : List Comprehension) (scope : Scope) : Ex :=
  let own := ownOf S.N scope
  let S' := inBlk S scope
  if blkC S.N S.sc scope own then
    match gs with
    | [⟨tg, it, ifs, 0⟩] => if isSetE it then .stuck else match cTg S' 8 tg with
      | some t => if (tgIs t).all (own.map (·.2)).contains then .dc (own.map (·.2)) t (cIt f S it (isTup tg)) (cIfs f S' ifs) (.kv (f S' kx) (f S' vx)) else .stuck
      | none => .stuck
    | _ => .stuck
  else .stuck
end
/-- list(range(..)) -/
def rngCall (S : Sc) (x y : Str) : Bool := decide (x = ("list" : Str)) && decide (y = ("range" : Str)) && glB S.sc x && glB S.sc y && S.free.contains x && S.free.contains y
/-- a dict display of written integers -/
def selOf : List (Option Expr) → List Expr → Option (List (Int × Int))
  | [], [] => some []
  | some (.Constant (.int k) _ _) :: ks, .Constant (.int v) _ _ :: vs => (selOf ks vs).map ((k, v) :: ·)
  | _, _ => none
def selFits (ks : List (Option Expr)) (vs : List Expr) : Option (List (Int × Int)) := match selOf ks vs with
  | some kvs => if kvs.length ≤ 15 ∧ 1 ≤ kvs.length ∧ (kvs.map (·.1)).Nodup then some kvs else none
  | none => none
def cE : Nat → Sc → Expr → Ex
  | 0, _, _ => .stuck
  | n + 1, S, e => match e with
    | .Name x _ => cName S x
    | .Constant c _ _ => cConst c
    | .BinOp a op b _ => (match cBop op with | some o => .bin o (cE n S a) (cE n S b) | none => .stuck)
    | .UnaryOp .USub a _ => .neg (cE n S a)
    | .UnaryOp .Not a _ => .not (cE n S a)
    | .BoolOp op vs _ => cBools op (cE n S) vs
    | .Compare a [op] [b] _ => (match cCop op with | some o => if isSetE b then .stuck else .cmp o (cE n S a) (cE n S b) | none => .stuck)
    | .Compare a [op, op'] [b, c] _ => (match cCop op, cCop op' with
        | some o, some o' => if isSetE b || isSetE c then .stuck else .chain o o' (cE n S a) (cE n S b) (cE n S c)
        | _, _ => .stuck)
    | .IfExp c a b _ => .ite (cE n S c) (cE n S a) (cE n S b)
    | .List es pos => if es.length ≤ 1000 && es.all fun e => !isStarE e then celIf S pos (.lst (cList (cE n S) es)) else .stuck
    | .Tuple es _ _ => if es.length ≤ 1000 && es.all fun e => !isStarE e then .tup (cList (cE n S) es) else .stuck
    | .Dict [] [] _ => .dic0
    | .Subscript (.Dict ks vs _) b _ => if isSliceE b then .stuck else (match selFits ks vs with
        | some kvs => .sel kvs (cE n S b)
        | none => .stuck)
    | .Subscript a (.Slice lo hi none _) _ => .sli (cE n S a) (match lo with | some l => cE n S l | none => .nil) (match hi with | some l => cE n S l | none => .nil)
    | .Subscript a b _ => if isSliceE b then .stuck else .idx (cE n S a) (cE n S b)
    | .Call (.Name x xp) [.Call (.Name y yp) [a] [] q] [] pos => if rngCall S x y && !isStarE a then celIf S pos (.lrng (cE n S a)) else cCall (cE n) S x [.Call (.Name y yp) [a] [] q] [] pos
    | .Call (.Name x _) es kws pos => cCall (cE n) S x es kws pos
    | .Call (.Attribute o m apos) es [] pos => if plainObj o && apos.endLine == pos.line && decide (es.length ≤ 4) && es.all fun e => !isStarE e then
        (match mnOf m es.length with | some k => .meth k (cE n S o) (cList (cE n S) es) | none => if m = ("index" : Str) ∧ es.length = 1 then .midx (cE n S o) (cList (cE n S) es) else .stuck) else .stuck
    | .DictComp kx vx gs scope _ => cDComp (cE n) S kx vx gs scope
    | .ListComp elt gs scope pos => celIf S pos (cComp (cE n) S elt gs scope)
    | _ => .stuck

def isLC : Expr → Bool
  | .ListComp .. => true
  | .SetComp .. => true
  | .DictComp .. => true
  | _ => false
/-- plain local names in a row -/
def swapOk (ts : List Expr) (vs : List Expr) (S : Sc) : Bool := true

def cSeq : List Sm → Sm
  | [] => .skip
  | [s] => s
  | s :: r => .seq s (cSeq r)
/-- a comprehension is stored ahead of its block's end -/
def lcFits (S : Sc) (x : Str) (px : Pos) : Expr → Bool
  | .ListComp _ _ s p => !(S.sc.names.lookup x == some .local) || ((S.sc.names.lookup x == some .local) && (px.line == p.line) && !(s.names.any fun (n, k) => n == x && (k == .local || k == .cell)))
  | .DictComp _ _ _ s p => !(S.sc.names.lookup x == some .local) || ((S.sc.names.lookup x == some .local) && (px.line == p.line) && !(s.names.any fun (n, k) => n == x && (k == .local || k == .cell)))
  | .SetComp .. => false
  | _ => true
/-- two names in a row, two values -/
def parFits (S : Sc) (x y : Str) (px py : Pos) (a b : Expr) : Bool := (S.sc.names.lookup x == some .local) && (S.sc.names.lookup y == some .local) && (px.line == py.line) && decide (x ≠ y) && !isStarE a && !isStarE b && !(foldedForSure 8 a && foldedForSure 8 b) && !(constantsAlone 8 a && constantsAlone 8 b)
section
variable (n : Nat) (S : Sc)
def cAssign (tg : Expr) (e : Expr) : Sm :=
  match tg with
  | .Name x px => if okName x && locB S.sc x && S.asg x && lcFits S x px e then (match idxOf? x S.N with | some i => .asg i (cE n S e) | none => .stuck) else .stuck
  | .Subscript o i _ => if isLC e || isSliceE i then .stuck else .seti (cE n S o) (cE n S i) (cE n S e)
  | .Tuple [.Name x px, .Name y py] k pt => (match e with
    | .Tuple [a, b] _ _ => if !parFits S x y px py a b then (if !(S.sc.names.lookup x == some .local) || !(S.sc.names.lookup y == some .local) then (match cTg S 8 (.Tuple [.Name x px, .Name y py] k pt) with | some t => .tasg t (cE n S e) | none => .stuck) else .stuck) else (match idxOf? x S.N, idxOf? y S.N with
      | some i, some j => if i = j then .stuck else .par i j (cE n S a) (cE n S b)
      | _, _ => .stuck)
    | .Tuple .. => .stuck
    | e => if isLC e then .stuck else (match cTg S 8 (.Tuple [.Name x px, .Name y py] k pt) with | some t => .tasg t (cE n S e) | none => .stuck))
  | .Tuple ts k pt => (match e with
    | .Tuple .. => .stuck
    | e => if isLC e then .stuck else (match cTg S 8 (.Tuple ts k pt) with | some t => .tasg t (cE n S e) | none => .stuck))
  | _ => .stuck
end
def cS : Nat → Sc → Stmt → Sm
  | 0, _, _ => .stuck
  | n + 1, S, st => match st with
    | .Pass _ => .skip
    | .Break _ => .brk
    | .Continue _ => .cont
    | .Expr (.Constant (.str _) _ _) _ => .skip
    | .Expr e _ => if isLC e then .stuck else .expr (cE 60 S e)
    | .Assign [tg] e _ => cAssign 60 S tg e
    | .If c a b _ => .ite (cE 60 S c) (cSeq (a.map (cS n S))) (cSeq (b.map (cS n S)))
    | .For tg it body [] _ => if isSetE it then .stuck else (match cTg S 8 tg with
        | some t => .for_ t (cIt (cE 60) S it (isTup tg)) (cSeq (body.map (cS n S)))
        | none => .stuck)
    | .While c body [] _ => .while_ (cE 60 S c) (cSeq (body.map (cS n S)))
    | .Return none _ => .ret (.con .non)
    | .Return (some e) _ => .ret (cE 60 S e)
    | _ => .stuck
def cBody (S : Sc) (b : List Stmt) : Sm := cSeq (b.map (cS 60 S))
end PL

/-! What a plain value stands for in the abstract heap; the state; the operators. -/
namespace PL
open PySem PySem.Spec PyProof.Rows L2

/-- what of the text is known -/
structure Tx where
  P : Program
  w : World
  K : PySem.W.Frag
  mg : Str → Option Value
  base : Heap
  fnA : Nat → Option Addr

/-- ghosts: what is never written any more; where the cells stand -/
structure Gh where
  F : Addr → Prop
  ce : List Addr

def KTup (K : PySem.W.Frag) (a : Addr) (xs : List V) : Prop :=
  ∃ (o : Obj) (its : Array Value) (n : Nat), K.lookup a = some o ∧ o.cls = .type "tuple" ∧ o.data = .seq its n ∧ its.size ≤ sizeLine ∧ Vals xs its.toList

def KLst (K : PySem.W.Frag) (a : Addr) (xs : List V) : Prop :=
  ∃ (o : Obj) (its : Array Value) (n : Nat), K.lookup a = some o ∧ o.cls = .type "list" ∧ o.dict = none ∧ o.data = .seq its n ∧ its.size ≤ sizeLine ∧ Vals xs its.toList

mutual
inductive Tr (T : Tx) (g : Gh) (H : Hp) : PV → V → Prop
  | non : Tr T g H .non .non
  | bl (b : Bool) : Tr T g H (.bl b) (.bl b)
  | int (i : Int) : Tr T g H (.int i) (.int i)
  | str (s : Str) : Tr T g H (.str s) (.str s)
  | ty (n : String) : Tr T g H (.ty n) (.ty n)
  | fn {i : Nat} {f : Addr} (h : T.fnA i = some f) : Tr T g H (.fn i) (.ref f)
  | ref {n : Nat} {a : Addr} (h : g.ce[n]? = some a) : Tr T g H (.ref n) (.ref a)
  | scr {a : Addr} {o : Obj} {xs : List PV} {vs : List V} (hF : g.F a) (h : H a = some (.frz o (.lst vs))) (hl : vs.length ≤ sizeLine) (r : TrL T g H xs vs) : Tr T g H (.scr xs) (.ref a)
  | scrK {a : Addr} {xs : List PV} {vs : List V} (h : KLst T.K a vs) (hl : vs.length ≤ sizeLine) (r : TrL T g H xs vs) : Tr T g H (.scr xs) (.ref a)
  | lst {a : Addr} {xs : List PV} {vs : List V} (hF : g.F a) (h : H a = some (.lst vs)) (hl : vs.length ≤ sizeLine) (r : TrL T g H xs vs) : Tr T g H (.lst xs) (.ref a)
  | tup {a : Addr} {xs : List PV} {vs : List V} (hF : g.F a) (h : H a = some (.tup vs)) (hl : vs.length ≤ sizeLine) (r : TrL T g H xs vs) : Tr T g H (.tup xs) (.ref a)
  | tupK {a : Addr} {xs : List PV} {vs : List V} (h : KTup T.K a vs) (r : TrL T g H xs vs) : Tr T g H (.tup xs) (.ref a)
  | dic {a : Addr} {ks : List Key} {xs : List PV} {vs : List V} (hF : g.F a) (h : H a = some (.dK (ks.zip vs))) (hl : ks.length = vs.length) (r : TrL T g H xs vs) : Tr T g H (.dic ks xs) (.ref a)
inductive TrL (T : Tx) (g : Gh) (H : Hp) : List PV → List V → Prop
  | nil : TrL T g H [] []
  | cons {p : PV} {v : V} {ps : List PV} {vs : List V} (h : Tr T g H p v) (t : TrL T g H ps vs) : TrL T g H (p :: ps) (v :: vs)
end

structure Ext (g : Gh) (H : Hp) (g' : Gh) (H' : Hp) : Prop where
  F : ∀ a, g.F a → g'.F a
  H : ∀ a, g.F a → H' a = H a
  ce : ∃ l, g'.ce = g.ce ++ l

theorem Ext.refl (g : Gh) (H : Hp) : Ext g H g H := ⟨fun _ h => h, fun _ _ => rfl, [], by simp⟩
theorem Ext.trans {g g1 g2 : Gh} {H H1 H2 : Hp} (a : Ext g H g1 H1) (b : Ext g1 H1 g2 H2) : Ext g H g2 H2 := by
  obtain ⟨l, e⟩ := a.ce
  obtain ⟨l', e'⟩ := b.ce
  exact ⟨fun x h => b.F x (a.F x h), fun x h => (b.H x (a.F x h)).trans (a.H x h), l ++ l', by rw [e', e, List.append_assoc]⟩

section
variable {T : Tx} {g g' : Gh} {H H' : Hp}
theorem ce_ext (e : Ext g H g' H') {n : Nat} {a : Addr} (h : g.ce[n]? = some a) : g'.ce[n]? = some a := by
  obtain ⟨l, q⟩ := e.ce
  rw [q, List.getElem?_append_left (List.getElem?_eq_some_iff.mp h).1]
  exact h
mutual
theorem Tr.ext (e : Ext g H g' H') : ∀ {p : PV} {v : V}, Tr T g H p v → Tr T g' H' p v
  | _, _, .non => .non
  | _, _, .bl b => .bl b
  | _, _, .int i => .int i
  | _, _, .str s => .str s
  | _, _, .ty n => .ty n
  | _, _, .fn h => .fn h
  | _, _, .ref h => .ref (ce_ext e h)
  | _, _, .scr hF h hl r => .scr (e.F _ hF) ((e.H _ hF).trans h) hl (TrL.ext e r)
  | _, _, .scrK h hl r => .scrK h hl (TrL.ext e r)
  | _, _, .lst hF h hl r => .lst (e.F _ hF) ((e.H _ hF).trans h) hl (TrL.ext e r)
  | _, _, .tup hF h hl r => .tup (e.F _ hF) ((e.H _ hF).trans h) hl (TrL.ext e r)
  | _, _, .tupK h r => .tupK h (TrL.ext e r)
  | _, _, .dic hF h hl r => .dic (e.F _ hF) ((e.H _ hF).trans h) hl (TrL.ext e r)
theorem TrL.ext (e : Ext g H g' H') : ∀ {ps : List PV} {vs : List V}, TrL T g H ps vs → TrL T g' H' ps vs
  | _, _, .nil => .nil
  | _, _, .cons h t => .cons (Tr.ext e h) (TrL.ext e t)
end
theorem TrL.length : ∀ {ps : List PV} {vs : List V}, TrL T g H ps vs → ps.length = vs.length
  | _, _, .nil => rfl
  | _, _, .cons _ t => by simp [TrL.length t]
theorem TrL.get : ∀ {ps : List PV} {vs : List V} {i : Nat} {p : PV}, TrL T g H ps vs → ps[i]? = some p → ∃ v, vs[i]? = some v ∧ Tr T g H p v
  | _, _, _, _, .nil, e => by simp at e
  | _, _, 0, _, .cons h _, e => by simp at e; subst e; exact ⟨_, rfl, h⟩
  | _, _, i + 1, p, .cons _ t, e => by
    obtain ⟨v, h1, h2⟩ := TrL.get (i := i) (p := p) t (by simpa using e)
    exact ⟨v, by simpa using h1, h2⟩
theorem TrL.getV : ∀ {ps : List PV} {vs : List V} {i : Nat} {v : V}, TrL T g H ps vs → vs[i]? = some v → ∃ p, ps[i]? = some p ∧ Tr T g H p v
  | _, _, _, _, .nil, e => by simp at e
  | _, _, 0, _, .cons h _, e => by simp at e; subst e; exact ⟨_, rfl, h⟩
  | _, _, i + 1, p, .cons _ t, e => by
    obtain ⟨v, h1, h2⟩ := TrL.getV (i := i) (v := p) t (by simpa using e)
    exact ⟨v, by simpa using h1, h2⟩
theorem TrL.append : ∀ {ps qs : List PV} {vs ws : List V}, TrL T g H ps vs → TrL T g H qs ws → TrL T g H (ps ++ qs) (vs ++ ws)
  | _, _, _, _, .nil, s => s
  | _, _, _, _, .cons h t, s => .cons h (TrL.append t s)
theorem TrL.take : ∀ {ps : List PV} {vs : List V} (n : Nat), TrL T g H ps vs → TrL T g H (ps.take n) (vs.take n)
  | _, _, 0, _ => .nil
  | _, _, _ + 1, .nil => .nil
  | _, _, n + 1, .cons h t => .cons h (TrL.take n t)
theorem TrL.drop : ∀ {ps : List PV} {vs : List V} (n : Nat), TrL T g H ps vs → TrL T g H (ps.drop n) (vs.drop n)
  | _, _, 0, r => r
  | _, _, _ + 1, .nil => .nil
  | _, _, n + 1, .cons _ t => TrL.drop n t
theorem TrL.set {p : PV} {v : V} (r : Tr T g H p v) : ∀ {ps : List PV} {vs : List V} (i : Nat), TrL T g H ps vs → TrL T g H (ps.set i p) (vs.set i v)
  | _, _, _, .nil => .nil
  | _, _, 0, .cons _ t => .cons r t
  | _, _, i + 1, .cons h t => .cons h (TrL.set r i t)
theorem TrL.dropLast {ps : List PV} {vs : List V} (h : TrL T g H ps vs) : TrL T g H ps.dropLast vs.dropLast := by
  rw [List.dropLast_eq_take, List.dropLast_eq_take, h.length]
  exact h.take _
theorem TrL.eraseIdx : ∀ {ps : List PV} {vs : List V} (i : Nat), TrL T g H ps vs → TrL T g H (ps.eraseIdx i) (vs.eraseIdx i)
  | _, _, _, .nil => .nil
  | _, _, 0, .cons _ t => t
  | _, _, i + 1, .cons h t => .cons h (TrL.eraseIdx i t)
theorem TrL.rep {ps : List PV} {vs : List V} (h : TrL T g H ps vs) : ∀ k : Nat, TrL T g H (List.replicate k ps).flatten (List.replicate k vs).flatten
  | 0 => .nil
  | k + 1 => by
    rw [List.replicate_succ, List.replicate_succ, List.flatten_cons, List.flatten_cons]
    exact h.append (TrL.rep h k)
theorem TrL.nil_iff {ps : List PV} {vs : List V} (r : TrL T g H ps vs) : ps = [] ↔ vs = [] := by
  cases r <;> simp
theorem TrL.ints : ∀ {ps : List PV} {vs : List V} {is : List Int}, TrL T g H ps vs → allInts ps = some is → vs = is.map V.int
  | _, _, _, .nil, e => by simp [allInts] at e; subst e; rfl
  | _, _, is, .cons h t, e => by
    cases h <;> simp [allInts] at e
    obtain ⟨js, e1, rfl⟩ := e
    rw [TrL.ints t e1]; rfl
theorem TrL.bools : ∀ {ps : List PV} {vs : List V} {is : List Bool}, TrL T g H ps vs → allBools ps = some is → vs = is.map V.bl
  | _, _, _, .nil, e => by simp [allBools] at e; subst e; rfl
  | _, _, is, .cons h t, e => by
    cases h <;> simp [allBools] at e
    obtain ⟨js, e1, rfl⟩ := e
    rw [TrL.bools t e1]; rfl
end

/-! ### the state -/
/-- the entry of a def: its heap, what was frozen, the cells -/
structure En where
  He : Hp
  F0 : Addr → Prop
  ce0 : List Addr

/-- a list at a, of these -/
def ListAt (T : Tx) (g : Gh) (H : Hp) (xs : List PV) (a : Addr) : Prop := ∃ vs, H a = some (.lst vs) ∧ vs.length ≤ sizeLine ∧ TrL T g H xs vs
def OwnC (T : Tx) (g : Gh) (H : Hp) : PV → Addr → Prop
  | .lst xs, a => ListAt T g H xs a
  | _, _ => False
structure Owned (T : Tx) (n : En) (g : Gh) (H : Hp) (p : PV) (a : Addr) : Prop where
  nF : ¬ g.F a
  nc : a ∉ g.ce
  ne : n.He a = none
  at_ : OwnC T g H p a
def SlAt (T : Tx) (n : En) (g : Gh) (H : Hp) : SV → Option (Option V) → Prop
  | .no, _ => True
  | .val p, o => ∃ w, o = some (some w) ∧ Tr T g H p w
  | .own p, o => ∃ a, o = some (some (.ref a)) ∧ Owned T n g H p a
def CellAt' (T : Tx) (g : Gh) (H : Hp) : Cell → Addr → Prop
  | .lst xs, a => ListAt T g H xs a

structure Sim (T : Tx) (n : En) (g : Gh) (env : Env) (h : Hs) (σ : List (Option V)) (H : Hp) : Prop where
  len : env.length = σ.length
  fin : ∀ a, g.F a → H a ≠ none
  F0 : ∀ a, n.F0 a → g.F a
  Fn : ∀ a, g.F a → n.F0 a ∨ n.He a = none
  c0 : ∃ l, g.ce = n.ce0 ++ l ∧ ∀ a ∈ l, n.He a = none
  cF : ∀ a ∈ g.ce, ¬ g.F a
  cd : g.ce.Nodup
  cl : h.length = g.ce.length
  cv : ∀ (i : Nat) (c : Cell) (a : Addr), h[i]? = some c → g.ce[i]? = some a → CellAt' T g H c a
  fr : ∀ a, n.He a ≠ none → a ∉ g.ce → H a = n.He a
  sl : ∀ (i : Nat) (s : SV), env[i]? = some s → SlAt T n g H s (σ[i]?)
  od : ∀ (i j : Nat) (p q : PV) (w : V), env[i]? = some (.own p) → env[j]? = some (.own q) → σ[i]? = some (some w) → σ[j]? = some (some w) → i = j

section
variable {T : Tx} {n : En} {g g' : Gh} {H H' : Hp} {env : Env} {h : Hs} {σ : List (Option V)}

theorem ListAt.ext (e : Ext g H g' H') {xs : List PV} {a : Addr} (hH : H' a = H a) (r : ListAt T g H xs a) : ListAt T g' H' xs a := by
  obtain ⟨vs, h1, h2, h3⟩ := r
  exact ⟨vs, hH.trans h1, h2, h3.ext e⟩
theorem OwnC.ext (e : Ext g H g' H') {p : PV} {a : Addr} (hH : H' a = H a) (r : OwnC T g H p a) : OwnC T g' H' p a := by
  cases p <;> simp only [OwnC] at r ⊢
  exact r.ext e hH
theorem ListAt.some {xs : List PV} {a : Addr} (r : ListAt T g H xs a) : H a ≠ none := by
  obtain ⟨vs, h1, _⟩ := r
  rw [h1]; exact fun x => nomatch x
theorem OwnC.some {p : PV} {a : Addr} (r : OwnC T g H p a) : H a ≠ none := by
  cases p <;> simp only [OwnC] at r
  exact r.some
theorem CellAt'.some {c : Cell} {a : Addr} (r : CellAt' T g H c a) : H a ≠ none := by
  cases c; exact ListAt.some r
theorem Sim.ce_some (S : Sim T n g env h σ H) {a : Addr} (ha : a ∈ g.ce) : H a ≠ none := by
  obtain ⟨i, hi⟩ := List.getElem?_of_mem ha
  have hl : i < h.length := by rw [S.cl]; exact (List.getElem?_eq_some_iff.mp hi).1
  exact (S.cv i h[i] a (List.getElem?_eq_getElem hl) hi).some
/-- what stood at the entry stands -/
theorem Sim.he (S : Sim T n g env h σ H) {a : Addr} (ha : H a = none) : n.He a = none := by
  cases q : n.He a with
  | none => rfl
  | some o =>
    have h1 : n.He a ≠ none := by rw [q]; exact fun x => nomatch x
    by_cases hc : a ∈ g.ce
    · exact absurd ha (S.ce_some hc)
    · rw [S.fr a h1 hc, q] at ha; cases ha

/-- the heap grows, some of the new is frozen -/
def gF (g : Gh) (D : Addr → Prop) : Gh := ⟨fun a => g.F a ∨ D a, g.ce⟩
theorem Sim.grow (S : Sim T n g env h σ H) {D : Addr → Prop} (hg : ∀ a, H a ≠ none → H' a = H a) (hD : ∀ a, D a → H a = none ∧ H' a ≠ none) :
    Ext g H (gF g D) H' ∧ Sim T n (gF g D) env h σ H' := by
  have E : Ext g H (gF g D) H' := ⟨fun a x => .inl x, fun a x => hg a (S.fin a x), [], by simp [gF]⟩
  refine ⟨E, S.len, fun a x => ?_, fun a x => .inl (S.F0 a x), fun a x => ?_, S.c0, fun a x y => ?_, S.cd, S.cl, fun i c a h1 h2 => ?_, fun a h1 h2 => ?_, fun i s hs => ?_, S.od⟩
  · rcases x with x | x
    · rw [hg a (S.fin a x)]; exact S.fin a x
    · exact (hD a x).2
  · rcases x with x | x
    · exact S.Fn a x
    · exact .inr (S.he (hD a x).1)
  · rcases y with y | y
    · exact S.cF a x y
    · exact S.ce_some x (hD a y).1
  · have q := S.cv i c a h1 h2
    cases c
    exact ListAt.ext E (hg a q.some) q
  · have q := S.fr a h1 h2
    rw [hg a (by rw [q]; exact h1)]; exact q
  · have q := S.sl i s hs
    cases s with
    | no => trivial
    | val p => obtain ⟨w, e1, e2⟩ := q; exact ⟨w, e1, e2.ext E⟩
    | own p =>
      obtain ⟨a, e1, e2⟩ := q
      refine ⟨a, e1, fun x => ?_, e2.nc, e2.ne, e2.at_.ext E (hg a e2.at_.some)⟩
      rcases x with x | x
      · exact e2.nF x
      · exact e2.at_.some (hD a x).1
theorem upd_grow {a : Addr} {o : HO} (hn : H a = none) : ∀ b, H b ≠ none → upd H a o b = H b := fun b hb => upd_ne (fun z => hb (by rw [z]; exact hn))
/-- a new thing is laid, frozen -/
theorem Sim.lay (S : Sim T n g env h σ H) {a : Addr} (o : HO) (hn : H a = none) : Ext g H (gF g (· = a)) (upd H a o) ∧ Sim T n (gF g (· = a)) env h σ (upd H a o) :=
  S.grow (upd_grow hn) fun b hb => by subst hb; exact ⟨hn, by rw [upd_same]; exact fun x => nomatch x⟩
/-- .. not frozen -/
theorem Sim.lay0 (S : Sim T n g env h σ H) {a : Addr} (o : HO) (hn : H a = none) : Ext g H (gF g (fun _ => False)) (upd H a o) ∧ Sim T n (gF g (fun _ => False)) env h σ (upd H a o) :=
  S.grow (upd_grow hn) fun b hb => hb.elim

/-! ### what an expression hands back -/
/-- not a slot's own -/
def Apart (env : Env) (σ : List (Option V)) (a : Addr) : Prop := ∀ (i : Nat) (q : PV), env[i]? = some (.own q) → σ[i]? ≠ some (some (.ref a))
def Res (T : Tx) (n : En) (g : Gh) (H : Hp) (env : Env) (σ : List (Option V)) : PV → Bool → V → Prop
  | .lst xs, true, w => ∃ a, w = .ref a ∧ Owned T n g H (.lst xs) a ∧ Apart env σ a
  | p, _, w => Tr T g H p w
def RR (T : Tx) (n : En) (g : Gh) (H : Hp) (env : Env) (σ : List (Option V)) : Rs → V → Prop
  | .slot i, w => σ[i]? = some (some w)
  | .v p fr, w => Res T n g H env σ p fr w

theorem Res.old {p : PV} {w : V} (r : Tr T g H p w) : Res T n g H env σ p false w := by
  cases p <;> exact r
/-- the address is frozen -/
theorem Sim.freeze (S : Sim T n g env h σ H) {a : Addr} (nc : a ∉ g.ce) (ne : n.He a = none) (hH : H a ≠ none) (ap : Apart env σ a) : Ext g H (gF g (· = a)) H ∧ Sim T n (gF g (· = a)) env h σ H := by
  have E : Ext g H (gF g (· = a)) H := ⟨fun b x => .inl x, fun _ _ => rfl, [], by simp [gF]⟩
  refine ⟨E, S.len, fun b x => ?_, fun b x => .inl (S.F0 b x), fun b x => ?_, S.c0, fun b x y => ?_, S.cd, S.cl, fun i c b h1 h2 => ?_, S.fr, fun i s hs => ?_, S.od⟩
  · rcases x with x | x
    · exact S.fin b x
    · subst x; exact hH
  · rcases x with x | x
    · exact S.Fn b x
    · subst x; exact .inr ne
  · rcases y with y | y
    · exact S.cF b x y
    · subst y; exact nc x
  · have q := S.cv i c b h1 h2
    cases c
    exact ListAt.ext E rfl q
  · have q := S.sl i s hs
    cases s with
    | no => trivial
    | val p => obtain ⟨w, e1, e2⟩ := q; exact ⟨w, e1, e2.ext E⟩
    | own p =>
      obtain ⟨b, e1, e2⟩ := q
      refine ⟨b, e1, fun x => ?_, e2.nc, e2.ne, e2.at_.ext E rfl⟩
      rcases x with x | x
      · exact e2.nF x
      · subst x; exact ap i p hs e1
theorem Owned.tr {xs : List PV} {a : Addr} (o : Owned T n g H (.lst xs) a) : Tr T (gF g (· = a)) H (.lst xs) (.ref a) := by
  obtain ⟨vs, h1, h2, h3⟩ := o.at_
  exact Tr.lst (g := gF g (· = a)) (Or.inr rfl) h1 h2 (h3.ext (g' := gF g (· = a)) ⟨fun b x => Or.inl x, fun _ _ => rfl, [], by simp [gF]⟩)
/-- a value is frozen -/
theorem Sim.frz (S : Sim T n g env h σ H) {p : PV} {fr : Bool} {w : V} (r : Res T n g H env σ p fr w) : ∃ g', Ext g H g' H ∧ Sim T n g' env h σ H ∧ Tr T g' H p w := by
  have old : Tr T g H p w → ∃ g', Ext g H g' H ∧ Sim T n g' env h σ H ∧ Tr T g' H p w := fun t => ⟨g, Ext.refl g H, S, t⟩
  cases fr with
  | false => exact old (by cases p <;> exact r)
  | true =>
    cases p with
    | lst xs =>
      obtain ⟨a, rfl, o, ap⟩ := r
      obtain ⟨E, S'⟩ := S.freeze o.nc o.ne o.at_.some ap
      exact ⟨_, E, S', o.tr⟩
    | _ => exact old r

/-! ### slots -/
theorem getElem?_set_or {α : Type} {l : List α} {i j : Nat} {x y : α} (h : (l.set i x)[j]? = some y) : (j = i ∧ y = x) ∨ (j ≠ i ∧ l[j]? = some y) := by
  by_cases e : j = i
  · subst e
    rw [List.getElem?_set_self'] at h
    cases q : l[j]? with
    | none => rw [q] at h; simp at h
    | some z => rw [q] at h; simp at h; exact .inl ⟨rfl, h.symm⟩
  · rw [List.getElem?_set_ne (Ne.symm e)] at h
    exact .inr ⟨e, h⟩
/-- a slot's own is frozen -/
theorem Sim.frzSlot (S : Sim T n g env h σ H) {i : Nat} {p : PV} {w : V} (hi : env[i]? = some (.own p)) (hw : σ[i]? = some (some w)) :
    ∃ g', Ext g H g' H ∧ Sim T n g' (env.set i (.val p)) h σ H ∧ Tr T g' H p w := by
  obtain ⟨a, e1, o⟩ := S.sl i _ hi
  have hw' : w = .ref a := by rw [e1] at hw; exact (Option.some.inj (Option.some.inj hw)).symm
  subst hw'
  cases p with
  | lst xs =>
    have E : Ext g H (gF g (· = a)) H := ⟨fun b x => .inl x, fun _ _ => rfl, [], by simp [gF]⟩
    refine ⟨gF g (· = a), E, ⟨by simpa using S.len, fun b x => ?_, fun b x => .inl (S.F0 b x), fun b x => ?_, S.c0, fun b x y => ?_, S.cd, S.cl, fun j c b h1 h2 => ?_, S.fr, fun j s hs => ?_, fun j k p q w h1 h2 => ?_⟩, o.tr⟩
    · rcases x with x | x
      · exact S.fin b x
      · subst x; exact o.at_.some
    · rcases x with x | x
      · exact S.Fn b x
      · subst x; exact .inr o.ne
    · rcases y with y | y
      · exact S.cF b x y
      · subst y; exact o.nc x
    · have q := S.cv j c b h1 h2
      cases c
      exact ListAt.ext E rfl q
    · rcases getElem?_set_or hs with ⟨rfl, rfl⟩ | ⟨hne, hs'⟩
      · exact ⟨_, e1, o.tr⟩
      · have q := S.sl j s hs'
        cases s with
        | no => trivial
        | val p => obtain ⟨w, e1, e2⟩ := q; exact ⟨w, e1, e2.ext E⟩
        | own p =>
          obtain ⟨b, e3, e2⟩ := q
          refine ⟨b, e3, fun x => ?_, e2.nc, e2.ne, e2.at_.ext E rfl⟩
          rcases x with x | x
          · exact e2.nF x
          · subst x; exact hne (S.od j i _ _ _ hs' hi e3 e1)
    · rcases getElem?_set_or h1 with ⟨_, e⟩ | ⟨_, h1'⟩
      · cases e
      · rcases getElem?_set_or h2 with ⟨_, e⟩ | ⟨_, h2'⟩
        · cases e
        · exact S.od j k p q w h1' h2'
  | _ => exact False.elim o.at_
/-- a value is handed on -/
theorem Sim.esc (S : Sim T n g env h σ H) {r : Rs} {w : V} (rr : RR T n g H env σ r w) {p : PV} {fr : Bool} {e2 : Env} (he : esc r env = some (p, fr, e2)) :
    ∃ g', Ext g H g' H ∧ Sim T n g' e2 h σ H ∧ Res T n g' H e2 σ p fr w := by
  cases r with
  | slot i =>
    simp only [PL.esc] at he
    cases q : env[i]? with
    | none => rw [q] at he; cases he
    | some s =>
      rw [q] at he
      cases s with
      | no => cases he
      | val v =>
        simp at he
        obtain ⟨rfl, rfl, rfl⟩ := he
        obtain ⟨w', e1, e2⟩ := S.sl i _ q
        have : w = w' := by have : σ[i]? = some (some w) := rr; rw [e1] at this; exact (Option.some.inj (Option.some.inj this)).symm
        subst this
        exact ⟨g, Ext.refl g H, S, Res.old e2⟩
      | own v =>
        simp at he
        obtain ⟨rfl, rfl, rfl⟩ := he
        obtain ⟨g', E, S', t⟩ := S.frzSlot q rr
        exact ⟨g', E, S', Res.old t⟩
  | v p' fr' =>
    simp [PL.esc] at he
    obtain ⟨rfl, rfl, rfl⟩ := he
    exact ⟨g, Ext.refl g H, S, rr⟩
/-- .. and frozen -/
theorem Sim.escF (S : Sim T n g env h σ H) {r : Rs} {w : V} (rr : RR T n g H env σ r w) {p : PV} {fr : Bool} {e2 : Env} (he : PL.esc r env = some (p, fr, e2)) :
    ∃ g', Ext g H g' H ∧ Sim T n g' e2 h σ H ∧ Tr T g' H p w := by
  obtain ⟨g1, E1, S1, r1⟩ := S.esc rr he
  obtain ⟨g2, E2, S2, t⟩ := S1.frz r1
  exact ⟨g2, E1.trans E2, S2, t⟩

/-! ### what is looked at -/
/-- readable as -/
def Bd (T : Tx) (g : Gh) (H : Hp) : PV → V → Prop
  | .lst xs, w => ∃ a, w = .ref a ∧ ListAt T g H xs a
  | p, w => Tr T g H p w
theorem Bd.of {p : PV} {w : V} (t : Tr T g H p w) : Bd T g H p w := by
  cases t with
  | lst hF h hl r => exact ⟨_, rfl, _, h, hl, r⟩
  | non => exact .non
  | bl b => exact .bl b
  | int i => exact .int i
  | str s => exact .str s
  | ty n => exact .ty n
  | fn h => exact .fn h
  | ref h => exact .ref h
  | scr hF h hl r => exact .scr hF h hl r
  | scrK h hl r => exact .scrK h hl r
  | tup hF h hl r => exact .tup hF h hl r
  | tupK h r => exact .tupK h r
  | dic hF h hl r => exact .dic hF h hl r
theorem Sim.view (S : Sim T n g env h σ H) {p : PV} {w : V} (t : Tr T g H p w) : Bd T g H (PL.view h p) w := by
  cases t with
  | ref hn =>
    rename_i i a
    show Bd T g H (match h[i]? with | some (.lst xs) => PV.lst xs | none => PV.ref i) _
    cases q : h[i]? with
    | none => exact .ref hn
    | some c =>
      have := S.cv i c a q hn
      cases c
      exact ⟨a, rfl, this⟩
  | lst hF h hl r => exact Bd.of (.lst hF h hl r)
  | non => exact .non
  | bl b => exact .bl b
  | int i => exact .int i
  | str s => exact .str s
  | ty n => exact .ty n
  | fn h => exact .fn h
  | scr hF h hl r => exact .scr hF h hl r
  | scrK h hl r => exact .scrK h hl r
  | tup hF h hl r => exact .tup hF h hl r
  | tupK h r => exact .tupK h r
  | dic hF h hl r => exact .dic hF h hl r
theorem Sim.rd (S : Sim T n g env h σ H) {r : Rs} {w : V} (hr : match r with | .slot i => σ[i]? = some (some w) | .v p _ => Tr T g H p w) {x : PV} (hx : PL.rd r env h = some x) : Bd T g H x w := by
  cases r with
  | slot i =>
    simp only [PL.rd] at hx
    cases q : env[i]? with
    | none => rw [q] at hx; cases hx
    | some s =>
      rw [q] at hx
      cases s with
      | no => cases hx
      | val v =>
        simp at hx
        subst hx
        obtain ⟨w', e1, e2⟩ := S.sl i _ q
        have hr' : σ[i]? = some (some w) := hr
        have : w = w' := by rw [e1] at hr'; exact (Option.some.inj (Option.some.inj hr')).symm
        subst this
        exact S.view e2
      | own v =>
        simp at hx
        subst hx
        obtain ⟨a, e1, o⟩ := S.sl i _ q
        have hr' : σ[i]? = some (some w) := hr
        have : w = .ref a := by rw [e1] at hr'; exact (Option.some.inj (Option.some.inj hr')).symm
        subst this
        cases v with
        | lst xs => exact ⟨a, rfl, o.at_⟩
        | _ => exact False.elim o.at_
  | v p fr =>
    simp [PL.rd] at hx
    subst hx
    exact S.view hr
end
end PL

namespace PL
open PySem PySem.Spec PyProof.Rows L2
/-- a tuple times 1: itself -/
theorem tup_by1 (l : Addr) (items : Array Value) (n : Nat) (dd : Option Addr) (sl : Array (Option Value)) (u : Tok) :
    Meets (Builtin.«tuple.__mul__» ⟨[.ref l, .int 1 u], []⟩) (fun _ R s => s.heap.get? l = some { cls := .type "tuple", dict := dd, data := .seq items n, slots := sl } ∧ R (.ok (.ret (.ref l))) s) :=
  .of_wp fun prog w A R s h => by
    obtain ⟨hp, g, d, tk, os⟩ := s
    obtain ⟨hl, h⟩ := h
    have f1 := AutoSeq1.idx_int
    have b1 : (items.isEmpty || (1 : Int) == 1) = true := by simp
    wp_walk using wpAny_loadPart' hl
    repeat (first
      | (refine wpAny_ite_false (decide_eq_false (by decide)) ?_; wp_walk using wpAny_loadPart' hl)
      | (refine wpAny_ite_true (decide_eq_true b1) ?_; wp_walk using wpAny_loadPart' hl))
    exact ⟨_, rfl, h⟩
section
variable {X : Cx}
/-- .. as a reading -/
theorem op_tup1 : OpR X (binaryOp .Mult) (fun x y H Q => ∃ l xs, x = .ref l ∧ y = .int 1 ∧ SqT X.K H l xs ∧ Q (.ref l) H) := by
  intro pins s σ H x y v u Q I rx ry h
  obtain ⟨l, xs, rfl, rfl, hT, q⟩ := h
  cases rx
  obtain ⟨t, rfl⟩ := ry
  obtain ⟨its, r, ⟨⟨cls, dd, data, sl⟩, ho, hc, n, hd⟩, hs⟩ := I.tuple hT
  simp only at hc hd
  subst hc hd
  refine wpAny_binaryOp_repeat_ref (T := "tuple") (U := "int") (by decide) ⟨_, ho, rfl⟩ (fun s' => typeIs_int s' 1 t) noFill_tuple_mul F.fills_int_mul F.slot_int_rmul repeat_tuple F.slot_int_index.lookup
    (call_meets F.slot_int_rmul (typeIs_int s 1 t) F.entry_int_rmul (F.args_int_rmul_2 _ _) (int_rmul_tuple 1 t l its.toArray n dd sl)
      ⟨ho, rfl, ⟨_, ho, rfl⟩, call_meets F.slot_tuple_mul ⟨_, ho, rfl⟩ F.entry_tuple_mul (F.args_tuple_mul_2 _ _) (tup_by1 l its.toArray n dd sl t) ⟨ho, ?_⟩⟩)
  exact ⟨.ref l, H, I, rfl, q⟩
end
end PL

/-! The operators. -/
namespace PL
open PySem PySem.Spec PyProof.Rows L2

theorem line_eq : line = sizeLine := by decide
section
variable {T : Tx} {n : En} {g g' : Gh} {H H' : Hp} {env : Env} {h : Hs} {σ : List (Option V)}

/-- a made thing: as it stands, or newly laid -/
def Made (T : Tx) (g : Gh) (H : Hp) (z : PV) (fr : Bool) (w : V) (H' : Hp) : Prop :=
  (fr = false ∧ H' = H ∧ Tr T g H z w) ∨
  ∃ a o, w = .ref a ∧ H a = none ∧ H' = upd H a o ∧
    ((∃ xs vs, z = .lst xs ∧ o = .lst vs ∧ vs.length ≤ sizeLine ∧ TrL T g H xs vs) ∨
     (fr = false ∧ ∃ xs vs, z = .tup xs ∧ o = .tup vs ∧ vs.length ≤ sizeLine ∧ TrL T g H xs vs) ∨
     (fr = false ∧ ∃ ks xs vs, z = .dic ks xs ∧ o = .dK (ks.zip vs) ∧ ks.length = vs.length ∧ TrL T g H xs vs))
theorem Sim.made (S : Sim T n g env h σ H) {z : PV} {fr : Bool} {w : V} (m : Made T g H z fr w H') : ∃ g', Ext g H g' H' ∧ Sim T n g' env h σ H' ∧ Res T n g' H' env σ z fr w := by
  rcases m with ⟨rfl, rfl, t⟩ | ⟨a, o, rfl, hn, rfl, hz⟩
  · exact ⟨g, Ext.refl g _, S, Res.old t⟩
  · cases fr with
    | false =>
      obtain ⟨E, S'⟩ := S.lay o hn
      refine ⟨_, E, S', Res.old ?_⟩
      rcases hz with ⟨xs, vs, rfl, rfl, hl, r⟩ | ⟨_, xs, vs, rfl, rfl, hl, r⟩ | ⟨_, ks, xs, vs, rfl, rfl, hl, r⟩
      · exact .lst (.inr rfl) upd_same hl (r.ext E)
      · exact .tup (.inr rfl) upd_same hl (r.ext E)
      · exact .dic (.inr rfl) upd_same hl (r.ext E)
    | true =>
      obtain ⟨E, S'⟩ := S.lay0 o hn
      rcases hz with ⟨xs, vs, rfl, rfl, hl, r⟩ | ⟨q, _⟩ | ⟨q, _⟩
      · refine ⟨_, E, S', a, rfl, ⟨fun x => ?_, fun x => S.ce_some x hn, S.he hn, vs, upd_same, hl, r.ext E⟩, fun i q hi hw => ?_⟩
        · rcases x with x | x
          · exact S.fin a x hn
          · exact x
        · obtain ⟨b, e1, e2⟩ := S.sl i _ hi
          rw [hw] at e1
          cases e1
          exact e2.at_.some hn
      · cases q
      · cases q

/-! ### plain data -/
mutual
def toD : PV → PyData
  | .non => .none
  | .bl b => .bool b
  | .int i => .int i
  | .str s => .str s
  | .lst xs => .list (toDs xs)
  | .tup xs => .tuple (toDs xs)
  | _ => .none
def toDs : List PV → List PyData
  | [] => []
  | x :: xs => toD x :: toDs xs
end
mutual
theorem toD_lay : ∀ p : PV, okD p = true → (toD p).canLay0 = true
  | .non, _ => rfl
  | .bl _, _ => rfl
  | .int _, _ => rfl
  | .str s, h => by simpa [toD, PyData.canLay0, PyData.strOk, okD] using h
  | .lst xs, h => by simpa [toD, PyData.canLay0] using toDs_lay xs (by simpa [okD] using h)
  | .tup xs, h => by simpa [toD, PyData.canLay0] using toDs_lay xs (by simpa [okD] using h)
  | .ty _, h => by simp [okD] at h
  | .fn _, h => by simp [okD] at h
  | .ref _, h => by simp [okD] at h
  | .scr _, h => by simp [okD] at h
  | .dic _ _, h => by simp [okD] at h
theorem toDs_lay : ∀ ps : List PV, okDs ps = true → PyData.canLayAll0 (toDs ps) = true
  | [], _ => rfl
  | x :: xs, h => by
    have h' : okD x = true ∧ okDs xs = true := by simpa [okDs] using h
    simp [toDs, PyData.canLayAll0, toD_lay x h'.1, toDs_lay xs h'.2]
end
mutual
theorem toD_dep : ∀ p : PV, (toD p).depth = dep p
  | .non => by simp [toD, dep, PyData.depth]
  | .bl _ => by simp [toD, dep, PyData.depth]
  | .int _ => by simp [toD, dep, PyData.depth]
  | .str _ => by simp [toD, dep, PyData.depth]
  | .lst xs => by simp [toD, dep, PyData.depth, toDs_dep xs]
  | .tup xs => by simp [toD, dep, PyData.depth, toDs_dep xs]
  | .ty _ => by simp [toD, dep, PyData.depth]
  | .fn _ => by simp [toD, dep, PyData.depth]
  | .ref _ => by simp [toD, dep, PyData.depth]
  | .scr _ => by simp [toD, dep, PyData.depth]
  | .dic _ _ => by simp [toD, dep, PyData.depth]
theorem toDs_dep : ∀ ps : List PV, PyData.depthAll (toDs ps) = deps ps
  | [] => by simp [toDs, deps, PyData.depthAll]
  | x :: xs => by simp [toDs, deps, PyData.depthAll, toD_dep x, toDs_dep xs]
end
mutual
theorem toD_eqv : ∀ p q : PV, okD p = true → okD q = true → PyData.eqv (toD p) (toD q) = eqv p q := by
  intro p q hp hq
  cases p <;> cases q <;> first
    | (simp [okD] at hp; done)
    | (simp [okD] at hq; done)
    | (simp [toD, eqv, PyData.eqv]; done)
    | skip
  · rename_i xs ys
    simpa [toD, eqv, PyData.eqv] using toDs_eqv xs ys (by simpa [okD] using hp) (by simpa [okD] using hq)
  · rename_i xs ys
    simpa [toD, eqv, PyData.eqv] using toDs_eqv xs ys (by simpa [okD] using hp) (by simpa [okD] using hq)
theorem toDs_eqv : ∀ ps qs : List PV, okDs ps = true → okDs qs = true → PyData.eqvAll (toDs ps) (toDs qs) = eqvs ps qs := by
  intro ps qs hp hq
  cases ps with
  | nil => cases qs <;> simp [toDs, eqvs, PyData.eqvAll]
  | cons x xs =>
    cases qs with
    | nil => simp [toDs, eqvs, PyData.eqvAll]
    | cons y ys =>
      have hp' : okD x = true ∧ okDs xs = true := by simpa [okDs] using hp
      have hq' : okD y = true ∧ okDs ys = true := by simpa [okDs] using hq
      simp [toDs, eqvs, PyData.eqvAll, toD_eqv x y hp'.1 hq'.1, toDs_eqv xs ys hp'.2 hq'.2]
end
theorem ktup_sq {K : PySem.W.Frag} {a : Addr} {xs : List V} (h : KTup K a xs) : SqT K H a xs := .inr h
mutual
theorem Tr.dp : ∀ {p : PV} {v : V}, okD p = true → Tr T g H p v → Dp T.K H v (toD p)
  | .non, _, _, t => by cases t; exact .non
  | .bl b, _, _, t => by cases t; exact .bl b
  | .int i, _, _, t => by cases t; exact .int i
  | .str s, _, _, t => by cases t; exact .str s
  | .lst xs, _, h, t => by
    cases t with
    | lst hF e hl r => simp only [toD]; exact .lst (SqL.of e) (TrL.dp (by simpa [okD] using h) r)
  | .tup xs, _, h, t => by
    cases t with
    | tup hF e hl r => simp only [toD]; exact .tup (SqT.of e) (TrL.dp (by simpa [okD] using h) r)
    | tupK e r => simp only [toD]; exact .tup (ktup_sq e) (TrL.dp (by simpa [okD] using h) r)
  | .ty _, _, h, _ => by simp [okD] at h
  | .fn _, _, h, _ => by simp [okD] at h
  | .ref _, _, h, _ => by simp [okD] at h
  | .scr _, _, h, _ => by simp [okD] at h
  | .dic _ _, _, h, _ => by simp [okD] at h
theorem TrL.dp : ∀ {ps : List PV} {vs : List V}, okDs ps = true → TrL T g H ps vs → DpAll T.K H vs (toDs ps)
  | [], _, _, t => by cases t; exact .nil
  | x :: xs, _, h, t => by
    have h' : okD x = true ∧ okDs xs = true := by simpa [okDs] using h
    cases t with
    | cons a b => exact .cons (Tr.dp h'.1 a) (TrL.dp h'.2 b)
end
theorem Bd.dp {p : PV} {v : V} (h : okD p = true) (b : Bd T g H p v) : Dp T.K H v (toD p) := by
  cases p with
  | lst xs =>
    obtain ⟨a, rfl, vs, e, _, r⟩ := b
    simp only [toD]
    exact .lst (SqL.of e) (TrL.dp (by simpa [okD] using h) r)
  | _ => exact Tr.dp h b

/-- a list's reading -/
theorem Bd.lst {xs : List PV} {v : V} (b : Bd T g H (.lst xs) v) : ∃ a vs, v = .ref a ∧ H a = some (.lst vs) ∧ vs.length ≤ sizeLine ∧ TrL T g H xs vs := by
  obtain ⟨a, e, vs, h⟩ := b
  exact ⟨a, vs, e, h⟩
theorem Bd.tup {xs : List PV} {v : V} (b : Bd T g H (.tup xs) v) : ∃ a vs, v = .ref a ∧ SqT T.K H a vs ∧ vs.length ≤ sizeLine ∧ TrL T g H xs vs := by
  have t : Tr T g H (.tup xs) v := b
  cases t with
  | tup hF e hl r => exact ⟨_, _, rfl, SqT.of e, hl, r⟩
  | tupK e r =>
    refine ⟨_, _, rfl, ktup_sq e, ?_, r⟩
    obtain ⟨o, its, k, _, _, _, hz, hv⟩ := e
    rw [Vals.length hv]
    simpa using hz
theorem Bd.int {i : Int} {v : V} (b : Bd T g H (.int i) v) : v = .int i := by
  have t : Tr T g H (.int i) v := b
  cases t; rfl
theorem Bd.bl {i : Bool} {v : V} (b : Bd T g H (.bl i) v) : v = .bl i := by
  have t : Tr T g H (.bl i) v := b
  cases t; rfl
theorem Bd.str {i : Str} {v : V} (b : Bd T g H (.str i) v) : v = .str i := by
  have t : Tr T g H (.str i) v := b
  cases t; rfl
theorem Bd.non {v : V} (b : Bd T g H .non v) : v = .non := by
  have t : Tr T g H .non v := b
  cases t; rfl
/-- what is no list is as it stands -/
theorem Bd.tr {p : PV} {v : V} (h : ∀ xs, p ≠ .lst xs) (b : Bd T g H p v) : Tr T g H p v := by
  cases p with
  | lst xs => exact absurd rfl (h xs)
  | _ => exact b
end

/-- what of the context is known -/
structure XOk (T : Tx) (N : List Str) (sc : Scope) (k : Nat) (X : Cx) : Prop where
  P : X.prog = T.P
  w : X.w = T.w
  K : X.K = T.K
  mg : X.mg = T.mg
  base : X.base = T.base
  hN : X.N = N
  hsc : X.env.scope = sc
  calm : X.calm = true
  nd : N.Nodup
  hr : Room (k + 2) X.A

/-- a two-place operator's reading -/
def rB (T : Tx) (op : Bop) : R2 := fun x y H Q => ∃ g px py z fr, Bd T g H px x ∧ Bd T g H py y ∧ opBin op px py = some (z, fr) ∧ ∀ w H', Made T g H z fr w H' → Q w H'
def rC (T : Tx) (op : Cop) : R2 := fun x y H Q => ∃ g px py z, Bd T g H px x ∧ Bd T g H py y ∧ opCmp op px py = some z ∧ Q (.bl z) H
section
variable {T : Tx} {N : List Str} {sc : Scope} {k : Nat} {X : Cx}

theorem mk_same {g : Gh} {H : Hp} {z : PV} {w : V} (t : Tr T g H z w) : Made T g H z false w H := .inl ⟨rfl, rfl, t⟩
theorem mk_lst {g : Gh} {H : Hp} {a : Addr} {fr : Bool} {xs : List PV} {vs : List V} (hn : H a = none) (hl : vs.length ≤ sizeLine) (r : TrL T g H xs vs) : Made T g H (.lst xs) fr (.ref a) (upd H a (.lst vs)) :=
  .inr ⟨a, _, rfl, hn, rfl, .inl ⟨xs, vs, rfl, rfl, hl, r⟩⟩
theorem mk_tup {g : Gh} {H : Hp} {a : Addr} {xs : List PV} {vs : List V} (hn : H a = none) (hl : vs.length ≤ sizeLine) (r : TrL T g H xs vs) : Made T g H (.tup xs) false (.ref a) (upd H a (.tup vs)) :=
  .inr ⟨a, _, rfl, hn, rfl, .inr (.inl ⟨rfl, xs, vs, rfl, rfl, hl, r⟩)⟩

theorem snd_add (ok : XOk T N sc k X) : OpR X (binaryOp .Add) (rB T .add) := by
  intro pins s σ H x y v u Q I rx ry ⟨g, px, py, z, fr, bx, by_, he, hq⟩
  cases px <;> cases py <;> simp only [opBin] at he <;> first | (cases he; done) | skip
  · cases bx.int; cases by_.int
    cases he
    exact op_add pins s σ H _ _ v u Q I rx ry ⟨_, _, rfl, rfl, hq _ _ (mk_same (.int _))⟩
  · cases bx.str; cases by_.str
    split at he
    · rename_i hl
      cases he
      rw [line_eq] at hl
      exact op_add_str pins s σ H _ _ v u Q I rx ry ⟨_, _, rfl, rfl, hl, hq _ _ (mk_same (.str _))⟩
    · cases he
  · obtain ⟨a, vs, rfl, ha, hla, ra⟩ := bx.lst
    obtain ⟨b, ws, rfl, hb, hlb, rb⟩ := by_.lst
    split at he
    · rename_i hl
      cases he
      rw [line_eq, ra.length, rb.length] at hl
      exact op_cat pins s σ H _ _ v u Q I rx ry ⟨_, _, _, _, rfl, rfl, ha, hb, hl, fun p hp => hq _ _ (mk_lst hp (by rw [List.length_append]; exact hl) (ra.append rb))⟩
    · cases he
  · obtain ⟨a, vs, rfl, ha, hla, ra⟩ := bx.tup
    obtain ⟨b, ws, rfl, hb, hlb, rb⟩ := by_.tup
    split at he
    · rename_i hl
      cases he
      rw [line_eq, ra.length, rb.length] at hl
      refine op_catA pins s σ H _ _ v u Q I rx ry ⟨_, _, _, _, rfl, rfl, by rw [ok.K]; exact ha, by rw [ok.K]; exact hb, hl, fun e => ?_, fun _ e => ?_, fun _ _ p hp => ?_⟩
      · have e' := ra.nil_iff.mpr e
        subst e'
        rw [List.nil_append] at hq
        exact hq _ _ (mk_same (by_.tr (fun _ => nofun)))
      · have e' := rb.nil_iff.mpr e
        subst e'
        rw [List.append_nil] at hq
        exact hq _ _ (mk_same (bx.tr (fun _ => nofun)))
      · exact hq _ _ (mk_tup hp (by rw [List.length_append]; exact hl) (ra.append rb))
    · cases he
theorem snd_sub : OpR X (binaryOp .Sub) (rB T .sub) := by
  intro pins s σ H x y v u Q I rx ry ⟨g, px, py, z, fr, bx, by_, he, hq⟩
  cases px <;> cases py <;> simp only [opBin] at he <;> first | (cases he; done) | skip
  cases bx.int; cases by_.int
  cases he
  exact op_sub pins s σ H _ _ v u Q I rx ry ⟨_, _, rfl, rfl, hq _ _ (mk_same (.int _))⟩
theorem snd_mul (ok : XOk T N sc k X) : OpR X (binaryOp .Mult) (rB T .mul) := by
  intro pins s σ H x y v u Q I rx ry ⟨g, px, py, z, fr, bx, by_, he, hq⟩
  cases px <;> cases py <;> simp only [opBin] at he <;> first | (cases he; done) | skip
  · cases bx.int; cases by_.int
    split at he
    · rename_i hl
      cases he
      exact op_mulW pins s σ H _ _ v u Q I rx ry ⟨_, _, rfl, rfl, (by simp only [mulOk, decide_eq_true_eq] at hl; exact hl), hq _ _ (mk_same (.int _))⟩
    · cases he
  · cases by_.int
    obtain ⟨a, vs, rfl, ha, hla, ra⟩ := bx.lst
    split at he
    · rename_i hl
      cases he
      rw [line_eq, ra.length] at hl
      refine op_rep pins s σ H _ _ v u Q I rx ry ⟨_, _, _, rfl, rfl, ha, hl.2.1, hl.1, hl.2.2, fun p hp => hq _ _ (mk_lst hp ?_ (ra.rep _))⟩
      have e : ∀ m : Nat, (List.replicate m vs).flatten.length = vs.length * m := fun m => by simp [Nat.mul_comm]
      rw [e]; exact hl.2.2
    · cases he
  · cases by_.int
    rename_i xs k
    have bx' := bx
    obtain ⟨a, vs, rfl, ha, hla, ra⟩ := bx.tup
    split at he
    · rename_i hl
      cases he
      by_cases h1 : k = 1
      · subst h1
        have e : (List.replicate (1 : Int).toNat xs).flatten = xs := by simp
        rw [e] at hq
        have tr : Tr T g H (.tup xs) (.ref a) := bx'
        exact op_tup1 pins s σ H _ _ v u Q I rx ry ⟨a, vs, rfl, rfl, by rw [ok.K]; exact ha, hq _ _ (mk_same tr)⟩
      · have el : xs.length = vs.length := ra.length
        have hz : vs.length ≤ 1000 := by rw [← el]; exact hl.2.2.2
        have hk2 : 2 ≤ k := by have := hl.1; omega
        refine op_repT pins s σ H _ _ v u Q I rx ry ⟨a, k, vs, rfl, rfl, by rw [ok.K]; exact ha, fun e => by rw [e] at el; have := hl.2.2.1; simp at el; simp [el] at this, hk2, hl.2.1, hz, fun p hp => hq _ _ (mk_tup hp ?_ (ra.rep _))⟩
        have e : ∀ m : Nat, (List.replicate m vs).flatten.length = vs.length * m := fun m => by simp [Nat.mul_comm]
        rw [e, sizeLine_eq]
        have : vs.length * k.toNat ≤ 1000 * 1000 := Nat.mul_le_mul (by omega) (by omega)
        omega
    · cases he
theorem snd_fdiv : OpR X (binaryOp .FloorDiv) (rB T .fdiv) := by
  intro pins s σ H x y v u Q I rx ry ⟨g, px, py, z, fr, bx, by_, he, hq⟩
  cases px <;> cases py <;> simp only [opBin] at he <;> first | (cases he; done) | skip
  cases bx.int; cases by_.int
  split at he
  · rename_i hl
    cases he
    exact op_fdivN pins s σ H _ _ v u Q I rx ry ⟨_, _, rfl, rfl, hl, hq _ _ (mk_same (.int _))⟩
  · cases he
theorem snd_mod : OpR X (binaryOp .Mod) (rB T .mod) := by
  intro pins s σ H x y v u Q I rx ry ⟨g, px, py, z, fr, bx, by_, he, hq⟩
  cases px <;> cases py <;> simp only [opBin] at he <;> first | (cases he; done) | skip
  cases bx.int; cases by_.int
  split at he
  · rename_i hl
    cases he
    exact op_modN pins s σ H _ _ v u Q I rx ry ⟨_, _, rfl, rfl, hl, hq _ _ (mk_same (.int _))⟩
  · cases he
theorem snd_pow : OpR X (binaryOp .Pow) (rB T .pow) := by
  intro pins s σ H x y v u Q I rx ry ⟨g, px, py, z, fr, bx, by_, he, hq⟩
  cases px <;> cases py <;> simp only [opBin] at he <;> first | (cases he; done) | skip
  cases bx.int; cases by_.int
  split at he
  · rename_i hl
    cases he
    exact op_pow pins s σ H _ _ v u Q I rx ry ⟨_, _, rfl, rfl, hl, hq _ _ (mk_same (.int _))⟩
  · cases he
theorem snd_bop (ok : XOk T N sc k X) {o : Operator} {b : Bop} (h : cBop o = some b) : OpR X (binaryOp o) (rB T b) := by
  cases o <;> simp [cBop] at h <;> subst h
  · exact snd_add ok
  · exact snd_sub
  · exact snd_mul ok
  · exact snd_mod
  · exact snd_pow
  · exact snd_fdiv

/-! ### comparisons -/
theorem Room.u64 {k : Nat} {A : Around} (r : Room (k + 2) A) : A.units + 100 < cLine := by
  have := r.un
  omega
theorem snd_eqs (ok : XOk T N sc k X) {pins : List (Addr × Obj)} {s : Shared} {σ : L2.St} {H : Hp} {x y : V} {v u : Value} {g : Gh} {px py : PV} (I : Inv X pins σ H s) (rx : RelV x v) (ry : RelV y u) (bx : Bd T g H px x) (by_ : Bd T g H py y)
    (hx : okD px = true) (hy : okD py = true) : ∃ as bs, Reads s.heap v (toD px) as ∧ Reads s.heap u (toD py) bs := by
  have dx : Dp X.K H x (toD px) := by rw [ok.K]; exact bx.dp hx
  have dy : Dp X.K H y (toD py) := by rw [ok.K]; exact by_.dp hy
  obtain ⟨as, r1⟩ := Dp.reads I _ _ _ dx rx
  obtain ⟨bs, r2⟩ := Dp.reads I _ _ _ dy ry
  exact ⟨as, bs, r1, r2⟩
theorem snd_eq (ok : XOk T N sc k X) : OpR X (compareOp .Eq) (rC T .eq) := by
  intro pins s σ H x y v u Q I rx ry ⟨g, px, py, z, bx, by_, he, hq⟩
  have he' : opEq px py = some z := by cases px <;> cases py <;> simpa [opCmp] using he
  unfold opEq at he'
  split at he'
  · rename_i hc
    cases he'
    obtain ⟨as, bs, r1, r2⟩ := snd_eqs ok I rx ry bx by_ hc.1 hc.2.1
    refine SeqAt.compareEq_reads r1 r2 (toD_lay _ hc.1) (toD_lay _ hc.2.1) ?_ ⟨.bl _, H, I, rfl, ?_⟩
    · rw [toD_dep, toD_dep]
      have := Room.u64 ok.hr
      omega
    · rw [toD_eqv _ _ hc.1 hc.2.1]; exact hq
  · cases he'
theorem snd_ne (ok : XOk T N sc k X) : OpR X (compareOp .NotEq) (rC T .ne) := by
  intro pins s σ H x y v u Q I rx ry ⟨g, px, py, z, bx, by_, he, hq⟩
  have he' : (opEq px py).map (!·) = some z := by cases px <;> cases py <;> simpa [opCmp] using he
  unfold opEq at he'
  split at he'
  · rename_i hc
    cases he'
    obtain ⟨as, bs, r1, r2⟩ := snd_eqs ok I rx ry bx by_ hc.1 hc.2.1
    refine SeqAt.compareNe_reads r1 r2 (toD_lay _ hc.1) (toD_lay _ hc.2.1) ?_ ⟨.bl _, H, I, rfl, ?_⟩
    · rw [toD_dep, toD_dep]
      have := Room.u64 ok.hr
      omega
    · rw [toD_eqv _ _ hc.1 hc.2.1]; exact hq
  · cases he'
theorem snd_lt : OpR X (compareOp .Lt) (rC T .lt) := by
  intro pins s σ H x y v u Q I rx ry ⟨g, px, py, z, bx, by_, he, hq⟩
  cases px <;> cases py <;> simp only [opCmp] at he <;> first | (cases he; done) | skip
  cases bx.int; cases by_.int
  cases he
  exact op_lt pins s σ H _ _ v u Q I rx ry ⟨_, _, rfl, rfl, hq⟩
theorem snd_le : OpR X (compareOp .LtE) (rC T .le) := by
  intro pins s σ H x y v u Q I rx ry ⟨g, px, py, z, bx, by_, he, hq⟩
  cases px <;> cases py <;> simp only [opCmp] at he <;> first | (cases he; done) | skip
  cases bx.int; cases by_.int
  cases he
  exact op_le pins s σ H _ _ v u Q I rx ry ⟨_, _, rfl, rfl, hq⟩
theorem snd_gt : OpR X (compareOp .Gt) (rC T .gt) := by
  intro pins s σ H x y v u Q I rx ry ⟨g, px, py, z, bx, by_, he, hq⟩
  cases px <;> cases py <;> simp only [opCmp] at he <;> first | (cases he; done) | skip
  cases bx.int; cases by_.int
  cases he
  exact op_gt pins s σ H _ _ v u Q I rx ry ⟨_, _, rfl, rfl, hq⟩
theorem snd_ge : OpR X (compareOp .GtE) (rC T .ge) := by
  intro pins s σ H x y v u Q I rx ry ⟨g, px, py, z, bx, by_, he, hq⟩
  cases px <;> cases py <;> simp only [opCmp] at he <;> first | (cases he; done) | skip
  cases bx.int; cases by_.int
  cases he
  exact op_ge pins s σ H _ _ v u Q I rx ry ⟨_, _, rfl, rfl, hq⟩
theorem Bd.isN {g : Gh} {H : Hp} {p : PV} {v : V} (b : Bd T g H p v) : decide (v = V.non) = (match p with | .non => true | _ => false) := by
  cases p with
  | lst xs => obtain ⟨a, rfl, _⟩ := b; rfl
  | _ =>
    have t : Tr T g H _ v := b
    cases t <;> rfl
theorem snd_is : OpR X (compareOp .Is) (rC T .is_) := by
  intro pins s σ H x y v u Q I rx ry ⟨g, px, py, z, bx, by_, he, hq⟩
  by_cases hn : py = .non
  · subst hn
    cases by_.non
    refine op_isN pins s σ H _ _ v u Q I rx ry ⟨rfl, ?_⟩
    rw [bx.isN]
    cases px <;> simp only [opCmp] at he <;> cases he <;> exact hq
  · cases px <;> cases py <;> simp only [opCmp] at he <;> first | (cases he; done) | (exact absurd rfl hn) | skip
    cases bx.bl; cases by_.bl
    cases he
    exact op_isBl pins s σ H _ _ v u Q I rx ry ⟨_, _, rfl, rfl, hq⟩
theorem snd_isnot : OpR X (compareOp .IsNot) (rC T .isnot) := by
  intro pins s σ H x y v u Q I rx ry ⟨g, px, py, z, bx, by_, he, hq⟩
  by_cases hn : py = .non
  · subst hn
    cases by_.non
    refine op_notN pins s σ H _ _ v u Q I rx ry ⟨rfl, ?_⟩
    rw [bx.isN]
    cases px <;> simp only [opCmp] at he <;> cases he <;> exact hq
  · cases px <;> cases py <;> simp only [opCmp] at he <;> first | (cases he; done) | (exact absurd rfl hn) | skip
    cases bx.bl; cases by_.bl
    cases he
    exact op_notBl pins s σ H _ _ v u Q I rx ry ⟨_, _, rfl, rfl, hq⟩
/-! ### in -/
theorem Paired.mem {α β : Type} {R : α → β → Prop} : ∀ {l₁ : List α} {l₂ : List β}, Paired R l₁ l₂ → ∀ b ∈ l₂, ∃ a ∈ l₁, R a b
  | _, _, .nil, _, h => by simp at h
  | _, _, .cons r t, b, h => by
    rcases List.mem_cons.mp h with rfl | h
    · exact ⟨_, List.mem_cons_self, r⟩
    · obtain ⟨a, ha, hr⟩ := Paired.mem t b h
      exact ⟨a, List.mem_cons_of_mem _ ha, hr⟩
open Classical in
/-- the item's answer, by what it reads as -/
noncomputable def ansOf (hp : Heap) (d : PyData) (u : Value) : Bool := decide (∃ e as, e.canLay0 = true ∧ Reads hp u e as ∧ PyData.eqv e d = true)
open Classical in
theorem ansOf_eq {hp : Heap} {d e : PyData} {u : Value} {as : List Addr} (hl : e.canLay0 = true) (r : Reads hp u e as) : ansOf hp d u = PyData.eqv e d := by
  unfold ansOf
  cases q : PyData.eqv e d with
  | true => exact decide_eq_true ⟨e, as, hl, r, q⟩
  | false =>
    refine decide_eq_false ?_
    rintro ⟨e', as', hl', r', q'⟩
    rw [SeqAt.Reads.unique e e' u as as' hl r r', q'] at q
    cases q
theorem in_ans (ok : XOk T N sc k X) {pins : List (Addr × Obj)} {s : Shared} {σ : L2.St} {H : Hp} {g : Gh} {d : PyData} (I : Inv X pins σ H s) : ∀ {ps : List PV} {vs : List V} {us : List Value}, okDs ps = true → TrL T g H ps vs → Vals vs us →
    us.any (ansOf s.heap d) = ps.any (fun y => PyData.eqv (toD y) d) ∧ ∀ w ∈ us, ∃ p as, okD p = true ∧ dep p ≤ deps ps ∧ Reads s.heap w (toD p) as
  | [], _, _, _, .nil, .nil => ⟨rfl, fun w h => by simp at h⟩
  | p :: ps, _, _, hk, .cons (v := vv) t r, .cons q qs => by
    have hk' : okD p = true ∧ okDs ps = true := by simpa [okDs] using hk
    have dx : Dp X.K H vv (toD p) := by rw [ok.K]; exact t.dp hk'.1
    obtain ⟨as, r1⟩ := Dp.reads I _ _ _ dx q
    obtain ⟨e1, e2⟩ := in_ans ok I (d := d) hk'.2 r qs
    refine ⟨by rw [List.any_cons, List.any_cons, e1, ansOf_eq (toD_lay p hk'.1) r1], fun w hw => ?_⟩
    rcases List.mem_cons.mp hw with rfl | hw
    · exact ⟨p, as, hk'.1, by simp [deps]; omega, r1⟩
    · obtain ⟨p', as', h1, h2, h3⟩ := e2 w hw
      exact ⟨p', as', h1, by simp [deps]; omega, h3⟩
theorem in_core (ok : XOk T N sc k X) {pins : List (Addr × Obj)} {s : Shared} {σ : L2.St} {H : Hp} {g : Gh} {px : PV} {x : V} {v : Value} {ps : List PV} {vs : List V} {us : List Value} {z : Bool} (I : Inv X pins σ H s) (rx : RelV x v) (bx : Bd T g H px x)
    (he : opIn px ps = some z) (r : TrL T g H ps vs) (q : Vals vs us) : (∀ y, y ∈ us.toArray → SeqAt.EqAt X.A.in1 s y v (ansOf s.heap (toD px) y)) ∧ us.toArray.any (ansOf s.heap (toD px)) = z := by
  unfold opIn at he
  split at he
  · rename_i hc
    cases he
    have dx : Dp X.K H x (toD px) := by rw [ok.K]; exact bx.dp hc.1
    obtain ⟨as, r1⟩ := Dp.reads I _ _ _ dx rx
    obtain ⟨e1, e2⟩ := in_ans ok I (d := toD px) hc.2.1 r q
    refine ⟨fun y hy => ?_, ?_⟩
    · obtain ⟨p, as', h1, h2, h3⟩ := e2 y (by simpa using hy)
      rw [ansOf_eq (toD_lay p h1) h3]
      refine SeqAt.eqAt_reads _ _ _ _ _ _ _ _ h3 r1 (toD_lay p h1) (toD_lay px hc.1) ?_
      rw [toD_dep, toD_dep]
      have := Room.u64 ok.hr
      show X.A.units + 1 + _ < cLine
      omega
    · rw [show us.toArray.any (ansOf s.heap (toD px)) = us.any (ansOf s.heap (toD px)) by simp, e1]
      have hall : ∀ qs : List PV, okDs qs = true → qs.any (fun y => PyData.eqv (toD y) (toD px)) = qs.any (fun y => eqv y px) := by
        intro qs
        induction qs with
        | nil => intro _; rfl
        | cons a as ih =>
          intro h
          have h' : okD a = true ∧ okDs as = true := by simpa [okDs] using h
          rw [List.any_cons, List.any_cons, ih h'.2, toD_eqv a px h'.1 hc.1]
      exact hall ps hc.2.1
  · cases he
theorem snd_in (ok : XOk T N sc k X) : OpR X (compareOp .In) (rC T .in_) := by
  intro pins s σ H x y v u Q I rx ry ⟨g, px, py, z, bx, by_, he, hq⟩
  cases py with
  | lst ys =>
    have he' : opIn px ys = some z := by cases px <;> simpa [opCmp] using he
    obtain ⟨a, vs, rfl, ha, hl, r⟩ := by_.lst
    cases ry
    obtain ⟨its, q, pl, _⟩ := I.list (SqL.of ha)
    obtain ⟨e1, e2⟩ := in_core ok I rx bx he' r q
    exact SeqAt.in_listAt _ pl.isList e1 ⟨.bl _, H, I, rfl, by rw [e2]; exact hq⟩
  | tup ys =>
    have he' : opIn px ys = some z := by cases px <;> simpa [opCmp] using he
    obtain ⟨a, vs, rfl, ha, hl, r⟩ := by_.tup
    cases ry
    obtain ⟨its, q, pl, _⟩ := I.tuple (by rw [ok.K]; exact ha)
    obtain ⟨e1, e2⟩ := in_core ok I rx bx he' r q
    exact SeqAt.in_tupleAt _ pl e1 ⟨.bl _, H, I, rfl, by rw [e2]; exact hq⟩
  | _ => cases px <;> simp [opCmp] at he
theorem snd_notin (ok : XOk T N sc k X) : OpR X (compareOp .NotIn) (rC T .notin) := by
  intro pins s σ H x y v u Q I rx ry ⟨g, px, py, z, bx, by_, he, hq⟩
  have flip : ∀ {o : Option Bool}, o.map (!·) = some z → o = some (!z) := by
    intro o h
    cases o with
    | none => cases h
    | some b => simp at h; subst h; simp
  cases py with
  | lst ys =>
    have he' : opIn px ys = some (!z) := flip (by cases px <;> simpa [opCmp] using he)
    obtain ⟨a, vs, rfl, ha, hl, r⟩ := by_.lst
    cases ry
    obtain ⟨its, q, pl, _⟩ := I.list (SqL.of ha)
    obtain ⟨e1, e2⟩ := in_core ok I rx bx he' r q
    exact SeqAt.notIn_listAt _ pl.isList e1 ⟨.bl _, H, I, rfl, by rw [e2, Bool.not_not]; exact hq⟩
  | tup ys =>
    have he' : opIn px ys = some (!z) := flip (by cases px <;> simpa [opCmp] using he)
    obtain ⟨a, vs, rfl, ha, hl, r⟩ := by_.tup
    cases ry
    obtain ⟨its, q, pl, _⟩ := I.tuple (by rw [ok.K]; exact ha)
    obtain ⟨e1, e2⟩ := in_core ok I rx bx he' r q
    exact SeqAt.notIn_tupleAt _ pl e1 ⟨.bl _, H, I, rfl, by rw [e2, Bool.not_not]; exact hq⟩
  | _ => cases px <;> simp [opCmp] at he
theorem snd_cop (ok : XOk T N sc k X) {o : CmpOp} {b : Cop} (h : cCop o = some b) : OpR X (compareOp o) (rC T b) := by
  cases o <;> simp [cCop] at h <;> subst h
  · exact snd_eq ok
  · exact snd_ne ok
  · exact snd_lt
  · exact snd_le
  · exact snd_gt
  · exact snd_ge
  · exact snd_is
  · exact snd_isnot
  · exact snd_in ok
  · exact snd_notin ok
end
end PL

/-! Built-in calls, items, slices, isinstance, methods, what is walked. -/
namespace PL
open PySem PySem.Spec PyProof.Rows L2

abbrev BdL (T : Tx) (g : Gh) (H : Hp) : List PV → List V → Prop := Paired (Bd T g H)
def rCB (T : Tx) (b : Bn) : List V → Hp → VK → Prop := fun ws H Q => ∃ g ps z fr, BdL T g H ps ws ∧ opB b ps = some (z, fr) ∧ ∀ w H', Made T g H z fr w H' → Q w H'

section
variable {T : Tx} {N : List Str} {sc : Scope} {k : Nat} {X : Cx} {g : Gh} {H : Hp}
theorem bdl1 {p : PV} {ws : List V} (b : BdL T g H [p] ws) : ∃ w, ws = [w] ∧ Bd T g H p w := by
  cases b with
  | cons r t => cases t; exact ⟨_, rfl, r⟩
theorem bdl2 {p q : PV} {ws : List V} (b : BdL T g H [p, q] ws) : ∃ w z, ws = [w, z] ∧ Bd T g H p w ∧ Bd T g H q z := by
  cases b with
  | cons r t => cases t with
    | cons r' t' => cases t'; exact ⟨_, _, rfl, r, r'⟩
theorem Bd.scr {xs : List PV} {v : V} (b : Bd T g H (.scr xs) v) : ∃ a vs, v = .ref a ∧ SqL T.K H a vs ∧ vs.length ≤ sizeLine ∧ TrL T g H xs vs := by
  have t : Tr T g H (.scr xs) v := b
  cases t with
  | scr hF e hl r => exact ⟨_, _, rfl, .inl (.inr ⟨_, e⟩), hl, r⟩
  | scrK h hl r => exact ⟨_, _, rfl, .inr h, hl, r⟩
theorem Bd.dic {ks : List Key} {xs : List PV} {v : V} (b : Bd T g H (.dic ks xs) v) : ∃ a vs, v = .ref a ∧ H a = some (.dK (ks.zip vs)) ∧ ks.length = vs.length ∧ TrL T g H xs vs := by
  have t : Tr T g H (.dic ks xs) v := b
  cases t with
  | dic hF e hl r => exact ⟨_, _, rfl, e, hl, r⟩
theorem scr_sq {K : PySem.W.Frag} {a : Addr} {vs : List V} (h : ∃ o, H a = some (.frz o (.lst vs))) : SqL K H a vs := .inl (.inr h)

/-- split the cases of opB's arguments -/
theorem snd_len (ok : XOk T N sc k X) : CallR X (.builtin "len") (rCB T .len) := by
  intro pins s σ H xs us Q I r ⟨g, ps, z, fr, b, he, hq⟩
  match ps, b, he with
  | [.lst ys], b, he =>
    obtain ⟨w, rfl, bw⟩ := bdl1 b
    obtain ⟨a, vs, rfl, ha, hl, t⟩ := bw.lst
    cases he
    refine call_len_seq pins s σ H _ us Q I r ⟨a, vs, rfl, .inl (SqL.of ha), ?_⟩
    rw [← t.length]
    exact hq _ _ (mk_same (.int _))
  | [.tup ys], b, he =>
    obtain ⟨w, rfl, bw⟩ := bdl1 b
    obtain ⟨a, vs, rfl, ha, hl, t⟩ := bw.tup
    cases he
    refine call_len_seq pins s σ H _ us Q I r ⟨a, vs, rfl, .inr (by rw [ok.K]; exact ha), ?_⟩
    rw [← t.length]
    exact hq _ _ (mk_same (.int _))
  | [.scr ys], b, he =>
    obtain ⟨w, rfl, bw⟩ := bdl1 b
    obtain ⟨a, vs, rfl, ha, hl, t⟩ := bw.scr
    cases he
    refine call_len_seq pins s σ H _ us Q I r ⟨a, vs, rfl, .inl (by rw [ok.K]; exact ha), ?_⟩
    rw [← t.length]
    exact hq _ _ (mk_same (.int _))
  | [.str ys], b, he =>
    obtain ⟨w, rfl, bw⟩ := bdl1 b
    cases bw.str
    simp only [opB] at he
    split at he
    · rename_i hl
      cases he
      rw [line_eq] at hl
      exact call_len_str pins s σ H _ us Q I r ⟨ys, rfl, hl, hq _ _ (mk_same (.int _))⟩
    · cases he
  | [.dic ks ys], b, he =>
    obtain ⟨w, rfl, bw⟩ := bdl1 b
    have bw' : Tr T g H (.dic ks ys) w := bw
    cases bw' with
    | dic hF h hl r0 =>
      cases he
      refine call_lenD pins s σ H _ us Q I r ⟨_, _, rfl, h, ?_⟩
      rw [List.length_zip, ← hl, Nat.min_self]
      exact hq _ _ (mk_same (.int _))
theorem snd_all (ok : XOk T N sc k X) : CallR X (.builtin "all") (rCB T .all) := by
  intro pins s σ H xs us Q I r ⟨g, ps, z, fr, b, he, hq⟩
  match ps, b, he with
  | [.lst ys], b, he =>
    obtain ⟨w, rfl, bw⟩ := bdl1 b
    obtain ⟨a, vs, rfl, ha, hl, t⟩ := bw.lst
    simp only [opB, Option.map_eq_some_iff] at he
    obtain ⟨bs, e1, e2⟩ := he
    cases e2
    have e3 := t.bools e1
    subst e3
    exact cr_all ok.calm pins s σ H _ us Q I r ⟨a, bs, rfl, SqL.of ha, hq _ _ (mk_same (.bl _))⟩
theorem snd_any (ok : XOk T N sc k X) : CallR X (.builtin "any") (rCB T .any) := by
  intro pins s σ H xs us Q I r ⟨g, ps, z, fr, b, he, hq⟩
  match ps, b, he with
  | [.lst ys], b, he =>
    obtain ⟨w, rfl, bw⟩ := bdl1 b
    obtain ⟨a, vs, rfl, ha, hl, t⟩ := bw.lst
    simp only [opB, Option.map_eq_some_iff] at he
    obtain ⟨bs, e1, e2⟩ := he
    cases e2
    have e3 := t.bools e1
    subst e3
    exact cr_any ok.calm pins s σ H _ us Q I r ⟨a, bs, rfl, SqL.of ha, hq _ _ (mk_same (.bl _))⟩
theorem snd_sum (ok : XOk T N sc k X) : CallR X (.builtin "sum") (rCB T .sum) := by
  intro pins s σ H xs us Q I r ⟨g, ps, z, fr, b, he, hq⟩
  match ps, b, he with
  | [.lst ys], b, he =>
    obtain ⟨w, rfl, bw⟩ := bdl1 b
    obtain ⟨a, vs, rfl, ha, hl, t⟩ := bw.lst
    simp only [opB, Option.map_eq_some_iff] at he
    obtain ⟨bs, e1, e2⟩ := he
    cases e2
    have e3 := t.ints e1
    subst e3
    exact cr_sum ok.calm pins s σ H _ us Q I r ⟨a, bs, rfl, SqL.of ha, hq _ _ (mk_same (.int _))⟩
theorem snd_abs : CallR X (.builtin "abs") (rCB T .abs) := by
  intro pins s σ H xs us Q I r ⟨g, ps, z, fr, b, he, hq⟩
  match ps, b, he with
  | [.int i], b, he =>
    obtain ⟨w, rfl, bw⟩ := bdl1 b
    cases bw.int
    cases he
    exact call_abs pins s σ H _ us Q I r ⟨i, rfl, hq _ _ (mk_same (.int _))⟩
theorem snd_int : CallR X (.type "int") (rCB T .int) := by
  intro pins s σ H xs us Q I r ⟨g, ps, z, fr, b, he, hq⟩
  match ps, b, he with
  | [.int i], b, he =>
    obtain ⟨w, rfl, bw⟩ := bdl1 b
    cases bw.int
    cases he
    exact call_int1 pins s σ H _ us Q I r (.inl ⟨i, rfl, hq _ _ (mk_same (.int _))⟩)
theorem snd_list (ok : XOk T N sc k X) : CallR X (.type "list") (rCB T .list) := by
  intro pins s σ H xs us Q I r ⟨g, ps, z, fr, b, he, hq⟩
  match ps, b, he with
  | [.lst ys], b, he =>
    obtain ⟨w, rfl, bw⟩ := bdl1 b
    obtain ⟨a, vs, rfl, ha, hl, t⟩ := bw.lst
    cases he
    exact call_list_of pins s σ H _ us Q I r ⟨a, vs, rfl, .inl (SqL.of ha), fun l hn => hq _ _ (mk_lst hn hl t)⟩
  | [.tup ys], b, he =>
    obtain ⟨w, rfl, bw⟩ := bdl1 b
    obtain ⟨a, vs, rfl, ha, hl, t⟩ := bw.tup
    cases he
    exact call_list_of pins s σ H _ us Q I r ⟨a, vs, rfl, .inr (by rw [ok.K]; exact ha), fun l hn => hq _ _ (mk_lst hn hl t)⟩
  | [.scr ys], b, he =>
    obtain ⟨w, rfl, bw⟩ := bdl1 b
    obtain ⟨a, vs, rfl, ha, hl, t⟩ := bw.scr
    cases he
    exact call_list_of pins s σ H _ us Q I r ⟨a, vs, rfl, .inl (by rw [ok.K]; exact ha), fun l hn => hq _ _ (mk_lst hn hl t)⟩
theorem snd_tuple (ok : XOk T N sc k X) : CallR X (.type "tuple") (rCB T .tuple) := by
  intro pins s σ H xs us Q I r ⟨g, ps, z, fr, b, he, hq⟩
  match ps, b, he with
  | [.lst ys], b, he =>
    obtain ⟨w, rfl, bw⟩ := bdl1 b
    obtain ⟨a, vs, rfl, ha, hl, t⟩ := bw.lst
    cases he
    exact call_tuple_of pins s σ H _ us Q I r ⟨a, vs, rfl, .inl ⟨SqL.of ha, fun l hn => hq _ _ (mk_tup hn hl t)⟩⟩
  | [.tup ys], b, he =>
    obtain ⟨w, rfl, bw⟩ := bdl1 b
    obtain ⟨a, vs, e, ha, hl, t⟩ := bw.tup
    cases he
    subst e
    exact call_tuple_of pins s σ H _ us Q I r ⟨a, vs, rfl, .inr ⟨by rw [ok.K]; exact ha, hq _ _ (mk_same (bw.tr (fun _ => nofun)))⟩⟩
theorem snd_max (ok : XOk T N sc k X) : CallR X (.builtin "max") (rCB T .max) := by
  intro pins s σ H xs us Q I r ⟨g, ps, z, fr, b, he, hq⟩
  match ps, b, he with
  | [.int i, .int j], b, he =>
    obtain ⟨w, y, rfl, bw, by_⟩ := bdl2 b
    cases bw.int; cases by_.int
    cases he
    exact call_max2 ok.calm pins s σ H _ us Q I r ⟨i, j, rfl, hq _ _ (mk_same (.int _))⟩
theorem snd_min (ok : XOk T N sc k X) : CallR X (.builtin "min") (rCB T .min) := by
  intro pins s σ H xs us Q I r ⟨g, ps, z, fr, b, he, hq⟩
  match ps, b, he with
  | [.int i, .int j], b, he =>
    obtain ⟨w, y, rfl, bw, by_⟩ := bdl2 b
    cases bw.int; cases by_.int
    cases he
    exact call_min2 ok.calm pins s σ H _ us Q I r ⟨i, j, rfl, hq _ _ (mk_same (.int _))⟩
/-- what a built-in's name holds -/
def bnVal : Bn → Value
  | .len => .builtin "len"
  | .all => .builtin "all"
  | .any => .builtin "any"
  | .sum => .builtin "sum"
  | .abs => .builtin "abs"
  | .int => .type "int"
  | .list => .type "list"
  | .tuple => .type "tuple"
  | .max => .builtin "max"
  | .min => .builtin "min"
theorem snd_bn (ok : XOk T N sc k X) (b : Bn) : CallR X (bnVal b) (rCB T b) := by
  cases b
  · exact snd_len ok
  · exact snd_all ok
  · exact snd_any ok
  · exact snd_sum ok
  · exact snd_abs
  · exact snd_int
  · exact snd_list ok
  · exact snd_tuple ok
  · exact snd_max ok
  · exact snd_min ok
theorem bn_boot {x : Str} {b : Bn} {lo hi : Nat} (h : bnOf x = some (b, lo, hi)) : bootBuiltins x = some (bnVal b) ∧ 1 ≤ lo := by
  unfold bnOf at h
  split at h; · rename_i e; cases h; subst e; exact ⟨by decide +kernel, by decide⟩
  split at h; · rename_i e; cases h; subst e; exact ⟨by decide +kernel, by decide⟩
  split at h; · rename_i e; cases h; subst e; exact ⟨by decide +kernel, by decide⟩
  split at h; · rename_i e; cases h; subst e; exact ⟨by decide +kernel, by decide⟩
  split at h; · rename_i e; cases h; subst e; exact ⟨by decide +kernel, by decide⟩
  split at h; · rename_i e; cases h; subst e; exact ⟨by decide +kernel, by decide⟩
  split at h; · rename_i e; cases h; subst e; exact ⟨by decide +kernel, by decide⟩
  split at h; · rename_i e; cases h; subst e; exact ⟨by decide +kernel, by decide⟩
  split at h; · rename_i e; cases h; subst e; exact ⟨by decide +kernel, by decide⟩
  split at h; · rename_i e; cases h; subst e; exact ⟨by decide +kernel, by decide⟩
  cases h

/-! ### truth -/
theorem Bd.tru {p : PV} {v : V} {c : Bool} (b : Bd T g H p v) (h : truthy p = some c) : TruV T.K v H c := by
  cases p with
  | non => cases b.non; cases h; rfl
  | bl x => cases b.bl; cases h; rfl
  | int i => cases b.int; cases h; rfl
  | str s =>
    cases b.str
    simp only [truthy] at h
    split at h
    · rename_i hl; cases h; rw [line_eq] at hl; exact ⟨hl, rfl⟩
    · cases h
  | lst xs =>
    obtain ⟨a, vs, rfl, ha, _, t⟩ := b.lst
    cases h
    refine .inl ⟨vs, SqL.of ha, ?_⟩
    cases t <;> rfl
  | tup xs =>
    obtain ⟨a, vs, rfl, ha, _, t⟩ := b.tup
    cases h
    refine .inr (.inl ⟨vs, ha, ?_⟩)
    cases t <;> rfl
  | dic ks xs =>
    obtain ⟨a, vs, rfl, ha, hl, t⟩ := b.dic
    cases h
    refine .inr (.inr ⟨_, ha, ?_⟩)
    cases ks with
    | nil => rfl
    | cons k ks => cases vs with
      | nil => simp at hl
      | cons v vs => rfl
  | _ => cases h

/-! ### items, slices -/
def isDic : PV → Bool
  | .dic _ _ => true
  | _ => false
def rIdx (T : Tx) : R2 := fun x y H Q => ∃ g px py z, isDic px = false ∧ Bd T g H px x ∧ Bd T g H py y ∧ opIdx px py = some z ∧ ∀ w, Tr T g H z w → Q w H
theorem at_get {xs : List PV} {vs : List V} {i : Int} {z : PV} (t : TrL T g H xs vs) (h : ((PL.ixN xs.length i).bind fun j => xs[j]?) = some z) : ∃ w, atI vs i = some w ∧ Tr T g H z w := by
  cases q : PL.ixN xs.length i with
  | none => rw [q] at h; cases h
  | some j =>
    rw [q] at h
    obtain ⟨w, e1, e2⟩ := t.get (show xs[j]? = some z from h)
    refine ⟨w, ?_, e2⟩
    unfold atI
    have : L2.ixN vs.length i = some j := by rw [← t.length]; exact q
    rw [this]
    exact e1
theorem snd_idx (ok : XOk T N sc k X) : IxR X (rIdx T) := by
  intro value slice pins s σ H x y v u Q I rx ry ⟨g, px, py, z, hd, bx, by_, he, hq⟩ hs
  cases px <;> first | (cases hd; done) | skip
  all_goals cases py <;> simp only [opIdx] at he <;> first | (cases he; done) | skip
  · cases by_.int
    obtain ⟨a, vs, rfl, ha, hl, t⟩ := bx.lst
    obtain ⟨w, e1, e2⟩ := at_get t he
    exact ix_seq value slice pins s σ H _ _ v u Q I rx ry (.inl ⟨a, vs, _, w, rfl, rfl, SqL.of ha, e1, hq w e2⟩) hs
  · cases by_.int
    obtain ⟨a, vs, rfl, ha, hl, t⟩ := bx.tup
    obtain ⟨w, e1, e2⟩ := at_get t he
    exact ix_seq value slice pins s σ H _ _ v u Q I rx ry (.inr (.inl ⟨a, vs, _, w, rfl, rfl, by rw [ok.K]; exact ha, e1, hq w e2⟩)) hs
theorem sIx_eq (n d : Nat) (o : Option Int) : PL.sIx n d o = HT.sIx n d o := by
  cases o <;> rfl
theorem cut_tr {xs : List PV} {vs : List V} (t : TrL T g H xs vs) (lo hi : Option Int) : TrL T g H (cut xs lo hi) (cutV vs lo hi) := by
  unfold cut cutV
  rw [← t.length, sIx_eq, sIx_eq]
  exact (t.drop _).take _
def rSli (T : Tx) : V → Option Int → Option Int → Hp → VK → Prop := fun x lo hi H Q => ∃ g px z fr, Bd T g H px x ∧ opSli px lo hi = some (z, fr) ∧ ∀ w H', Made T g H z fr w H' → Q w H'
theorem snd_sli (ok : XOk T N sc k X) : SlR X (rSli T) := by
  intro pins s σ H x v vl vu lo hi sl Q I rx hsl pl pu ⟨g, px, z, fr, bx, he, hq⟩
  cases px <;> simp only [opSli] at he <;> first | (cases he; done) | skip
  · obtain ⟨a, vs, rfl, ha, hl, t⟩ := bx.lst
    cases he
    exact sl_list pins s σ H _ v vl vu lo hi sl Q I rx hsl pl pu ⟨a, vs, rfl, SqL.of ha, fun p hp => hq _ _ (mk_lst hp (Nat.le_trans (cutV_length vs lo hi) hl) (cut_tr t lo hi))⟩
  · obtain ⟨a, vs, rfl, ha, hl, t⟩ := bx.tup
    split at he
    · cases he
    · rename_i hc
      cases he
      rw [sIx_eq, sIx_eq, t.length] at hc
      exact sl_tup pins s σ H _ v vl vu lo hi sl Q I rx hsl pl pu ⟨a, vs, rfl, by rw [ok.K]; exact ha, hc, fun p hp => hq _ _ (mk_tup hp (Nat.le_trans (cutV_length vs lo hi) hl) (cut_tr t lo hi))⟩

/-! ### isinstance -/
theorem Bd.ty {p : PV} {v : V} {nm : String} (b : Bd T g H p v) (h : typeName p = some nm) : TyX T.K H v (.type nm) := by
  cases p with
  | non => cases b.non; cases h; exact .base .non
  | bl x => cases b.bl; cases h; exact .base (.bl _)
  | int i => cases b.int; cases h; exact .base (.int _)
  | str s => cases b.str; cases h; exact .base (.str _)
  | lst xs =>
    obtain ⟨a, vs, rfl, ha, _, t⟩ := b.lst
    cases h
    exact .base (.lst ha)
  | tup xs =>
    have t : Tr T g H (.tup xs) v := b
    cases h
    cases t with
    | tup hF e hl r => exact .base (.tup e)
    | tupK e r =>
      obtain ⟨o, its, n, e1, e2, _⟩ := e
      exact .kTuple e1 e2
  | dic ks xs =>
    obtain ⟨a, vs, rfl, ha, hl, t⟩ := b.dic
    cases h
    exact .base (.dK ha)
  | _ => cases h
def plainTy (t : String) : Bool := t == "int" || t == "bool" || t == "str" || t == "list" || t == "tuple" || t == "dict"
def valTy (n : String) : Bool := n == "NoneType" || plainTy n
theorem kit_all : (["NoneType", "int", "bool", "str", "list", "tuple", "dict"].all fun a => ["int", "bool", "str", "list", "tuple", "dict"].all fun b => decide (kitB a b = some (isType a b))) = true := by decide +kernel
theorem plainTy_mem {t : String} (h : plainTy t = true) : t ∈ ["int", "bool", "str", "list", "tuple", "dict"] := by
  simp only [plainTy, Bool.or_eq_true, beq_iff_eq, or_assoc] at h
  simpa using h
theorem valTy_mem {t : String} (h : valTy t = true) : t ∈ ["NoneType", "int", "bool", "str", "list", "tuple", "dict"] := by
  simp only [valTy, plainTy, Bool.or_eq_true, beq_iff_eq, or_assoc] at h
  simpa using h
theorem typeName_val {p : PV} {n : String} (h : typeName p = some n) : valTy n = true := by
  cases p <;> simp [typeName] at h <;> subst h <;> decide
theorem kit_one {K : PySem.W.Frag} {a b : String} (ha : valTy a = true) (hb : plainTy b = true) : PySem.W.kitOne K (.type a) (.type b) = some (isType a b) := by
  have h := List.all_eq_true.mp (List.all_eq_true.mp kit_all a (valTy_mem ha)) b (plainTy_mem hb)
  exact kit_ty (of_decide_eq_true h)
theorem kit_any {K : PySem.W.Frag} {a : String} (ha : valTy a = true) : ∀ {ts : List String}, ts.all plainTy = true → PySem.W.kitAny K (.type a) (ts.map Value.type) = some (isAny a ts)
  | [], _ => kitAny_nil
  | t :: ts, h => by
    have h' : plainTy t = true ∧ ts.all plainTy = true := by simpa using h
    refine kitAny_cons (kit_one ha h'.1) (fun e => ?_) fun e => ?_
    · rw [kit_any ha h'.2]
      simp [isAny, e]
    · simp [isAny, e]
end
end PL

/-! What a loop walks. -/
namespace PL
open PySem PySem.Spec PyProof.Rows L2

/-! ### a list or a tuple -/
def iSeqA (K : PySem.W.Frag) (tl : TE) : TI := fun σ H R => tl σ H fun x H1 => ∃ a, x = .ref a ∧ ((∃ xs, SqL K H1 a xs ∧ R (Itl K a) H1) ∨ (∃ xs, SqT K H1 a xs ∧ R (Itt K a) H1))
section
variable {X : Cx} {tg : Expr}
theorem pi_seqA {l : Expr} {tl : TE} (hl : PE X l tl) : PI X tg l (iSeqA X.K tl) := by
  refine ⟨fun pins s σ H R I h => ?_⟩
  refine thn (hl.run pins s σ H _ I h) fun v s1 ⟨x, H1, I1, r1, a, ex, q1⟩ => ?_
  subst ex
  cases r1
  have fin : ∀ b, b ∈ [s1.heap.objs.size] → FpOk X pins H1 b := fun b hb => by
    have e : b = s1.heap.objs.size := by simpa using hb
    subst e
    exact I1.fpOk (Nat.le_refl _) (I1.hok.fresh (Nat.le_refl _))
  rcases q1 with ⟨xs, hq, q⟩ | ⟨xs, hq, q⟩
  · obtain ⟨its, rv, p, hz⟩ := I1.list hq
    refine wpAny_pyIter_list p.isList ?_
    exact ⟨_, _, _, _, H1, rfl, I1.kept (t' := s1.toks) fun b o e => Heap.get?_push_of_some _ e, turn_list a _, ⟨_, Heap.get?_push_size _ rfl, rfl, rfl⟩, fin, q⟩
  · obtain ⟨its, rv, p, hz⟩ := I1.tuple hq
    refine wpAny_pyIter_tuple (show s1.heap.IsTuple a its.toArray from p) ?_
    exact ⟨_, _, _, _, H1, rfl, I1.kept (t' := s1.toks) fun b o e => Heap.get?_push_of_some _ e, turn_tuple a _, ⟨_, Heap.get?_push_size _ rfl, rfl, rfl⟩, fin, q⟩
end

/-! ### enumerate of a tuple -/
section
variable {prog : Program} {w : World} {A : Around} {E : Value → Shared → Prop} {s : Shared}
theorem enum_new1 {v : Value} {o : Obj} {H : Heap → Prop} (B : Begins v o H) :
    Meets (Builtin.«enumerate.__new__» ⟨[.type "enumerate", v], []⟩) (fun _ R s => H s.heap ∧
      R (.ok (.ret (.ref (s.heap.push o).objs.size))) { s with heap := (s.heap.push o).push { cls := .type "enumerate", data := .fields #[.none, .bool false, .ref s.heap.objs.size, rawInt 0, .none, .none] } }) :=
  .of_wp fun prog w A R s h => by
    obtain ⟨hp, g, d, tk, os⟩ := s
    obtain ⟨h1, h⟩ := h
    have hsub := sub_enumerate
    have q1 : ∀ {A' : Around} {E : Value → Shared → Prop} {Q : Value → Shared → Prop}, Q (.ref hp.objs.size) ⟨hp.push o, g, d, tk, os⟩ → wpAny (model prog w) A' (pyIter v) Q E ⟨hp, g, d, tk, os⟩ :=
      fun q => B.iter prog w _ _ ⟨hp, g, d, tk, os⟩ _ h1 q
    wp_walk using q1
    refine wpAny_stack_any fun st => wpAny_pure ?_
    split
    · rename_i c _ _ _ _ _
      cases (c == Value.type "enumerate") <;> (wp_walk using q1; exact ⟨_, rfl, h⟩)
    · wp_walk using q1
      exact ⟨_, rfl, h⟩
theorem enum_call1 {v : Value} {o : Obj} {H : Heap → Prop} {Q : Value → Shared → Prop} (B : Begins v o H) (h1 : H s.heap)
    (h : ∀ h', IsEnum h' (s.heap.objs.size + 1) s.heap.objs.size 0 .none → h'.get? s.heap.objs.size = some o → (∀ b o, s.heap.get? b = some o → h'.get? b = some o) → Q (.ref (s.heap.objs.size + 1)) { s with heap := h' }) :
    wpAny (model prog w) A (call (.type "enumerate") [v]) Q E s := by
  refine callType_new F.called_enumerate (by decide) (F.typeCall_enumerate_1 _) (F.newCall_enumerate_1 _) (fun obj => F.args_object_init_2 obj _) F.entry_enumerate_new (enum_new1 B) ⟨h1, ?_⟩
  have hz : (s.heap.push o).objs.size = s.heap.objs.size + 1 := Heap.size_push ..
  show _ ∧ _
  rw [hz]
  have he : IsEnum ((s.heap.push o).push { cls := .type "enumerate", data := .fields #[.none, .bool false, .ref s.heap.objs.size, rawInt 0, .none, .none] }) (s.heap.objs.size + 1) s.heap.objs.size 0 .none := by
    have := Heap.get?_push_size (s.heap.push o) (o := { cls := .type "enumerate", data := .fields #[.none, .bool false, .ref s.heap.objs.size, rawInt 0, .none, .none] }) rfl
    rw [hz] at this; exact this
  exact ⟨⟨_, he, rfl⟩, h _ he (Heap.get?_push_of_some _ (Heap.get?_push_size _ B.free)) fun b o x => Heap.get?_push_of_some _ (Heap.get?_push_of_some _ x)⟩
end
/-- the tuple at a, each item in a new pair with its index -/
def IteT (K : PySem.W.Frag) (a : Addr) : It :=
  ⟨fun i H => ∃ (xs : List V) (x : V), SqT K H a xs ∧ xs[i]? = some x, fun i H v H' => ∃ U x, v = .ref U ∧ H U = none ∧ H' = upd H U (.tup [.int (i : Nat), x]) ∧ ∀ xs, SqT K H a xs → xs[i]? = some x, fun i H => ∃ xs : List V, SqT K H a xs ∧ xs.length ≤ i⟩
theorem turn_enumT {P : Program} {w : World} {K : PySem.W.Frag} {elts : List Expr} {kk : Nat} {tpos : Pos} (a e it : Addr) (hae : a ≠ e) (hai : a ≠ it) :
    Turn P w K (.Tuple elts kk tpos) (IteT K a) [e, it] e (fun i h => (∃ old, IsEnum h e it ((i : Nat) : Int) old) ∧ h.IsTupleIter it a i ∧ e ≠ it) where
  mem := by simp
  obj := fun i h st b hb => by
    obtain ⟨⟨old, he⟩, ⟨o, ho, hc, hd⟩, _⟩ := st
    have e' : b = e ∨ b = it := by simpa using hb
    rcases e' with z | z
    · subst z; exact ⟨_, he, fun v q => nomatch q⟩
    · subst z; exact ⟨o, ho, fun v q => by rw [hd] at q; cases q⟩
  keep := fun i h h' st k => let ⟨⟨old, he⟩, hi, hne⟩ := st; ⟨⟨old, k e (by simp) _ he⟩, hi.at fun o q => k it (by simp) o q, hne⟩
  item := by
    intro X hP hw hK hc i pins s σ H E I hf st hg
    subst hP hw hK
    obtain ⟨⟨old, he⟩, hit, hne⟩ := st
    obtain ⟨xs, x, hq, hx⟩ := hg
    obtain ⟨its, rv, p, hz⟩ := I.tuple hq
    obtain ⟨u, hu, ru⟩ := rv.get hx
    have hel : e < s.heap.objs.size := Heap.lt_size he
    have hil : it < s.heap.objs.size := by obtain ⟨_, q, _⟩ := hit; exact Heap.lt_size q
    have D := Draws.tuple (prog := X.prog) (w := X.w) (A := X.A.in1) (I.ok.hd hc) it a hai its.toArray
    have hlt : i < its.toArray.size := by
      have := (List.getElem?_eq_some_iff.mp hu).1
      simpa using this
    refine wpAny_pyNext_enum_itemD D he ⟨hit, p⟩ hlt hne (by simp [hne, Ne.symm hae]) fun x' h' tk hx' ho hst' hT hsz hk => ?_
    have hu' : its.toArray[i]? = some u := by simpa using hu
    have ex : x' = u := by rw [hu'] at hx'; exact (Option.some.inj hx').symm
    subst ex
    refine ⟨_, rfl, wpAny_letOwnedTupleGo_enum (s := { s with heap := h', toks := tk + 1 }) ho fun h'' he' sb => ?_⟩
    have hT2 : h''.get? s.heap.objs.size = some { cls := .type "tuple", data := .seq #[.int i tk, x'] } := (sb.2 _ (Nat.ne_of_gt hel)).trans hT
    have new : ObjOk X.prog X.w (upd H s.heap.objs.size (.tup [.int (i : Nat), x])) h'' s.heap.objs.size (.tup [.int (i : Nat), x]) :=
      ⟨by show 2 ≤ sizeLine; decide, [.int i tk, x'], .cons ⟨_, rfl⟩ (.cons ru .nil), ⟨_, hT2, rfl, _, rfl⟩⟩
    have I1 : Inv X pins σ (upd H s.heap.objs.size (.tup [.int (i : Nat), x])) { s with heap := h'', toks := tk + 1 } :=
      I.turnedNew (ch := [e, it]) (fun b ob hb q => (sb.2 b (fun z => hb (by simp [z]))).trans (hk b ob (fun z => hb (by simp [z])) (fun z => hb (by simp [z])) q)) hf (Nat.le_refl _) new
    refine ⟨.ref s.heap.objs.size, _, I1, rfl, ⟨_, x, rfl, I.hok.fresh (Nat.le_refl _), rfl, fun ys hy => by rw [I.tuple_inj hy hq]; exact hx⟩, ⟨⟨x', ?_⟩, hst'.1.at fun o q => (sb.2 it (Ne.symm hne)).trans q, hne⟩, fun b hb => ?_⟩
    · have e1 : ((i + 1 : Nat) : Int) = (i : Int) + 1 := by omega
      rw [e1]; exact he'
    · have hb' : b < s.heap.objs.size := by
        have e' : b = e ∨ b = it := by simpa using hb
        rcases e' with z | z
        · rw [z]; exact hel
        · rw [z]; exact hil
      rw [upd_ne (Nat.ne_of_lt hb')]
      exact (hf b hb).1
  done := by
    intro X hP hw hK hc i pins s σ H E I hf st hg
    subst hP hw hK
    obtain ⟨⟨old, he⟩, hit, hne⟩ := st
    obtain ⟨xs, hq, hx⟩ := hg
    obtain ⟨its, rv, p, hz⟩ := I.tuple hq
    obtain ⟨f0, f1, f2, f3, f4, f5⟩ := hf it (by simp)
    have hl := rv.length
    obtain ⟨ho, hgt, hgc, hgd⟩ := id hit
    have hend : its.toArray[i]? = none := by simp; omega
    have hT : s.TypeIs (.ref e) "enumerate" := ⟨_, he, rfl⟩
    unfold pyNext
    refine wpAny_bind (wpAny_attempt (wpAny_callSpecial?_slot (name := Str.ofString "__next__") hT F.slot_enumerate_next
      (wpAny_call_entry F.slot_enumerate_next hT F.entry_enumerate_next ?_ (F.args_enumerate_next_1 _))))
    show wpAny _ _ (field (.ref e) 2 >>= _) _ _ _
    refine wpAny_bind (wpAny_field he rfl (x := .ref it) rfl ?_)
    refine wpAny_bind (wpAny_nextOf_tuple_end (I.ok.hd hc) hit p hend fun h' x' he' hx' => ?_)
    obtain ⟨o, ho, hc⟩ := hx'
    refine wpAny_bind (wpAny_isInstance (T := "StopIteration") (b := true) ⟨o, ho, hc⟩ isSubtype_stop ?_)
    exact wpAny_pure ⟨rfl, I.turned (t' := s.toks) (fun b o hb q => he' b o hb q) f0 f1 f3 f4 f5⟩
  self := fun A i s Q E st h => let ⟨⟨_, he⟩, _⟩ := st; wpAny_pyIter_enum he h
def iEnumA (K : PySem.W.Frag) (ta : TA) : TI := fun σ H R => ta σ H fun vs H1 => ∃ a xs, vs = [.ref a] ∧ ((SqL K H1 a xs ∧ R (Ite K a) H1) ∨ (SqT K H1 a xs ∧ R (IteT K a) H1))
theorem pi_enumA {X : Cx} {e : Expr} {ta : TA} {p pos tpos : Pos} {elts : List Expr} {kk : Nat} (hg : Gl X "enumerate") (hm : X.mg "enumerate" = none) (ha : PA X [e] ta) (hs : starEach [e] X.env = [(false, eval e X.env)]) :
    PI X (.Tuple elts kk tpos) (.Call (.Name "enumerate" p) [e] [] pos) (iEnumA X.K ta) := by
  refine ⟨fun pins s σ H R I h => ?_⟩
  refine Call_ (ld_blt I hg hm boot_enumerate (PyProof.Rows.callWith_type1 (thn (ha.run pos pins s σ H _ I h) fun us s1 ⟨vs, H1, I1, r1, q1⟩ => ?_) hs rfl))
  obtain ⟨a, xs, ex, q1⟩ := q1
  subst ex
  cases r1 with
  | cons r rr =>
    cases rr
    cases r
    have fin : ∀ b, b ∈ [s1.heap.objs.size + 1, s1.heap.objs.size] → FpOk X pins H1 b := fun b hb => by
      have e' : b = s1.heap.objs.size + 1 ∨ b = s1.heap.objs.size := by simpa using hb
      have hle : s1.heap.objs.size ≤ b := by
        rcases e' with z | z
        · rw [z]; exact Nat.le_add_right _ _
        · rw [z]; exact Nat.le_refl _
      exact I1.fpOk hle (I1.hok.fresh hle)
    rcases q1 with ⟨hq, q⟩ | ⟨hq, q⟩
    · obtain ⟨its, rv, p', hz⟩ := I1.list hq
      refine call_enumerate_list p'.isList fun h' he hit hsz hk => wpAny_pyIter_enum he ?_
      have I2 : Inv X pins σ H1 { s1 with heap := h' } := I1.kept (t' := s1.toks) hk
      exact ⟨_, _, _, _, H1, rfl, I2, turn_enum a (s1.heap.objs.size + 1) s1.heap.objs.size, ⟨⟨.none, he⟩, hit, Nat.succ_ne_self _⟩, fin, q⟩
    · obtain ⟨its, rv, p', hz⟩ := I1.tuple hq
      obtain ⟨oa, hoa, _⟩ := id p'
      have hal : a < s1.heap.objs.size := Heap.lt_size hoa
      refine enum_call1 (begins_tuple a its.toArray) (show s1.heap.IsTuple a its.toArray from p') fun h' he hit hk => wpAny_pyIter_enum he ?_
      have I2 : Inv X pins σ H1 { s1 with heap := h' } := I1.kept (t' := s1.toks) hk
      exact ⟨_, _, _, _, H1, rfl, I2, turn_enumT a (s1.heap.objs.size + 1) s1.heap.objs.size (Nat.ne_of_lt (Nat.lt_succ_of_lt hal)) (Nat.ne_of_lt hal), ⟨⟨.none, he⟩, ⟨_, hit, rfl, rfl⟩, Nat.succ_ne_self _⟩, fin, q⟩

/-! ### the items, one after another -/
/-- the cells are as they were seen -/
def GdAt (T : Tx) (g : Gh) (H : Hp) (gd : Gd) : Prop := ∀ z ∈ gd, ∀ a, g.ce[z.1]? = some a → ListAt T g H z.2 a
def ItRel (T : Tx) (g : Gh) (H : Hp) (J : It) (its : List PV) (gd : Gd) : Prop :=
  ∀ g' H', Ext g H g' H' → (∀ a, g'.F a → H' a ≠ none) → GdAt T g' H' gd → ∀ i, (∀ p, its[i]? = some p → J.go i H' ∧ ∀ x H3, J.yld i H' x H3 → ∃ D : Addr → Prop, (∀ a, H' a ≠ none → H3 a = H' a) ∧ (∀ a, D a → H' a = none ∧ H3 a ≠ none) ∧ Tr T (gF g' D) H3 p x) ∧
    (its.length ≤ i → J.stop i H')
mutual
theorem pvEq_eq : ∀ {x y : PV}, pvEq x y = true → x = y
  | x, y, h => by
    cases x <;> cases y <;> simp only [pvEq] at h <;> first
      | (cases h; done)
      | rfl
      | (rw [eq_of_beq h]; done)
      | (rw [pvsEq_eq h]; done)
      | (rw [Bool.and_eq_true] at h; rw [of_decide_eq_true h.1, pvsEq_eq h.2])
theorem pvsEq_eq : ∀ {xs ys : List PV}, pvsEq xs ys = true → xs = ys
  | [], [], _ => rfl
  | x :: xs, y :: ys, h => by
    simp only [pvsEq, Bool.and_eq_true] at h
    rw [pvEq_eq h.1, pvsEq_eq h.2]
  | [], _ :: _, h => by simp [pvsEq] at h
  | _ :: _, [], h => by simp [pvsEq] at h
end
theorem gd_of {T : Tx} {n : En} {g : Gh} {env : Env} {h : Hs} {σ : List (Option V)} {H : Hp} (S : Sim T n g env h σ H) {gd : Gd} (q : gdOk gd h = true) : GdAt T g H gd := fun z hz a ha => by
  have q1 : gd1 h z = true := List.all_eq_true.mp q z hz
  unfold gd1 at q1
  split at q1
  · rename_i xs hx
    have := S.cv z.1 _ a hx ha
    rw [← pvsEq_eq q1]
    exact this
  · cases q1
/-- where a list stands that is walked -/
def Keep (T : Tx) (g : Gh) (H : Hp) (gd : Gd) (xs : List PV) (a : Addr) : Prop := ∀ g' H', Ext g H g' H' → GdAt T g' H' gd → ∃ vs, SqL T.K H' a vs ∧ vs.length ≤ sizeLine ∧ TrL T g' H' xs vs
theorem Keep.sub {T : Tx} {g : Gh} {H : Hp} {gd gd' : Gd} {xs : List PV} {a : Addr} (k : Keep T g H gd xs a) (h : ∀ z ∈ gd, z ∈ gd') : Keep T g H gd' xs a := fun g' H' E G => k g' H' E fun z hz => G z (h z hz)
theorem Keep.ext {T : Tx} {g g1 : Gh} {H H1 : Hp} {gd : Gd} {xs : List PV} {a : Addr} (k : Keep T g H gd xs a) (E : Ext g H g1 H1) : Keep T g1 H1 gd xs a := fun g' H' E' G => k g' H' (E.trans E') G
theorem GdAt.nil {T : Tx} {g : Gh} {H : Hp} : GdAt T g H [] := fun z hz => by simp at hz
theorem GdAt.app {T : Tx} {g : Gh} {H : Hp} {gd gd' : Gd} (a : GdAt T g H gd) (b : GdAt T g H gd') : GdAt T g H (gd ++ gd') := fun z hz => by
  rcases List.mem_append.mp hz with hz | hz
  · exact a z hz
  · exact b z hz
theorem lst_kept {T : Tx} {n : En} {g : Gh} {env : Env} {h : Hs} {σ : List (Option V)} {H : Hp} (S : Sim T n g env h σ H) {p : PV} {v : V} (t : Tr T g H p v) {xs : List PV} {gd : Gd} (q : lstOf h p = some (xs, gd)) : ∃ a, v = .ref a ∧ Keep T g H gd xs a ∧ GdAt T g H gd := by
  cases p <;> simp only [lstOf] at q <;> first | (cases q; done) | skip
  · rename_i k
    split at q
    · rename_i o ys hk
      cases q
      cases t with
      | ref hn =>
        rename_i a
        refine ⟨a, rfl, fun g' H' E G => ?_, fun z hz b hb => ?_⟩
        · obtain ⟨l, hl⟩ := E.ce
          have hn' : g'.ce[k]? = some a := by rw [hl, List.getElem?_append_left (List.getElem?_eq_some_iff.mp hn).1]; exact hn
          obtain ⟨vs, e1, e2, e3⟩ := G (k, xs) (List.mem_singleton.mpr rfl) a hn'
          exact ⟨vs, SqL.of e1, e2, e3⟩
        · rw [List.mem_singleton.mp hz] at hb ⊢
          exact S.cv k _ b hk hb
    · cases q
  · cases q
    cases t with
    | lst hF e hl r => exact ⟨_, rfl, fun g' H' E G => ⟨_, SqL.of ((E.H _ hF).trans e), hl, r.ext E⟩, .nil⟩
section
variable {T : Tx} {g : Gh} {H : Hp}
theorem gF_no (g : Gh) (H : Hp) : Ext g H (gF g fun _ => False) H := ⟨fun _ h => .inl h, fun _ _ => rfl, [], by simp [gF]⟩
theorem it_kept {a : Addr} {xs : List PV} {gd : Gd} (k : Keep T g H gd xs a) : ItRel T g H (Itl T.K a) xs gd := by
  intro g' H' E hfin G i
  obtain ⟨vs, e', _, r⟩ := k g' H' E G
  refine ⟨fun p hp => ?_, fun hl => ⟨vs, e', by rw [← r.length]; exact hl⟩⟩
  obtain ⟨v, h1, h2⟩ := r.get hp
  refine ⟨⟨vs, v, e', h1⟩, fun x H3 ⟨q1, q2⟩ => ⟨fun _ => False, fun b _ => by rw [q1], fun b hb => hb.elim, ?_⟩⟩
  have := q2 vs e'
  rw [h1] at this
  cases this
  rw [q1]
  exact h2.ext (gF_no _ _)
/-- a tuple's place, kept -/
theorem tup_keep {xs : List PV} {v : V} (t : Tr T g H (.tup xs) v) : ∃ a vs, v = .ref a ∧ TrL T g H xs vs ∧ vs.length ≤ sizeLine ∧ ∀ g' H', Ext g H g' H' → SqT T.K H' a vs := by
  cases t with
  | tup hF e hl r => exact ⟨_, _, rfl, r, hl, fun g' H' E => SqT.of ((E.H _ hF).trans e)⟩
  | tupK e r =>
    refine ⟨_, _, rfl, r, ?_, fun g' H' E => ktup_sq e⟩
    obtain ⟨o, its, k, _, _, _, hz, hv⟩ := e
    rw [Vals.length hv]
    simpa using hz
theorem lst_keep {xs : List PV} {v : V} (t : Tr T g H (.lst xs) v) : ∃ a vs, v = .ref a ∧ TrL T g H xs vs ∧ vs.length ≤ sizeLine ∧ ∀ g' H', Ext g H g' H' → SqL T.K H' a vs := by
  cases t with
  | lst hF e hl r => exact ⟨_, _, rfl, r, hl, fun g' H' E => SqL.of ((E.H _ hF).trans e)⟩
theorem it_tup {a : Addr} {xs : List PV} {vs : List V} (r : TrL T g H xs vs) (k : ∀ g' H', Ext g H g' H' → SqT T.K H' a vs) : ItRel T g H (Itt T.K a) xs [] := by
  intro g' H' E hfin _ i
  have e' := k g' H' E
  refine ⟨fun p hp => ?_, fun hl => ⟨vs, e', by rw [← r.length]; exact hl⟩⟩
  obtain ⟨v, h1, h2⟩ := r.get hp
  refine ⟨⟨vs, v, e', h1⟩, fun x H3 ⟨q1, q2⟩ => ⟨fun _ => False, fun b _ => by rw [q1], fun b hb => hb.elim, ?_⟩⟩
  have := q2 vs e'
  rw [h1] at this
  cases this
  rw [q1]
  exact (h2.ext E).ext (gF_no _ _)
theorem it_rng (lo hi : Int) : ItRel T g H (Itr lo (hi - lo).toNat) (rngItems lo hi) [] := by
  intro g' H' E hfin _ i
  refine ⟨fun p hp => ?_, fun hl => by
    have : (rngItems lo hi).length = (hi - lo).toNat := by simp [rngItems]
    rw [this] at hl
    exact hl⟩
  simp only [rngItems, List.getElem?_map, Option.map_eq_some_iff] at hp
  obtain ⟨j, h1, h2⟩ := hp
  obtain ⟨h3, h4⟩ := List.getElem?_eq_some_iff.mp h1
  rw [List.getElem_range] at h4
  subst h4
  subst h2
  refine ⟨by rw [List.length_range] at h3; exact h3, fun x H3 ⟨q1, q2⟩ => ⟨fun _ => False, fun b _ => by rw [q1], fun b hb => hb.elim, ?_⟩⟩
  subst q2
  exact .int _
/-- a pair that is given out -/
theorem pair_tr {g' : Gh} {H' : Hp} {U : Addr} {p q : PV} {x y : V} (hn : H' U = none) (g0 : ∀ a, g'.F a → H' a ≠ none) (h1 : Tr T g' H' p x) (h2 : Tr T g' H' q y) :
    (∀ a, H' a ≠ none → upd H' U (.tup [x, y]) a = H' a) ∧ (∀ a, (a = U) → H' a = none ∧ upd H' U (.tup [x, y]) a ≠ none) ∧ Tr T (gF g' (· = U)) (upd H' U (.tup [x, y])) (.tup [p, q]) (.ref U) := by
  have E : Ext g' H' (gF g' (· = U)) (upd H' U (.tup [x, y])) := ⟨fun _ h => .inl h, fun a h => upd_grow hn a (g0 a h), [], by simp [gF]⟩
  refine ⟨upd_grow hn, fun a e => ?_, Tr.tup (g := gF g' (· = U)) (.inr rfl) upd_same (by show 2 ≤ sizeLine; decide) (.cons (h1.ext E) (.cons (h2.ext E) .nil))⟩
  subst e
  exact ⟨hn, by rw [upd_same]; exact fun z => nomatch z⟩
theorem enum_at {xs : List PV} {i : Nat} {p : PV} (h : (enumItems xs)[i]? = some p) : ∃ q, xs[i]? = some q ∧ p = .tup [.int (i : Nat), q] := by
  simp only [enumItems, List.getElem?_map, Option.map_eq_some_iff] at h
  obtain ⟨z, h1, h2⟩ := h
  rw [List.getElem?_zipIdx] at h1
  cases q : xs[i]? with
  | none => rw [q] at h1; simp at h1
  | some y =>
    rw [q] at h1
    simp at h1
    subst h1
    exact ⟨y, rfl, h2.symm⟩
theorem enum_len (xs : List PV) : (enumItems xs).length = xs.length := by simp [enumItems]
theorem zip_at {xs ys : List PV} {i : Nat} {p : PV} (h : (zipItems xs ys)[i]? = some p) : ∃ q r, xs[i]? = some q ∧ ys[i]? = some r ∧ p = .tup [q, r] := by
  simp only [zipItems, List.getElem?_map, Option.map_eq_some_iff] at h
  obtain ⟨z, h1, h2⟩ := h
  rw [List.getElem?_zip_eq_some] at h1
  exact ⟨z.1, z.2, h1.1, h1.2, h2.symm⟩
theorem zip_len (xs ys : List PV) : (zipItems xs ys).length = min xs.length ys.length := by simp [zipItems]
theorem it_enum {a : Addr} {xs : List PV} {gd : Gd} (k : Keep T g H gd xs a) : ItRel T g H (Ite T.K a) (enumItems xs) gd := by
  intro g' H' E hfin G i
  obtain ⟨vs, e', _, r⟩ := k g' H' E G
  refine ⟨fun p hp => ?_, fun hl => ⟨vs, e', by rw [enum_len] at hl; rw [← r.length]; exact hl⟩⟩
  obtain ⟨q, hq, rfl⟩ := enum_at hp
  obtain ⟨v, h1, h2⟩ := r.get hq
  refine ⟨⟨vs, v, e', h1⟩, fun x H3 ⟨U, y, q1, q2, q3, q4⟩ => ?_⟩
  have := q4 vs e'
  rw [h1] at this
  cases this
  subst q1 q3
  exact ⟨_, pair_tr q2 hfin (.int _) h2⟩
theorem it_enumT {a : Addr} {xs : List PV} {vs : List V} (r : TrL T g H xs vs) (k : ∀ g' H', Ext g H g' H' → SqT T.K H' a vs) : ItRel T g H (IteT T.K a) (enumItems xs) [] := by
  intro g' H' E hfin _ i
  have e' := k g' H' E
  refine ⟨fun p hp => ?_, fun hl => ⟨vs, e', by rw [enum_len] at hl; rw [← r.length]; exact hl⟩⟩
  obtain ⟨q, hq, rfl⟩ := enum_at hp
  obtain ⟨v, h1, h2⟩ := r.get hq
  refine ⟨⟨vs, v, e', h1⟩, fun x H3 ⟨U, y, q1, q2, q3, q4⟩ => ?_⟩
  have := q4 vs e'
  rw [h1] at this
  cases this
  subst q1 q3
  exact ⟨_, pair_tr q2 hfin (.int _) (h2.ext E)⟩
theorem it_zip {a b : Addr} {xs ys : List PV} {gd : Gd} (k : Keep T g H gd xs a) (l : Keep T g H gd ys b) : ItRel T g H (Itz T.K a b) (zipItems xs ys) gd := by
  intro g' H' E hfin G i
  obtain ⟨vs, e1, _, r⟩ := k g' H' E G
  obtain ⟨ws, e2, _, s⟩ := l g' H' E G
  refine ⟨fun p hp => ?_, fun hl => ⟨vs, ws, e1, e2, by rw [zip_len] at hl; rw [← r.length, ← s.length]; omega⟩⟩
  obtain ⟨q, q', hq, hq', rfl⟩ := zip_at hp
  obtain ⟨v, h1, h2⟩ := r.get hq
  obtain ⟨w, h3, h4⟩ := s.get hq'
  refine ⟨⟨vs, ws, v, w, e1, e2, h1, h3⟩, fun x H3 ⟨U, y, z, q1, q2, q3, q4, q5⟩ => ?_⟩
  have t1 := q4 vs e1
  have t2 := q5 ws e2
  rw [h1] at t1
  rw [h3] at t2
  cases t1
  cases t2
  subst q1 q3
  exact ⟨_, pair_tr q2 hfin h2 h4⟩
theorem it_zipT {a b : Addr} {xs ys : List PV} {vs ws : List V} (r : TrL T g H xs vs) (s : TrL T g H ys ws) (k : ∀ g' H', Ext g H g' H' → SqT T.K H' a vs) (l : ∀ g' H', Ext g H g' H' → SqT T.K H' b ws) : ItRel T g H (RZ.ItzT T.K a b) (zipItems xs ys) [] := by
  intro g' H' E hfin _ i
  have e1 := k g' H' E
  have e2 := l g' H' E
  refine ⟨fun p hp => ?_, fun hl => ⟨vs, ws, e1, e2, by rw [zip_len] at hl; rw [← r.length, ← s.length]; omega⟩⟩
  obtain ⟨q, q', hq, hq', rfl⟩ := zip_at hp
  obtain ⟨v, h1, h2⟩ := r.get hq
  obtain ⟨w, h3, h4⟩ := s.get hq'
  refine ⟨⟨vs, ws, v, w, e1, e2, h1, h3⟩, fun x H3 ⟨U, y, z, q1, q2, q3, q4, q5⟩ => ?_⟩
  have t1 := q4 vs e1
  have t2 := q5 ws e2
  rw [h1] at t1
  rw [h3] at t2
  cases t1
  cases t2
  subst q1 q3
  exact ⟨_, pair_tr q2 hfin (h2.ext E) (h4.ext E)⟩
end
end PL

/-! Readings; expressions. -/
namespace PL
open PySem PySem.Spec PyProof.Rows L2

/-- the def's entry -/
abbrev en0 (H : Hp) (g : Gh) : En := ⟨H, g.F, g.ce⟩

structure SimT (T : Tx) (n : En) (g : Gh) (e te : Env) (h : Hs) (σ ts : List (Option V)) (H : Hp) : Prop where
  l1 : e.length = σ.length
  l2 : te.length = ts.length
  sim : Sim T n g (e ++ te) h (σ ++ ts) H

/-- an error that is raised: its class, its one field -/
structure ClsT where
  x : Str
  A : Addr
  fs : List Str
def ExcAt (T : Tx) (cs : List ClsT) (g : Gh) (H : Hp) (c : Nat) (fs : List PV) (cls : Value) (d : Option Addr) : Prop :=
  ∃ k, cs[c]? = some k ∧ cls = .ref k.A ∧ ∃ dd vs, d = some dd ∧ g.F dd ∧ H dd = some (.xd (k.fs.zip vs)) ∧ k.fs.length = vs.length ∧ TrL T g H fs vs

/-- a def of the module -/
structure DefT where
  x : Str
  ps : List Str
  f : Addr
  fd : FuncData
/-- everything that a walk leans on -/
structure Wd where
  T : Tx
  cs : List ClsT
  ds : List DefT
  kw : List (Nat × Nat × List Str × List Nat)
  C : Calls
  W : WX

section
variable (D : Wd)
def Wp {α β : Type} (n : En) (σ : List (Option V)) (te : Env) (ts : List (Option V)) (rel : Gh → Hp → Env → α → β → Prop) (o : Out α) (g : Gh) (H : Hp) (Q : β → Hp → Prop) : Prop :=
  match o with
  | .ok r e h => ∀ g' H' w, Ext g H g' H' → SimT D.T n g' e te h σ ts H' → rel g' H' e r w → Q w H'
  | .exc c fs e h => ∀ g' H' cls d, Ext g H g' H' → SimT D.T n g' e te h σ ts H' → ExcAt D.T D.cs g' H' c fs cls d → D.W cls d σ H'
  | .stuck => False
end
section
variable {D : Wd} {n : En} {σ : List (Option V)} {te : Env} {ts : List (Option V)} {g : Gh} {H : Hp}
theorem Wp.mono {α β : Type} {rel : Gh → Hp → Env → α → β → Prop} {o : Out α} {Q : β → Hp → Prop} {g1 : Gh} {H1 : Hp} (E : Ext g H g1 H1) (h : Wp D n σ te ts rel o g H Q) : Wp D n σ te ts rel o g1 H1 Q := by
  cases o with
  | ok r e h' => exact fun g' H' w E' S r => h g' H' w (E.trans E') S r
  | exc c fs e h' => exact fun g' H' cls d E' S r => h g' H' cls d (E.trans E') S r
  | stuck => exact h
theorem Wp.bind {α α' β β' : Type} {relA : Gh → Hp → Env → α → β → Prop} {relB : Gh → Hp → Env → α' → β' → Prop} {o : Out α} {f : α → Env → Hs → Out α'} {Q : β' → Hp → Prop} {P : β → Hp → Prop}
    (h : Wp D n σ te ts relB (o.bind f) g H Q)
    (k : ∀ r e' h' g' H' w, o = .ok r e' h' → Ext g H g' H' → SimT D.T n g' e' te h' σ ts H' → relA g' H' e' r w → Wp D n σ te ts relB (f r e' h') g' H' Q → P w H') : Wp D n σ te ts relA o g H P := by
  cases o with
  | ok r e h' => exact fun g' H' w E S q => k r e h' g' H' w rfl E S q (h.mono E)
  | exc c fs e h' => exact h
  | stuck => exact h
theorem Wp.imp {α β : Type} {rel rel' : Gh → Hp → Env → α → β → Prop} {o : Out α} {Q Q' : β → Hp → Prop} (h : Wp D n σ te ts rel o g H Q) (hr : ∀ g H e r w, rel' g H e r w → rel g H e r w) (hq : ∀ w H, Q w H → Q' w H) : Wp D n σ te ts rel' o g H Q' := by
  cases o with
  | ok r e h' => exact fun g' H' w E S q => hq _ _ (h g' H' w E S (hr _ _ _ _ _ q))
  | exc c fs e h' => exact h
  | stuck => exact h
end

/-! ### the readings -/
section
variable (D : Wd)
/-- a state to start from -/
def Go (σ : List (Option V)) (H : Hp) (P : En → Gh → Env → Env → Hs → List (Option V) → Prop) : Prop := ∃ n g e te h ts, SimT D.T n g e te h σ ts H ∧ P n g e te h ts
def relA (n : En) (σ : List (Option V)) (te : Env) (ts : List (Option V)) : Gh → Hp → Env → Rs → V → Prop := fun g H e r w => RR D.T n g H (e ++ te) (σ ++ ts) r w
def tA (ex : Ex) : TE := fun σ H Q => Go D σ H fun n g e te h ts => Wp D n σ te ts (relA D n σ te ts) (evA D.C ex e h) g H Q
def relT : Gh → Hp → Env → Bool → Bool → Prop := fun _ _ _ r w => r = w
def tT (ex : Ex) : TT := fun σ H Q => Go D σ H fun n g e te h ts => Wp D n σ te ts relT (evT D.C ex e h) g H Q
def relL : Gh → Hp → Env → List PV → List V → Prop := fun g H _ r w => TrL D.T g H r w
def tL (ex : Ex) : TA := fun σ H Q => Go D σ H fun n g e te h ts => Wp D n σ te ts (relL D) (evL D.C ex e h) g H Q
/-- a result that was frozen, or a slot's -/
def RF (g : Gh) (H : Hp) (σ : List (Option V)) : Rs → V → Prop
  | .slot i, w => σ[i]? = some (some w)
  | .v p _, w => Tr D.T g H p w
def relR (σ ts : List (Option V)) : Gh → Hp → Env → List Rs → List V → Prop := fun g H _ r w => Paired (RF D g H (σ ++ ts)) r w
def tR (ex : Ex) : TA := fun σ H Q => Go D σ H fun n g e te h ts => Wp D n σ te ts (relR D σ ts) (evR D.C ex e h) g H Q
def relO : Gh → Hp → Env → Option Int → Option Int → Prop := fun _ _ _ r w => r = w
def tO (ex : Ex) : TO := fun σ H Q => Go D σ H fun n g e te h ts => Wp D n σ te ts relO (evO D.C ex e h) g H Q
def relI : Gh → Hp → Env → List PV × Gd → It → Prop := fun g H _ r J => ItRel D.T g H J r.1 r.2
def tI (ex : Ex) : TI := fun σ H R => Go D σ H fun n g e te h ts => Wp D n σ te ts (relI D) (evI D.C ex e h) g H R
end

section
variable {D : Wd} {n : En} {σ : List (Option V)} {e te : Env} {h : Hs} {ts : List (Option V)} {g : Gh} {H : Hp}
theorem RF.ext {g' : Gh} {H' : Hp} (E : Ext g H g' H') {s : List (Option V)} {r : Rs} {w : V} (h : RF D g H s r w) : RF D g' H' s r w := by
  cases r with
  | slot i => exact h
  | v p fr => exact Tr.ext E h
theorem Paired.imp' {α β : Type} {R R' : α → β → Prop} : ∀ {l₁ : List α} {l₂ : List β}, Paired R l₁ l₂ → (∀ a b, R a b → R' a b) → Paired R' l₁ l₂
  | _, _, .nil, _ => .nil
  | _, _, .cons h t, f => .cons (f _ _ h) (Paired.imp' t f)
/-- a result is kept while other things are reckoned: it is frozen -/
theorem SimT.keep (S : SimT D.T n g e te h σ ts H) {r : Rs} {w : V} (rr : RR D.T n g H (e ++ te) (σ ++ ts) r w) : ∃ g', Ext g H g' H ∧ SimT D.T n g' e te h σ ts H ∧ RF D g' H (σ ++ ts) r w := by
  cases r with
  | slot i => exact ⟨g, Ext.refl g H, S, rr⟩
  | v p fr =>
    obtain ⟨g', E, S', t⟩ := S.sim.frz rr
    exact ⟨g', E, ⟨S.l1, S.l2, S'⟩, t⟩
theorem rd_app {r : Rs} {x : PV} (hl : e.length = σ.length) (hx : rd r e h = some x) : rd r (e ++ te) h = some x := by
  cases r with
  | slot i =>
    simp only [rd] at hx ⊢
    cases q : e[i]? with
    | none => rw [q] at hx; cases hx
    | some s => rw [List.getElem?_append_left (List.getElem?_eq_some_iff.mp q).1, q]; rw [q] at hx; exact hx
  | v p fr => exact hx
theorem SimT.rd (S : SimT D.T n g e te h σ ts H) {r : Rs} {w : V} (rf : RF D g H (σ ++ ts) r w) {x : PV} (hx : PL.rd r e h = some x) : Bd D.T g H x w :=
  S.sim.rd (by cases r <;> exact rf) (rd_app S.l1 hx)
theorem esc_app {r : Rs} {p : PV} {fr : Bool} {e2 : Env} (hx : esc r e = some (p, fr, e2)) : esc r (e ++ te) = some (p, fr, e2 ++ te) ∧ e2.length = e.length := by
  cases r with
  | slot i =>
    simp only [esc] at hx ⊢
    cases q : e[i]? with
    | none => rw [q] at hx; cases hx
    | some s =>
      have hi := (List.getElem?_eq_some_iff.mp q).1
      rw [List.getElem?_append_left hi, q]
      rw [q] at hx
      cases s with
      | no => cases hx
      | val v => simp at hx; obtain ⟨rfl, rfl, rfl⟩ := hx; exact ⟨rfl, rfl⟩
      | own v =>
        simp at hx
        obtain ⟨rfl, rfl, rfl⟩ := hx
        refine ⟨?_, by simp⟩
        show some (_, false, (e ++ te).set i _) = _
        have e1 : (e ++ te).set i (SV.val v) = e.set i (SV.val v) ++ te := List.set_append_left _ _ hi
        rw [e1]
  | v p fr => simp [esc] at hx ⊢; obtain ⟨rfl, rfl, rfl⟩ := hx; exact ⟨⟨rfl, rfl, rfl⟩, rfl⟩
theorem SimT.esc (S : SimT D.T n g e te h σ ts H) {r : Rs} {w : V} (rr : RR D.T n g H (e ++ te) (σ ++ ts) r w) {p : PV} {fr : Bool} {e2 : Env} (he : PL.esc r e = some (p, fr, e2)) :
    ∃ g', Ext g H g' H ∧ SimT D.T n g' e2 te h σ ts H ∧ Res D.T n g' H (e2 ++ te) (σ ++ ts) p fr w := by
  obtain ⟨q, hl⟩ := esc_app (te := te) he
  obtain ⟨g', E, S', t⟩ := S.sim.esc rr q
  exact ⟨g', E, ⟨hl.trans S.l1, S.l2, S'⟩, t⟩
theorem SimT.escF (S : SimT D.T n g e te h σ ts H) {r : Rs} {w : V} (rr : RR D.T n g H (e ++ te) (σ ++ ts) r w) {p : PV} {fr : Bool} {e2 : Env} (he : PL.esc r e = some (p, fr, e2)) :
    ∃ g', Ext g H g' H ∧ SimT D.T n g' e2 te h σ ts H ∧ Tr D.T g' H p w := by
  obtain ⟨q, hl⟩ := esc_app (te := te) he
  obtain ⟨g', E, S', t⟩ := S.sim.escF rr q
  exact ⟨g', E, ⟨hl.trans S.l1, S.l2, S'⟩, t⟩
theorem SimT.made (S : SimT D.T n g e te h σ ts H) {z : PV} {fr : Bool} {w : V} {H' : Hp} (m : Made D.T g H z fr w H') : ∃ g', Ext g H g' H' ∧ SimT D.T n g' e te h σ ts H' ∧ Res D.T n g' H' (e ++ te) (σ ++ ts) z fr w := by
  obtain ⟨g', E, S', r⟩ := S.sim.made m
  exact ⟨g', E, ⟨S.l1, S.l2, S'⟩, r⟩
/-- the end of an operation that hands back a made thing -/
theorem Wp.made {z : PV} {fr : Bool} {w : V} {H' : Hp} {Q : VK} (hw : Wp D n σ te ts (relA D n σ te ts) (.ok (.v z fr) e h) g H Q) (S : SimT D.T n g e te h σ ts H) (m : Made D.T g H z fr w H') : Q w H' := by
  obtain ⟨g', E, S', r⟩ := S.made m
  exact hw g' H' w E S' r
end

/-! ### what the context gives -/
structure XG (D : Wd) (N : List Str) (sc : Scope) (asg : Str → Bool) (k : Nat) (X : Cx) : Prop extends XOk D.T N sc k X where
  tk : Takes X D.W
  po : PassesOwn (model X.prog X.w) X.A X.env X.xe
  fn : ∀ x, asg x = true → X.fn x = true ∨ X.env.scope.names.lookup x = some .local

theorem PE.of {X : Cx} {e : Expr} {t t' : TE} (h : PE X e t) (i : ∀ σ H Q, t' σ H Q → t σ H Q) : PE X e t' := ⟨fun pins s σ H Q I q => h.run pins s σ H Q I (i σ H Q q)⟩
theorem PT.of {X : Cx} {e : Expr} {t t' : TT} (h : PT X e t) (i : ∀ σ H Q, t' σ H Q → t σ H Q) : PT X e t' := ⟨fun pins s σ H Q I q => h.run pins s σ H Q I (i σ H Q q)⟩
theorem PW.of {X : Cx} {e : Expr} {t t' : TT} (h : PW X e t) (i : ∀ σ H Q, t' σ H Q → t σ H Q) : PW X e t' := ⟨fun wh pins s σ H Q I q => h.run wh pins s σ H Q I (i σ H Q q)⟩
theorem PA.of {X : Cx} {e : List Expr} {t t' : TA} (h : PA X e t) (i : ∀ σ H Q, t' σ H Q → t σ H Q) : PA X e t' := ⟨fun pos pins s σ H Q I q => h.run pos pins s σ H Q I (i σ H Q q)⟩
theorem PO.of {X : Cx} {e : Option Expr} {t t' : TO} (h : PO X e t) (i : ∀ σ H Q, t' σ H Q → t σ H Q) : PO X e t' := ⟨fun pins s σ H Q I q => h.run pins s σ H Q I (i σ H Q q)⟩
theorem PI.of {X : Cx} {tg e : Expr} {t t' : TI} (h : PI X tg e t) (i : ∀ σ H Q, t' σ H Q → t σ H Q) : PI X tg e t' := ⟨fun pins s σ H Q I q => h.run pins s σ H Q I (i σ H Q q)⟩
theorem pe_stuck {D : Wd} {X : Cx} {e : Expr} : PE X e (tA D .stuck) := ⟨fun pins s σ H Q I ⟨n, g, e', te, h, ts, S, w⟩ => by simp only [evA] at w; exact w.elim⟩
theorem pt_stuck {D : Wd} {X : Cx} {e : Expr} : PT X e (tT D .stuck) := ⟨fun pins s σ H Q I ⟨n, g, e', te, h, ts, S, w⟩ => by simp only [evT, evA, Out.bind] at w; exact w.elim⟩

theorem starEach_cons {e : Expr} {es : List Expr} {env : PySem.Env} (h : isStarE e = false) : starEach (e :: es) env = (false, eval e env) :: starEach es env := by
  cases e <;> first | rfl | (simp [isStarE] at h)
theorem starEach_plain {env : PySem.Env} {pos : Pos} : ∀ {es : List Expr}, (es.all fun e => !isStarE e) = true → (backTo pos (starEach es env)).any (·.1) = false
  | [], _ => rfl
  | e :: es, h => by
    have h' : isStarE e = false ∧ (es.all fun e => !isStarE e) = true := by simpa using h
    rw [starEach_cons h'.1]
    show (false || (backTo pos (starEach es env)).any (·.1)) = false
    rw [starEach_plain h'.2]; rfl

section
variable {D : Wd} {N : List Str} {sc : Scope} {asg : Str → Bool} {k : Nat} {X : Cx}
/-! names, constants -/
theorem visB_vis {sc : Scope} {x : Str} (h : visB sc x = true) : Vis sc x := by
  unfold visB at h
  unfold Vis
  split at h <;> first | (rename_i e; simp [e]; done) | cases h
theorem locB_loc {sc : Scope} {x : Str} (h : locB sc x = true) : L2.Loc sc x := by
  unfold locB at h
  unfold L2.Loc
  split at h <;> first | (rename_i e; simp [e]; done) | cases h
theorem glB_gl (ok : XOk D.T N sc k X) {x : Str} (h : glB sc x = true) : Gl X x := by
  unfold glB at h
  split at h
  · rename_i e
    show X.env.scope.names.lookup x = some .globalImplicit
    rw [ok.hsc]; exact e
  · cases h
theorem idxOf_get {x : Str} : ∀ {l : List Str} {i : Nat}, idxOf? x l = some i → l[i]? = some x
  | [], _, h => by cases h
  | y :: r, i, h => by
    unfold idxOf? at h
    split at h
    · rename_i e; cases h; rw [e]; rfl
    · cases q : idxOf? x r with
      | none => rw [q] at h; cases h
      | some j => rw [q] at h; cases h; exact (idxOf_get (l := r) q : r[j]? = some x)
theorem defOf_get {x : Str} : ∀ {l : List (Str × List Str)} {i : Nat} {ps : List Str}, defOf? x l = some (i, ps) → l[i]? = some (x, ps)
  | [], _, _, h => by cases h
  | (y, qs) :: r, i, ps, h => by
    unfold defOf? at h
    split at h
    · rename_i e; cases h; rw [e]; rfl
    · cases q : defOf? x r with
      | none => rw [q] at h; cases h
      | some z => rw [q] at h; cases h; exact (defOf_get (l := r) q : r[z.1]? = some (x, z.2))
theorem clsOf_get {x : Str} : ∀ {l : List (Str × Nat)} {i m : Nat}, clsOf? x l = some (i, m) → l[i]? = some (x, m)
  | [], _, _, h => by cases h
  | (y, qs) :: r, i, ps, h => by
    unfold clsOf? at h
    split at h
    · rename_i e; cases h; rw [e]; rfl
    · cases q : clsOf? x r with
      | none => rw [q] at h; cases h
      | some z => rw [q] at h; cases h; exact (clsOf_get (l := r) q : r[z.1]? = some (x, z.2))
theorem okName_ne {x : Str} (h : okName x = true) : (x == ("__debug__" : Str)) = false ∧ (x == ("__classdict__" : Str)) = false ∧ x ≠ "__name__" := by
  unfold okName at h
  simp only [Bool.and_eq_true, Bool.not_eq_true'] at h
  exact ⟨h.1.1, h.1.2, by simpa using h.2⟩

/-- what the compiler's knowledge of the module means -/
structure ScOk (D : Wd) (S : Sc) : Prop where
  defs : S.defs = D.ds.map fun d => (d.x, d.ps)
  fnA : ∀ (i : Nat) (d : DefT), D.ds[i]? = some d → D.T.fnA i = some d.f
  mgd : ∀ (i : Nat) (d : DefT), D.ds[i]? = some d → D.T.mg d.x = some (.ref d.f) ∧ PySem.W.keepIn D.T.K (.ref d.f) = true
  free : ∀ x ∈ S.free, D.T.mg x = none
theorem Rv {T : Tx} {n : En} {g : Gh} {H : Hp} {env : Env} {s : List (Option V)} {p : PV} {w : V} (t : Tr T g H p w) : RR T n g H env s (.v p false) w := Res.old t
theorem pe_con_val {e : Expr} {v : V} {p : PV} (h : PE X e (tC v)) (t : ∀ g H, Tr D.T g H p v) : PE X e (tA D (.con p)) :=
  PE.of h fun σ H Q ⟨n, g, e', te, h', ts, S, w⟩ => by
    simp only [evA] at w
    exact w g H v (Ext.refl g H) S (Rv (t g H))
theorem snd_name (ok : XOk D.T N sc k X) {S : Sc} (so : ScOk D S) (hN : S.N = N) (hs : S.sc = sc) {x : Str} {pos : Pos} : PE X (.Name x pos) (tA D (cName S x)) := by
  unfold cName
  split
  · rename_i hk
    obtain ⟨k1, k2, k3⟩ := okName_ne hk
    split
    · rename_i hv
      split
      · rename_i i hi
        refine PE.of (pv i (by rw [ok.hN, ← hN]; exact idxOf_get hi) (by rw [ok.hsc, ← hs]; exact visB_vis hv) k1 k2) fun σ H Q ⟨n, g, e, te, h, ts, S', w⟩ => ?_
        simp only [evA] at w
        have fin : ∀ s, e[i]? = some s → (s = .no → False) → Wp D n σ te ts (relA D n σ te ts) (.ok (.slot i) e h) g H Q → tVar i σ H Q := fun s hs hn w => by
          have hl : i < e.length := (List.getElem?_eq_some_iff.mp hs).1
          have q := S'.sim.sl i s (by rw [List.getElem?_append_left hl]; exact hs)
          have hσ : (σ ++ ts)[i]? = σ[i]? := List.getElem?_append_left (by rw [← S'.l1]; exact hl)
          cases s with
          | no => exact (hn rfl).elim
          | val p =>
            obtain ⟨v, e1, _⟩ := q
            exact ⟨v, by rw [← hσ]; exact e1, w g H v (Ext.refl g H) S' (show (σ ++ ts)[i]? = some (some v) from e1)⟩
          | own p =>
            obtain ⟨a, e1, _⟩ := q
            exact ⟨.ref a, by rw [← hσ]; exact e1, w g H _ (Ext.refl g H) S' (show (σ ++ ts)[i]? = some (some (.ref a)) from e1)⟩
        cases q : e[i]? with
        | none => rw [q] at w; exact w.elim
        | some s =>
          rw [q] at w
          cases s with
          | no => exact w.elim
          | val p => exact fin _ q (fun z => nomatch z) w
          | own p => exact fin _ q (fun z => nomatch z) w
      · exact pe_stuck
    · split
      · rename_i hg
        split
        · rename_i i ps hd
          have h1 := defOf_get hd
          rw [so.defs, List.getElem?_map, Option.map_eq_some_iff] at h1
          obtain ⟨d, h2, h3⟩ := h1
          cases h3
          obtain ⟨m1, _⟩ := so.mgd i d h2
          exact pe_con_val (v := .ref d.f) (pe_glob (glB_gl ok (by rw [← hs]; exact hg)) (by rw [ok.mg]; exact m1) rfl k1) fun g H => .fn (so.fnA i d h2)
        · exact pe_stuck
      · exact pe_stuck
  · exact pe_stuck
theorem snd_const {c : Const} {j : Nat} {pos : Pos} : PE X (.Constant c j pos) (tA D (cConst c)) := by
  cases c with
  | none => exact pe_con_val pe_non fun _ _ => .non
  | bool b => exact pe_con_val pe_bl fun _ _ => .bl b
  | int i => exact pe_con_val pe_int fun _ _ => .int i
  | str s => exact pe_con_val pe_str fun _ _ => .str s
  | _ => exact pe_stuck

theorem Wp.ok' {D : Wd} {α β : Type} {n : En} {σ : List (Option V)} {te : Env} {ts : List (Option V)} {rel : Gh → Hp → Env → α → β → Prop} {o : Out α} {r : α} {e : Env} {h : Hs} {g : Gh} {H : Hp} {Q : β → Hp → Prop} (q : o = .ok r e h)
    (k : ∀ g' H' w, Ext g H g' H' → SimT D.T n g' e te h σ ts H' → rel g' H' e r w → Q w H') : Wp D n σ te ts rel o g H Q := by
  subst q; exact k
/-! operators -/
/-- two parts, one behind another -/
theorem two_parts {a b : Ex} {σ : List (Option V)} {H : Hp} {n : En} {g : Gh} {e te : Env} {h : Hs} {ts : List (Option V)} {α β : Type} {rel : Gh → Hp → Env → α → β → Prop} {f : Rs → Rs → Env → Hs → Out α} {Q : β → Hp → Prop} {P : V → V → Hp → Prop}
    (S : SimT D.T n g e te h σ ts H) (w : Wp D n σ te ts rel ((evA D.C a e h).bind fun ra e1 h1 => (evA D.C b e1 h1).bind fun rb e2 h2 => f ra rb e2 h2) g H Q)
    (k : ∀ ra rb e2 h2 g2 H2 x y, SimT D.T n g2 e2 te h2 σ ts H2 → RF D g2 H2 (σ ++ ts) ra x → RF D g2 H2 (σ ++ ts) rb y → Wp D n σ te ts rel (f ra rb e2 h2) g2 H2 Q → P x y H2) :
    tA D a σ H fun x H1 => tA D b σ H1 fun y H2 => P x y H2 := by
  refine ⟨n, g, e, te, h, ts, S, Wp.bind w fun ra e1 h1 g1 H1 x _ E1 S1 r1 w1 => ?_⟩
  obtain ⟨g1', E1', S1', f1⟩ := S1.keep r1
  refine ⟨n, g1', e1, te, h1, ts, S1', Wp.bind (w1.mono E1') fun rb e2 h2 g2 H2 y _ E2 S2 r2 w2 => ?_⟩
  obtain ⟨g2', E2', S2', f2⟩ := S2.keep r2
  exact k ra rb e2 h2 g2' H2 x y S2' ((f1.ext E2).ext E2') f2 (w2.mono E2')
theorem snd_bin (ok : XOk D.T N sc k X) {a b : Expr} {op : Operator} {o : Bop} {pos : Pos} {ea eb : Ex} (ho : cBop op = some o) (ha : PE X a (tA D ea)) (hb : PE X b (tA D eb)) : PE X (.BinOp a op b pos) (tA D (.bin o ea eb)) :=
  PE.of (pe_op (snd_bop ok ho) ha hb) fun σ H Q ⟨n, g, e, te, h, ts, S, w⟩ => by
    simp only [evA] at w
    refine two_parts S w fun ra rb e2 h2 g2 H2 x y S2 f1 f2 w2 => ?_
    cases q1 : rd ra e2 h2 with
    | none => rw [q1] at w2; exact w2.elim
    | some px =>
      cases q2 : rd rb e2 h2 with
      | none => rw [q1, q2] at w2; exact w2.elim
      | some py =>
        rw [q1, q2] at w2
        simp only at w2
        cases q3 : opBin o px py with
        | none => rw [q3] at w2; exact w2.elim
        | some z =>
          rw [q3] at w2
          exact ⟨g2, px, py, z.1, z.2, S2.rd f1 q1, S2.rd f2 q2, q3, fun v H' m => Wp.made w2 S2 m⟩
theorem snd_cmp (ok : XOk D.T N sc k X) {a b : Expr} {op : CmpOp} {o : Cop} {pos : Pos} {ea eb : Ex} (ho : cCop op = some o) (hs : isSetE b = false) (ha : PE X a (tA D ea)) (hb : PE X b (tA D eb)) : PE X (.Compare a [op] [b] pos) (tA D (.cmp o ea eb)) := by
  have hm : behindInMarks op b = false := by cases b <;> first | rfl | (simp [isSetE] at hs)
  refine PE.of (pe_cmpR (snd_cop ok ho) ha hb hm) fun σ H Q ⟨n, g, e, te, h, ts, S, w⟩ => ?_
  simp only [evA] at w
  refine two_parts S w fun ra rb e2 h2 g2 H2 x y S2 f1 f2 w2 => ?_
  cases q1 : rd ra e2 h2 with
  | none => rw [q1] at w2; exact w2.elim
  | some px =>
    cases q2 : rd rb e2 h2 with
    | none => rw [q1, q2] at w2; exact w2.elim
    | some py =>
      rw [q1, q2] at w2
      simp only at w2
      cases q3 : opCmp o px py with
      | none => rw [q3] at w2; exact w2.elim
      | some z =>
        rw [q3] at w2
        exact ⟨g2, px, py, z, S2.rd f1 q1, S2.rd f2 q2, q3, Wp.made w2 S2 (mk_same (.bl z))⟩
theorem PE.or {e : Expr} {t1 t2 : TE} (h1 : PE X e t1) (h2 : PE X e t2) : PE X e (fun σ H Q => t1 σ H Q ∨ t2 σ H Q) :=
  ⟨fun pins s σ H Q I h => h.elim (h1.run pins s σ H Q I) (h2.run pins s σ H Q I)⟩
theorem keyOf_kV {g : Gh} {H : Hp} {p : PV} {w : V} {k : Int ⊕ Str} (b : Bd D.T g H p w) (h : keyOf p = some k) : w = kV k := by
  cases p <;> simp only [keyOf] at h <;> first | (cases h; done) | skip
  · cases b.int; cases h; rfl
  · cases b.str; cases h; rfl
theorem valP_tr {g : Gh} {H : Hp} : ∀ {ks : List Key} {xs : List PV} {vs : List V} {k : Key} {z : PV}, TrL D.T g H xs vs → valP ks xs k = some z → ∃ w, valV (ks.zip vs) k = some w ∧ Tr D.T g H z w
  | [], _, _, _, _, _, h => by simp [valP] at h
  | _ :: _, _, _, _, _, .nil, h => by simp [valP] at h
  | a :: ks, _, _, k, z, .cons (v := w) (vs := vs) t r, h => by
    unfold valP at h
    rw [List.zip_cons_cons] at h
    by_cases e : a = k
    · subst e
      rw [List.find?_cons_of_pos (by simp)] at h
      cases h
      exact ⟨w, by simp [valV], t⟩
    · rw [List.find?_cons_of_neg (by simpa using e)] at h
      obtain ⟨w', e1, e2⟩ := valP_tr r (by unfold valP; exact h)
      exact ⟨w', by unfold valV at e1 ⊢; rw [List.zip_cons_cons, List.find?_cons_of_neg (by simpa using e)]; exact e1, e2⟩
theorem snd_idxE (ok : XOk D.T N sc k X) {a b : Expr} {pos : Pos} {ea eb : Ex} (hs : isSliceE b = false) (ha : PE X a (tA D ea)) (hb : PE X b (tA D eb)) : PE X (.Subscript a b pos) (tA D (.idx ea eb)) := by
  have hp : PlainIx b := fun o i => by cases b <;> first | rfl | (simp [isSliceE] at hs)
  have hns : NoSl b := fun o i => by cases b <;> first | rfl | (simp [isSliceE] at hs)
  have hu : X.A.units + 1 < cLine := by have := Room.u64 ok.hr; omega
  refine PE.of (PE.or (pe_ix (snd_idx ok) ha hb hp) (pe_dget hu ha hb hns)) fun σ H Q ⟨n, g, e, te, h, ts, S, w⟩ => ?_
  simp only [evA] at w
  by_cases hd : ∃ ra e1 h1 rb e2 h2 px, evA D.C ea e h = .ok ra e1 h1 ∧ evA D.C eb e1 h1 = .ok rb e2 h2 ∧ rd ra e2 h2 = some px ∧ isDic px = true
  · obtain ⟨ra, e1, h1, rb, e2, h2, px, q1, q2, q3, q4⟩ := hd
    refine .inr ?_
    rw [q1] at w
    simp only [Out.bind] at w
    refine ⟨n, g, e, te, h, ts, S, Wp.ok' q1 fun g1 H1 x E1 S1 r1 => ?_⟩
    obtain ⟨g1', E1', S1', f1⟩ := S1.keep r1
    refine ⟨n, g1', e1, te, h1, ts, S1', Wp.ok' q2 fun g2 H2 y E2 S2 r2 => ?_⟩
    obtain ⟨g2', E2', S2', f2⟩ := S2.keep r2
    rw [q2] at w
    simp only at w
    have bx := S2'.rd ((f1.ext E2).ext E2') q3
    cases px with
    | dic ks xs =>
      have t : Tr D.T g2' H2 (.dic ks xs) x := bx
      cases t with
      | dic hF hh hl r0 =>
        rename_i a0 vs
        rw [q3] at w
        cases q5 : rd rb e2 h2 with
        | none => rw [q5] at w; exact w.elim
        | some py =>
          rw [q5] at w
          simp only [opIdx] at w
          cases q6 : keyOf py with
          | none => rw [q6] at w; exact w.elim
          | some ky =>
            rw [q6] at w
            simp only [Option.bind_some] at w
            cases q7 : valP ks xs ky with
            | none => rw [q7] at w; exact w.elim
            | some z =>
              rw [q7] at w
              have ey := keyOf_kV (S2'.rd f2 q5) q6
              obtain ⟨v, e3, e4⟩ := valP_tr r0 q7
              refine ⟨_, v, rfl, .inl ⟨_, ky, .inl hh, ey, e3.symm⟩, ?_⟩
              exact Wp.made (w.mono (((E1.trans E1').trans E2).trans E2')) S2' (mk_same e4)
    | _ => cases q4
  · refine .inl ?_
    have w0 : Wp D n σ te ts (relA D n σ te ts) ((evA D.C ea e h).bind fun ra e1 h1 => (evA D.C eb e1 h1).bind fun rb e2 h2 => match rd ra e2 h2, rd rb e2 h2 with
      | some x, some y => if isDic x = true then .stuck else match opIdx x y with
        | some z => .ok (.v z false) e2 h2
        | none => .stuck
      | _, _ => .stuck) g H Q := by
      cases q1 : evA D.C ea e h with
      | stuck => rw [q1] at w; exact w
      | exc c fs e1 h1 => rw [q1] at w; exact w
      | ok ra e1 h1 =>
        rw [q1] at w
        simp only [Out.bind] at w ⊢
        cases q2 : evA D.C eb e1 h1 with
        | stuck => rw [q2] at w; exact w
        | exc c fs e1 h1 => rw [q2] at w; exact w
        | ok rb e2 h2 =>
          rw [q2] at w
          simp only at w ⊢
          cases q3 : rd ra e2 h2 with
          | none => rw [q3] at w; exact w
          | some px =>
            rw [q3] at w
            cases q5 : rd rb e2 h2 with
            | none => rw [q5] at w; exact w
            | some py =>
              rw [q5] at w
              simp only at w ⊢
              have : ¬ isDic px = true := fun x => hd ⟨ra, e1, h1, rb, e2, h2, px, q1, q2, q3, x⟩
              rw [if_neg this]
              exact w
    refine two_parts S w0 fun ra rb e2 h2 g2 H2 x y S2 f1 f2 w2 => ?_
    cases q1 : rd ra e2 h2 with
    | none => rw [q1] at w2; exact w2.elim
    | some px =>
      cases q2 : rd rb e2 h2 with
      | none => rw [q1, q2] at w2; exact w2.elim
      | some py =>
        rw [q1, q2] at w2
        simp only at w2
        split at w2
        · exact w2.elim
        · rename_i hdc
          cases q3 : opIdx px py with
          | none => rw [q3] at w2; exact w2.elim
          | some z =>
            rw [q3] at w2
            exact ⟨g2, px, py, z, by simpa using hdc, S2.rd f1 q1, S2.rd f2 q2, q3, fun v t => Wp.made w2 S2 (mk_same t)⟩
theorem snd_neg {a : Expr} {pos : Pos} {ea : Ex} (ha : PE X a (tA D ea)) : PE X (.UnaryOp .USub a pos) (tA D (.neg ea)) :=
  PE.of (pe_un un_neg ha) fun σ H Q ⟨n, g, e, te, h, ts, S, w⟩ => by
    simp only [evA] at w
    refine ⟨n, g, e, te, h, ts, S, Wp.bind w fun ra e1 h1 g1 H1 x _ E1 S1 r1 w1 => ?_⟩
    obtain ⟨g1', E1', S1', f1⟩ := S1.keep r1
    have w1' := w1.mono E1'
    cases q1 : rd ra e1 h1 with
    | none => rw [q1] at w1'; exact w1'.elim
    | some px =>
      rw [q1] at w1'
      cases px with
      | int i =>
        cases (S1'.rd f1 q1).int
        exact ⟨i, rfl, Wp.made w1' S1' (mk_same (.int _))⟩
      | _ => exact w1'.elim
/-- a truth -/
theorem tru_of (ok : XOk D.T N sc k X) {n : En} {σ : List (Option V)} {H : Hp} {g : Gh} {e te : Env} {h : Hs} {ts : List (Option V)} (S : SimT D.T n g e te h σ ts H) {r : Rs} {w : V} (f : RF D g H (σ ++ ts) r w) {c : Bool} (q : (rd r e h).bind truthy = some c) : TruV X.K w H c := by
  cases q1 : rd r e h with
  | none => rw [q1] at q; cases q
  | some p =>
    rw [q1] at q
    rw [ok.K]
    exact (S.rd f q1).tru q
theorem snd_not (ok : XOk D.T N sc k X) {a : Expr} {pos : Pos} {ea : Ex} (ha : PE X a (tA D ea)) : PE X (.UnaryOp .Not a pos) (tA D (.not ea)) :=
  PE.of (pe_notT ha) fun σ H Q ⟨n, g, e, te, h, ts, S, w⟩ => by
    simp only [evA] at w
    refine ⟨n, g, e, te, h, ts, S, Wp.bind w fun ra e1 h1 g1 H1 x _ E1 S1 r1 w1 => ?_⟩
    obtain ⟨g1', E1', S1', f1⟩ := S1.keep r1
    have w1' := w1.mono E1'
    cases q1 : (rd ra e1 h1).bind truthy with
    | none => rw [q1] at w1'; exact w1'.elim
    | some c =>
      rw [q1] at w1'
      exact ⟨c, tru_of ok S1' f1 q1, Wp.made w1' S1' (mk_same (.bl _))⟩
theorem snd_bools (ok : XOk D.T N sc k X) {op : BoolOp} {f : Expr → Ex} {pos : Pos} : ∀ {vs : List Expr}, (∀ a ∈ vs, PE X a (tA D (f a))) → PE X (.BoolOp op vs pos) (tA D (cBools op f vs))
  | [], _ => pe_stuck
  | [a], h => pe_one (h a List.mem_cons_self)
  | a :: b :: r, h => by
    have ha := h a List.mem_cons_self
    have hb := snd_bools ok (op := op) (f := f) (pos := pos) (vs := b :: r) fun z hz => h z (List.mem_cons_of_mem _ hz)
    cases op with
    | And =>
      refine PE.of (pe_andT ha hb) fun σ H Q ⟨n, g, e, te, h, ts, S, w⟩ => ?_
      simp only [cBools, evA] at w
      refine ⟨n, g, e, te, h, ts, S, Wp.bind w fun ra e1 h1 g1 H1 x _ E1 S1 r1 w1 => ?_⟩
      cases q1 : (rd ra e1 h1).bind truthy with
      | none => rw [q1] at w1; exact w1.elim
      | some c =>
        rw [q1] at w1
        obtain ⟨g1', E1', S1', f1⟩ := S1.keep r1
        have t1 := tru_of ok S1' f1 q1
        cases c with
        | true => exact ⟨true, t1, by rw [if_pos rfl]; exact ⟨n, g1, e1, te, h1, ts, S1, w1⟩⟩
        | false => exact ⟨false, t1, by rw [if_neg Bool.false_ne_true]; exact w1 g1 H1 x (Ext.refl _ _) S1 r1⟩
    | Or =>
      refine PE.of (pe_orT ha hb) fun σ H Q ⟨n, g, e, te, h, ts, S, w⟩ => ?_
      simp only [cBools, evA] at w
      refine ⟨n, g, e, te, h, ts, S, Wp.bind w fun ra e1 h1 g1 H1 x _ E1 S1 r1 w1 => ?_⟩
      cases q1 : (rd ra e1 h1).bind truthy with
      | none => rw [q1] at w1; exact w1.elim
      | some c =>
        rw [q1] at w1
        obtain ⟨g1', E1', S1', f1⟩ := S1.keep r1
        have t1 := tru_of ok S1' f1 q1
        cases c with
        | true => exact ⟨true, t1, by rw [if_pos rfl]; exact w1 g1 H1 x (Ext.refl _ _) S1 r1⟩
        | false => exact ⟨false, t1, by rw [if_neg Bool.false_ne_true]; exact ⟨n, g1, e1, te, h1, ts, S1, w1⟩⟩
theorem snd_ite {a b c : Expr} {pos : Pos} {ea eb ec : Ex} (hc : PT X c (tT D ec)) (ha : PE X a (tA D ea)) (hb : PE X b (tA D eb)) : PE X (.IfExp c a b pos) (tA D (.ite ec ea eb)) :=
  PE.of (pe_ifExp hc ha hb) fun σ H Q ⟨n, g, e, te, h, ts, S, w⟩ => by
    simp only [evA] at w
    refine ⟨n, g, e, te, h, ts, S, Wp.bind w fun c e1 h1 g1 H1 x _ E1 S1 r1 w1 => ?_⟩
    cases r1
    cases c with
    | true => rw [if_pos rfl] at w1 ⊢; exact ⟨n, g1, e1, te, h1, ts, S1, w1⟩
    | false => rw [if_neg Bool.false_ne_true] at w1 ⊢; exact ⟨n, g1, e1, te, h1, ts, S1, w1⟩
end
end PL

/-! Arguments, displays, calls, methods. -/
namespace PL
open PySem PySem.Spec PyProof.Rows L2

section
variable {D : Wd} {N : List Str} {sc : Scope} {asg : Str → Bool} {k : Nat} {X : Cx}

theorem snd_args {f : Expr → Ex} : ∀ {es : List Expr}, (es.all fun e => !isStarE e) = true → (∀ e ∈ es, PE X e (tA D (f e))) → PA X es (tL D (cList f es))
  | [], _, _ => PA.of pa_nil fun σ H Q ⟨n, g, e, te, h, ts, S, w⟩ => by
    simp only [cList, evL] at w
    exact w g H [] (Ext.refl _ _) S .nil
  | a :: es, hs, hf => by
    have h' : isStarE a = false ∧ (es.all fun e => !isStarE e) = true := by simpa using hs
    refine PA.of (pa_cons (hf a List.mem_cons_self) (snd_args h'.2 fun e he => hf e (List.mem_cons_of_mem _ he)) (starEach_cons h'.1)) fun σ H Q ⟨n, g, e, te, h, ts, S, w⟩ => ?_
    simp only [cList, evL] at w
    refine ⟨n, g, e, te, h, ts, S, Wp.bind w fun r e1 h1 g1 H1 x _ E1 S1 r1 w1 => ?_⟩
    cases q : esc r e1 with
    | none => rw [q] at w1; exact w1.elim
    | some z =>
      obtain ⟨p, fr, e2⟩ := z
      rw [q] at w1
      obtain ⟨g1', E1', S1', t1⟩ := S1.escF r1 q
      refine ⟨n, g1', e2, te, h1, ts, S1', Wp.bind (w1.mono E1') fun ps e3 h3 g3 H3 xs _ E3 S3 r3 w3 => ?_⟩
      exact w3 g3 H3 (x :: xs) (Ext.refl _ _) S3 (.cons (t1.ext E3) r3)
theorem snd_looks {f : Expr → Ex} : ∀ {es : List Expr}, (es.all fun e => !isStarE e) = true → (∀ e ∈ es, PE X e (tA D (f e))) → PA X es (tR D (cList f es))
  | [], _, _ => PA.of pa_nil fun σ H Q ⟨n, g, e, te, h, ts, S, w⟩ => by
    simp only [cList, evR] at w
    exact w g H [] (Ext.refl _ _) S .nil
  | a :: es, hs, hf => by
    have h' : isStarE a = false ∧ (es.all fun e => !isStarE e) = true := by simpa using hs
    refine PA.of (pa_cons (hf a List.mem_cons_self) (snd_looks h'.2 fun e he => hf e (List.mem_cons_of_mem _ he)) (starEach_cons h'.1)) fun σ H Q ⟨n, g, e, te, h, ts, S, w⟩ => ?_
    simp only [cList, evR] at w
    refine ⟨n, g, e, te, h, ts, S, Wp.bind w fun r e1 h1 g1 H1 x _ E1 S1 r1 w1 => ?_⟩
    obtain ⟨g1', E1', S1', f1⟩ := S1.keep r1
    refine ⟨n, g1', e1, te, h1, ts, S1', Wp.bind (w1.mono E1') fun ps e3 h3 g3 H3 xs _ E3 S3 r3 w3 => ?_⟩
    exact w3 g3 H3 (x :: xs) (Ext.refl _ _) S3 (.cons (f1.ext E3) r3)
/-- how many values come -/
theorem evL_len {C : Calls} {f : Expr → Ex} : ∀ {es : List Expr} {e : Env} {h : Hs} {ps : List PV} {e' : Env} {h' : Hs}, evL C (cList f es) e h = .ok ps e' h' → ps.length = es.length
  | [], e, h, ps, e', h', q => by simp only [cList, evL] at q; cases q; rfl
  | a :: es, e, h, ps, e', h', q => by
    simp only [cList, evL] at q
    cases q1 : evA C (f a) e h with
    | stuck => rw [q1] at q; cases q
    | exc c fs e1 h1 => rw [q1] at q; cases q
    | ok r e1 h1 =>
      rw [q1] at q
      simp only [Out.bind] at q
      cases q2 : esc r e1 with
      | none => rw [q2] at q; cases q
      | some z =>
        obtain ⟨p, fr, e2⟩ := z
        rw [q2] at q
        simp only at q
        cases q3 : evL C (cList f es) e2 h1 with
        | stuck => rw [q3] at q; cases q
        | exc c fs e1 h1 => rw [q3] at q; cases q
        | ok ps2 e3 h3 =>
          rw [q3] at q
          cases q
          simp [evL_len q3]
theorem small1000' {n : Nat} (h : n ≤ 1000) : n ≤ sizeLine := Nat.le_of_lt (small1000 h)
theorem snd_lstE {f : Expr → Ex} {es : List Expr} {pos : Pos} (hl : es.length ≤ 1000) (hs : (es.all fun e => !isStarE e) = true) (hf : ∀ e ∈ es, PE X e (tA D (f e))) : PE X (.List es pos) (tA D (.lst (cList f es))) :=
  PE.of (pe_lst (snd_args hs hf)) fun σ H Q ⟨n, g, e, te, h, ts, S, w⟩ => by
    simp only [evA] at w
    refine ⟨n, g, e, te, h, ts, S, Wp.bind w fun ps e1 h1 g1 H1 xs q E1 S1 r1 w1 => ?_⟩
    have hz : xs.length ≤ sizeLine := small1000' (by rw [← TrL.length r1, evL_len q]; exact hl)
    exact ⟨hz, fun p hp => Wp.made w1 S1 (mk_lst hp hz r1)⟩
theorem snd_tupE {f : Expr → Ex} {es : List Expr} {j : Nat} {pos : Pos} (hl : es.length ≤ 1000) (hs : (es.all fun e => !isStarE e) = true) (hf : ∀ e ∈ es, PE X e (tA D (f e))) : PE X (.Tuple es j pos) (tA D (.tup (cList f es))) :=
  PE.of (pe_tup (snd_args hs hf)) fun σ H Q ⟨n, g, e, te, h, ts, S, w⟩ => by
    simp only [evA] at w
    refine ⟨n, g, e, te, h, ts, S, Wp.bind w fun ps e1 h1 g1 H1 xs q E1 S1 r1 w1 => ?_⟩
    have hz : xs.length ≤ sizeLine := small1000' (by rw [← TrL.length r1, evL_len q]; exact hl)
    exact ⟨hz, fun p hp => Wp.made w1 S1 (mk_tup hp hz r1)⟩
theorem snd_dic0 {pos : Pos} : PE X (.Dict [] [] pos) (tA D .dic0) :=
  PE.of pe_dnewK fun σ H Q ⟨n, g, e, te, h, ts, S, w⟩ => by
    simp only [evA] at w
    exact fun p hp => Wp.made w S (.inr ⟨p, _, rfl, hp, rfl, .inr (.inr ⟨rfl, [], [], [], rfl, rfl, rfl, .nil⟩)⟩)
/-- an owned list becomes a cell -/
theorem Sim.toCell {T : Tx} {n : En} {g : Gh} {env : Env} {h : Hs} {σ : List (Option V)} {H : Hp} (S : Sim T n g env h σ H) {xs : List PV} {a : Addr} (o : Owned T n g H (.lst xs) a) (ap : Apart env σ a) :
    Ext g H ⟨g.F, g.ce ++ [a]⟩ H ∧ Sim T n ⟨g.F, g.ce ++ [a]⟩ env (h ++ [.lst xs]) σ H := by
  have E : Ext g H ⟨g.F, g.ce ++ [a]⟩ H := ⟨fun _ x => x, fun _ _ => rfl, [a], rfl⟩
  refine ⟨E, S.len, S.fin, S.F0, S.Fn, ?_, fun b x y => ?_, ?_, by simp [S.cl], fun i c b h1 h2 => ?_, fun b h1 h2 => ?_, fun i s hs => ?_, S.od⟩
  · obtain ⟨l, e1, e2⟩ := S.c0
    refine ⟨l ++ [a], by simp [e1], fun b hb => ?_⟩
    rcases List.mem_append.mp hb with hb | hb
    · exact e2 b hb
    · rw [List.mem_singleton.mp hb]; exact o.ne
  · rcases List.mem_append.mp x with x | x
    · exact S.cF b x y
    · rw [List.mem_singleton.mp x] at y; exact o.nF y
  · refine List.nodup_append.mpr ⟨S.cd, by simp, fun x hx y hy => ?_⟩
    rw [List.mem_singleton.mp hy]
    exact fun e => o.nc (e ▸ hx)
  · by_cases hi : i < h.length
    · rw [List.getElem?_append_left hi] at h1
      have hi' : i < g.ce.length := by rw [← S.cl]; exact hi
      have h2' : g.ce[i]? = some b := by
        have : (g.ce ++ [a])[i]? = some b := h2
        rw [List.getElem?_append_left hi'] at this; exact this
      have q := S.cv i c b h1 h2'
      cases c
      exact ListAt.ext E rfl q
    · have hl : i < (h ++ [Cell.lst xs]).length := (List.getElem?_eq_some_iff.mp h1).1
      have hi2 : i = h.length := by simp at hl; omega
      subst hi2
      rw [List.getElem?_append_right (Nat.le_refl _)] at h1
      simp at h1
      have h2' : (g.ce ++ [a])[h.length]? = some b := h2
      rw [S.cl, List.getElem?_append_right (Nat.le_refl _)] at h2'
      simp at h2'
      subst h1 h2'
      have q : ListAt T g H xs a := o.at_
      exact q.ext E rfl
  · exact S.fr b h1 fun x => h2 (List.mem_append_left _ x)
  · have q := S.sl i s hs
    cases s with
    | no => trivial
    | val p => obtain ⟨w, e1, e2⟩ := q; exact ⟨w, e1, e2.ext E⟩
    | own p =>
      obtain ⟨b, e1, e2⟩ := q
      refine ⟨b, e1, e2.nF, fun x => ?_, e2.ne, e2.at_.ext E rfl⟩
      rcases List.mem_append.mp x with x | x
      · exact e2.nc x
      · rw [List.mem_singleton.mp x] at e1; exact ap i p hs e1
theorem imp_cell {ex : Ex} {σ : L2.St} {H : Hp} {Q : VK} : tA D (.cell ex) σ H Q → tA D ex σ H Q := fun ⟨n, g, e, te, h, ts, S, w⟩ => by
    simp only [evA] at w
    refine ⟨n, g, e, te, h, ts, S, Wp.bind w fun r e1 h1 g1 H1 x _ E1 S1 r1 w1 => ?_⟩
    match r, r1, w1 with
    | .v (.lst xs) true, r1, w1 =>
      obtain ⟨a, rfl, o, ap⟩ := r1
      obtain ⟨E2, S2⟩ := S1.sim.toCell o ap
      refine w1 _ H1 (.ref a) E2 ⟨S1.l1, S1.l2, S2⟩ (Rv (.ref ?_))
      show (g1.ce ++ [a])[h1.length]? = some a
      rw [S1.sim.cl, List.getElem?_append_right (Nat.le_refl _)]
      simp
    | .v (.lst xs) false, _, w1 => exact w1.elim
    | .slot _, _, w1 => exact w1.elim
    | .v .non _, _, w1 => exact w1.elim
    | .v (.bl _) _, _, w1 => exact w1.elim
    | .v (.int _) _, _, w1 => exact w1.elim
    | .v (.str _) _, _, w1 => exact w1.elim
    | .v (.ty _) _, _, w1 => exact w1.elim
    | .v (.fn _) _, _, w1 => exact w1.elim
    | .v (.ref _) _, _, w1 => exact w1.elim
    | .v (.scr _) _, _, w1 => exact w1.elim
    | .v (.tup _) _, _, w1 => exact w1.elim
    | .v (.dic _ _) _, _, w1 => exact w1.elim
theorem snd_cell {e : Expr} {ex : Ex} (h : PE X e (tA D ex)) : PE X e (tA D (.cell ex)) := PE.of h fun _ _ _ q => imp_cell q
theorem imp_celIf {S : Sc} {cp : Pos} {ex : Ex} {σ : L2.St} {H : Hp} {Q : VK} (q : tA D (celIf S cp ex) σ H Q) : tA D ex σ H Q := by
  unfold celIf at q
  split at q
  · exact imp_cell q
  · exact q
theorem snd_celIf {S : Sc} {cp : Pos} {e : Expr} {ex : Ex} (h : PE X e (tA D ex)) : PE X e (tA D (celIf S cp ex)) := by
  unfold celIf
  split
  · exact snd_cell h
  · exact h

/-! a dict display of written integers, asked at once -/
theorem mergeK_nd : ∀ (l acc : List (Key × V)), ((acc ++ l).map (·.1)).Nodup → mergeK acc l = acc ++ l
  | [], acc, _ => by simp [mergeK]
  | (a, v) :: l, acc, h => by
    have h1 : (acc.any fun kv => decide (kv.1 = a)) = false := by
      rw [List.any_eq_false]
      intro x hx
      simp only [decide_eq_true_eq]
      intro e
      rw [List.map_append, List.nodup_append] at h
      exact h.2.2 x.1 (List.mem_map.mpr ⟨x, hx, rfl⟩) a (by simp) e
    have h2 : putK acc a v = acc ++ [(a, v)] := by unfold putK; rw [h1]; rfl
    show mergeK (putK acc a v) l = _
    rw [h2, mergeK_nd l (acc ++ [(a, v)]) (by simpa using h)]
    simp
def selK (kvs : List (Int × Int)) : List (Key × V) := kvs.map fun kv => (Sum.inl kv.1, V.int kv.2)
theorem selK_nd {kvs : List (Int × Int)} (h : (kvs.map (·.1)).Nodup) : ((selK kvs).map (·.1)).Nodup := by
  have : (selK kvs).map (·.1) = (kvs.map (·.1)).map (Sum.inl : Int → Key) := by
    unfold selK
    rw [List.map_map, List.map_map]; rfl
  rw [this]
  exact List.Pairwise.map _ (fun a b hab e => hab (Sum.inl.inj e)) h
theorem selK_val : ∀ (kvs : List (Int × Int)) (i : Int) (kv : Int × Int), kvs.find? (fun kv => decide (kv.1 = i)) = some kv → valV (selK kvs) (Sum.inl i : Key) = some (.int kv.2)
  | [], i, kv, h => by simp at h
  | a :: kvs, i, kv, h => by
    by_cases e : a.1 = i
    · subst e
      simp at h
      subst h
      simp [selK, valV]
    · rw [List.find?_cons_of_neg (by simpa using e)] at h
      have := selK_val kvs i kv h
      unfold valV selK at this ⊢
      rw [List.map_cons, List.find?_cons_of_neg (by simpa using e)]
      exact this
theorem selOf_pps : ∀ {ks : List (Option Expr)} {vs : List Expr} {kvs : List (Int × Int)} {pos : Pos}, selOf ks vs = some kvs →
    PPs X pos ks vs (kvs.map fun kv => (tC (.int kv.1), tC (.int kv.2))) ∧ (ks.all fun x => x.isSome) = true ∧ ks.length = vs.length ∧ ks.length = kvs.length
  | [], [], _, pos, h => by simp [selOf] at h; subst h; exact ⟨pps_nil, rfl, rfl, rfl⟩
  | [], _ :: _, _, _, h => by simp [selOf] at h
  | none :: _, [], _, _, h => by simp [selOf] at h
  | none :: _, _ :: _, _, _, h => by simp [selOf] at h
  | some e :: ks, vs, kvs, pos, h => by
    unfold selOf at h
    split at h
    · rename_i hq; cases hq
    · rename_i k j p ks' v j2 p2 vs' e1
      rename_i heq
      cases h2 : selOf ks' vs' with
      | none => rw [h2] at h; cases h
      | some kvs' =>
        rw [h2] at h
        cases h
        simp only [List.cons.injEq, Option.some.injEq] at e1
        obtain ⟨rfl, rfl⟩ := e1
        obtain ⟨a, b, c, d⟩ := selOf_pps (pos := pos) h2
        exact ⟨pps_cons pe_int pe_int a, by simpa using b, by simp [c], by simp [d]⟩
    · cases h
theorem tPairs_c : ∀ (kvs : List (Int × Int)) (σ : L2.St) (H : Hp) (Q : List (V × V) → Hp → Prop), Q (kvs.map fun kv => (.int kv.1, .int kv.2)) H → tPairs (kvs.map fun kv => (tC (.int kv.1), tC (.int kv.2))) σ H Q
  | [], _, _, _, q => q
  | kv :: kvs, σ, H, Q, q => by
    show tPairs (kvs.map fun kv => (tC (.int kv.1), tC (.int kv.2))) σ H fun ps H3 => Q ((.int kv.1, .int kv.2) :: ps) H3
    exact tPairs_c kvs σ H _ q
theorem snd_sel (ok : XOk D.T N sc k X) {ks : List (Option Expr)} {vs : List Expr} {kvs : List (Int × Int)} {b : Expr} {p pos : Pos} {eb : Ex} (hf : selFits ks vs = some kvs) (hs : isSliceE b = false) (hb : PE X b (tA D eb)) : PE X (.Subscript (.Dict ks vs p) b pos) (tA D (.sel kvs eb)) := by
  unfold selFits at hf
  split at hf
  · rename_i kvs' h1
    split at hf
    · rename_i hc
      cases hf
      obtain ⟨h15, h0, hnd⟩ := hc
      obtain ⟨pp, hall, hl, hl2⟩ := selOf_pps (X := X) (pos := p) h1
      have hns : NoSl b := fun o i => by cases b <;> first | rfl | (simp [isSliceE] at hs)
      have hu : X.A.units + 1 < cLine := by have := Room.u64 ok.hr; omega
      refine PE.of (pe_dget hu (pe_disp pp hall hl (by intro e; rw [e] at hl2; simp at hl2; omega) (by omega)) hb hns) fun σ H Q ⟨n, g, e, te, h, ts, S, w⟩ => ?_
      simp only [evA] at w
      intro a ha
      refine tPairs_c _ _ _ _ ⟨upd_same, selK kvs, ?_, by simpa [selK] using h15, ?_⟩
      · unfold selK; rw [List.map_map]; rfl
      · have em : mergeK [] (selK kvs) = selK kvs := by
          rw [mergeK_nd _ _ (by simpa using selK_nd hnd)]; rfl
        have eu : upd (upd H a (.dK [])) a (.dK (mergeK [] (selK kvs))) = upd H a (.dK (selK kvs)) := by
          rw [em]; funext x; unfold upd; split <;> rfl
        rw [eu]
        obtain ⟨E1, S1⟩ := S.sim.lay (.dK (selK kvs)) ha
        refine ⟨n, gF g (· = a), e, te, h, ts, ⟨S.l1, S.l2, S1⟩, Wp.bind (w.mono E1) fun ra e1 h1 g1 H1 x _ E2 S2 r2 w2 => ?_⟩
        obtain ⟨g1', E1', S1', f1⟩ := S2.keep r2
        have w2' := w2.mono E1'
        have hH : H1 a = some (.dK (selK kvs)) := by
          rw [E2.H a (.inr rfl), upd_same]
        cases q1 : rd ra e1 h1 with
        | none => rw [q1] at w2'; exact w2'.elim
        | some px =>
          rw [q1] at w2'
          cases px with
          | int i =>
            cases (S1'.rd f1 q1).int
            simp only at w2'
            cases q2 : kvs.find? (fun kv => decide (kv.1 = i)) with
            | none => rw [q2] at w2'; exact w2'.elim
            | some kv =>
              rw [q2] at w2'
              exact ⟨a, .int kv.2, rfl, .inl ⟨selK kvs, .inl i, .inl hH, rfl, (selK_val kvs i kv q2).symm⟩, Wp.made w2' S1' (mk_same (.int _))⟩
          | _ => exact w2'.elim
    · cases hf
  · cases hf

/-! slices, chains -/
theorem snd_optN : PO X none (tO D .nil) := PO.of po_none fun σ H Q ⟨n, g, e, te, h, ts, S, w⟩ => by
  simp only [evO] at w
  exact w g H none (Ext.refl _ _) S rfl
/-- evO's and evT's own forms -/
def plainX : Ex → Bool
  | .nil => false
  | .not _ => false
  | .and _ _ => false
  | .or _ _ => false
  | .ite _ _ _ => false
  | _ => true
theorem evO_plain {C : Calls} {ex : Ex} (h : ex ≠ .nil) (e : Env) (hh : Hs) : evO C ex e hh = (evA C ex e hh).bind fun ra e1 h1 => match rd ra e1 h1 with
      | some (.int i) => .ok (some i) e1 h1
      | _ => .stuck := by
  cases ex <;> first | (exact absurd rfl h) | (simp only [evO]; done) | (unfold evO; rfl)
theorem evT_plain {C : Calls} {ex : Ex} (h : plainX ex = true) (e : Env) (hh : Hs) : evT C ex e hh = (evA C ex e hh).bind fun ra e1 h1 => lift ((rd ra e1 h1).bind truthy) e1 h1 := by
  cases ex <;> first | (cases h; done) | (simp only [evT]; done) | (unfold evT; rfl)
theorem snd_optS {a : Expr} {ex : Ex} (hn : ex ≠ .nil) (ha : PE X a (tA D ex)) : PO X (some a) (tO D ex) := PO.of (po_some ha) fun σ H Q ⟨n, g, e, te, h, ts, S, w⟩ => by
  simp only [evO_plain hn] at w
  refine ⟨n, g, e, te, h, ts, S, Wp.bind w fun ra e1 h1 g1 H1 x _ E1 S1 r1 w1 => ?_⟩
  obtain ⟨g1', E1', S1', f1⟩ := S1.keep r1
  have w1' := w1.mono E1'
  cases q1 : rd ra e1 h1 with
  | none => rw [q1] at w1'; exact w1'.elim
  | some px =>
    rw [q1] at w1'
    cases px with
    | int i =>
      cases (S1'.rd f1 q1).int
      exact ⟨i, rfl, w1' g1' H1 (some i) (Ext.refl _ _) S1' rfl⟩
    | _ => exact w1'.elim
theorem snd_sliE (ok : XOk D.T N sc k X) {a : Expr} {lo hi : Option Expr} {p2 pos : Pos} {ea el eh : Ex} (ha : PE X a (tA D ea)) (hl : PO X lo (tO D el)) (hh : PO X hi (tO D eh)) : PE X (.Subscript a (.Slice lo hi none p2) pos) (tA D (.sli ea el eh)) :=
  PE.of (pe_slice (snd_sli ok) ha hl hh) fun σ H Q ⟨n, g, e, te, h, ts, S, w⟩ => by
    simp only [evA] at w
    refine ⟨n, g, e, te, h, ts, S, Wp.bind w fun ra e1 h1 g1 H1 x _ E1 S1 r1 w1 => ?_⟩
    obtain ⟨g1', E1', S1', f1⟩ := S1.keep r1
    refine ⟨n, g1', e1, te, h1, ts, S1', Wp.bind (w1.mono E1') fun l e2 h2 g2 H2 l' _ E2 S2 r2 w2 => ?_⟩
    cases r2
    refine ⟨n, g2, e2, te, h2, ts, S2, Wp.bind w2 fun u e3 h3 g3 H3 u' _ E3 S3 r3 w3 => ?_⟩
    cases r3
    cases q1 : rd ra e3 h3 with
    | none => rw [q1] at w3; exact w3.elim
    | some px =>
      rw [q1] at w3
      simp only at w3
      cases q3 : opSli px l u with
      | none => rw [q3] at w3; exact w3.elim
      | some z =>
        rw [q3] at w3
        exact ⟨g3, px, z.1, z.2, S3.rd ((f1.ext E2).ext E3) q1, q3, fun v H' m => Wp.made w3 S3 m⟩
theorem snd_chain (ok : XOk D.T N sc k X) {a b c : Expr} {op op' : CmpOp} {o o' : Cop} {pos : Pos} {ea eb ec : Ex} (ho : cCop op = some o) (ho' : cCop op' = some o') (hs : isSetE b = false) (hs' : isSetE c = false)
    (ha : PE X a (tA D ea)) (hb : PE X b (tA D eb)) (hc : PE X c (tA D ec)) : PE X (.Compare a [op, op'] [b, c] pos) (tA D (.chain o o' ea eb ec)) := by
  have hm : lastMarks [op, op'] [b, c] = false := by
    show lastMarks [op'] [c] = false
    show behindInMarks op' c = false
    cases c <;> first | rfl | (simp [isSetE] at hs')
  refine PE.of (pe_chain (snd_cop ok ho) (snd_cop ok ho') ha hb hc hm) fun σ H Q ⟨n, g, e, te, h, ts, S, w⟩ => ?_
  simp only [evA] at w
  refine two_parts S w fun ra rb e2 h2 g2 H2 x y S2 f1 f2 w2 => ?_
  cases q1 : rd ra e2 h2 with
  | none => rw [q1] at w2; exact w2.elim
  | some px =>
    cases q2 : rd rb e2 h2 with
    | none => rw [q1, q2] at w2; exact w2.elim
    | some py =>
      rw [q1, q2] at w2
      simp only at w2
      cases q3 : opCmp o px py with
      | none => rw [q3] at w2; exact w2.elim
      | some z =>
        rw [q3] at w2
        refine ⟨g2, px, py, z, S2.rd f1 q1, S2.rd f2 q2, q3, z, rfl, ?_⟩
        cases z with
        | false => rw [if_neg Bool.false_ne_true]; exact Wp.made w2 S2 (mk_same (.bl false))
        | true =>
          rw [if_pos rfl]
          refine ⟨n, g2, e2, te, h2, ts, S2, Wp.bind w2 fun rc e3 h3 g3 H3 v _ E3 S3 r3 w3 => ?_⟩
          obtain ⟨g3', E3', S3', f3⟩ := S3.keep r3
          have w3' := w3.mono E3'
          cases q4 : rd rb e3 h3 with
          | none => rw [q4] at w3'; exact w3'.elim
          | some py' =>
            cases q5 : rd rc e3 h3 with
            | none => rw [q4, q5] at w3'; exact w3'.elim
            | some pz =>
              rw [q4, q5] at w3'
              simp only at w3'
              cases q6 : opCmp o' py' pz with
              | none => rw [q6] at w3'; exact w3'.elim
              | some z' =>
                rw [q6] at w3'
                exact ⟨g3', py', pz, z', S3'.rd ((f2.ext E3).ext E3') q4, S3'.rd f3 q5, q6, Wp.made w3' S3' (mk_same (.bl z'))⟩

/-! built-ins -/
theorem looks_bd {n : En} {σ : List (Option V)} {H : Hp} {g : Gh} {e te : Env} {h : Hs} {ts : List (Option V)} (S : SimT D.T n g e te h σ ts H) : ∀ {rs : List Rs} {ws : List V} {xs : List PV}, Paired (RF D g H (σ ++ ts)) rs ws → rs.mapM (fun r => rd r e h) = some xs → BdL D.T g H xs ws
  | _, _, xs, .nil, q => by simp at q; subst q; exact .nil
  | r :: rs, w :: ws, xs, .cons f t, q => by
    rw [List.mapM_cons] at q
    cases q1 : rd r e h with
    | none => rw [q1] at q; cases q
    | some p =>
      rw [q1] at q
      cases q2 : rs.mapM (fun r => rd r e h) with
      | none => rw [q2] at q; cases q
      | some ps =>
        rw [q2] at q
        cases q
        exact .cons (S.rd f q1) (looks_bd S t q2)
theorem snd_bcall (ok : XOk D.T N sc k X) {f : Expr → Ex} {x : Str} {es : List Expr} {p pos : Pos} {b : Bn} {lo hi : Nat} (hb : bnOf x = some (b, lo, hi)) (hl : lo ≤ es.length) (hk : okName x = true) (hg : Gl X x) (hm : X.mg x = none)
    (hs : (es.all fun e => !isStarE e) = true) (hf : ∀ e ∈ es, PE X e (tA D (f e))) : PE X (.Call (.Name x p) es [] pos) (tA D (.bcall b (cList f es))) := by
  obtain ⟨hv, h1⟩ := bn_boot hb
  obtain ⟨k1, k2, k3⟩ := okName_ne hk
  cases es with
  | nil => simp at hl; omega
  | cons a es =>
    have hs' : isStarE a = false ∧ (es.all fun e => !isStarE e) = true := by simpa using hs
    have key : ∀ σ H Q, tA D (.bcall b (cList f (a :: es))) σ H Q → tCB (rCB D.T b) (tR D (cList f (a :: es))) σ H Q := fun σ H Q ⟨n, g, e, te, h, ts, S, w⟩ => by
      simp only [evA] at w
      refine ⟨n, g, e, te, h, ts, S, Wp.bind w fun rs e1 h1 g1 H1 ws _ E1 S1 r1 w1 => ?_⟩
      cases q : rs.mapM (fun r => rd r e1 h1) with
      | none => rw [q] at w1; exact w1.elim
      | some xs =>
        rw [q] at w1
        simp only at w1
        cases q3 : opB b xs with
        | none => rw [q3] at w1; exact w1.elim
        | some z =>
          rw [q3] at w1
          exact ⟨g1, xs, z.1, z.2, looks_bd S1 r1 q, q3, fun v H' m => Wp.made w1 S1 m⟩
    have hpa := snd_looks (X := X) (D := D) (f := f) hs hf
    have hc := snd_bn ok b
    cases b <;> first
      | exact PE.of (pe_callB hc hg hm hv hpa k3 k1 (starEach_cons hs'.1) (starEach_plain hs'.2)) key
      | exact PE.of (pe_callTy hc hg hm hv hpa k3 k1 (starEach_cons hs'.1) (starEach_plain hs'.2)) key
/-! isinstance -/
theorem isi_core (ok : XOk D.T N sc k X) {n : En} {σ : List (Option V)} {H : Hp} {g : Gh} {e te : Env} {h : Hs} {ts : List (Option V)} (S : SimT D.T n g e te h σ ts H) {r : Rs} {w : V} (f : RF D g H (σ ++ ts) r w) {nm : String} (q : (rd r e h).bind typeName = some nm) : TyX X.K H w (.type nm) ∧ valTy nm = true := by
  cases q1 : rd r e h with
  | none => rw [q1] at q; cases q
  | some p =>
    rw [q1] at q
    rw [ok.K]
    exact ⟨(S.rd f q1).ty q, typeName_val q⟩
theorem ty_boot {S : Sc} {x : Str} {nm : String} (h : tyName S x = some nm) : okName x = true ∧ glB S.sc x = true ∧ x ∈ S.free ∧ bootBuiltins x = some (.type nm) ∧ plainTy nm = true := by
  unfold tyName at h
  split at h
  · rename_i hc
    simp only [Bool.and_eq_true, List.contains_iff_mem] at hc
    refine ⟨hc.1.1, hc.1.2, hc.2, ?_⟩
    split at h; · rename_i e; cases h; subst e; exact ⟨by decide +kernel, by decide⟩
    split at h; · rename_i e; cases h; subst e; exact ⟨by decide +kernel, by decide⟩
    split at h; · rename_i e; cases h; subst e; exact ⟨by decide +kernel, by decide⟩
    split at h; · rename_i e; cases h; subst e; exact ⟨by decide +kernel, by decide⟩
    split at h; · rename_i e; cases h; subst e; exact ⟨by decide +kernel, by decide⟩
    split at h; · rename_i e; cases h; subst e; exact ⟨by decide +kernel, by decide⟩
    cases h
  · cases h
theorem snd_tyName (ok : XOk D.T N sc k X) {S : Sc} (so : ScOk D S) (hs : S.sc = sc) {x : Str} {nm : String} {p : Pos} (h : tyName S x = some nm) : PE X (.Name x p) (tC (.ty nm)) := by
  obtain ⟨h1, h2, h3, h4, _⟩ := ty_boot h
  obtain ⟨k1, k2, k3⟩ := okName_ne h1
  exact pe_bltn (glB_gl ok (by rw [← hs]; exact h2)) (by rw [ok.mg]; exact so.free x h3) h4 rfl k3 k1
theorem snd_isi1 (ok : XOk D.T N sc k X) {S : Sc} (so : ScOk D S) (hs : S.sc = sc) {a : Expr} {x : Str} {nm : String} {p p' pos : Pos} {ea : Ex} (h : tyName S x = some nm) (hst : isStarE a = false) (hg : Gl X "isinstance") (hm : X.mg "isinstance" = none) (ha : PE X a (tA D ea)) :
    PE X (.Call (.Name "isinstance" p) [a, .Name x p'] [] pos) (tA D (.isi ea [nm])) := by
  obtain ⟨h1, h2, h3, h4, h5⟩ := ty_boot h
  refine PE.of (pe_callB call_isi hg hm (by decide +kernel) (pa_cons ha (pa_cons (snd_tyName ok so hs h) pa_nil) (starEach_cons hst)) (by decide) (by decide) (starEach_cons hst) rfl) fun σ H Q ⟨n, g, e, te, h, ts, S, w⟩ => ?_
  simp only [evA] at w
  refine ⟨n, g, e, te, h, ts, S, Wp.bind w fun ra e1 h1 g1 H1 v _ E1 S1 r1 w1 => ?_⟩
  obtain ⟨g1', E1', S1', f1⟩ := S1.keep r1
  have w1' := w1.mono E1'
  cases q : (rd ra e1 h1).bind typeName with
  | none => rw [q] at w1'; exact w1'.elim
  | some nn =>
    rw [q] at w1'
    obtain ⟨t1, t2⟩ := isi_core ok S1' f1 q
    refine ⟨v, .ty nm, _, _, isAny nn [nm], rfl, .ty nm, t1, ?_, Wp.made w1' S1' (mk_same (.bl _))⟩
    rw [kit_one t2 h5]
    simp [isAny]
theorem tyNames_pa (ok : XOk D.T N sc k X) {S : Sc} (so : ScOk D S) (hs : S.sc = sc) : ∀ {ys : List Expr} {ns : List String}, tyNames S ys = some ns → ∃ t, PA X ys t ∧ (∀ σ H Q, Q (ns.map V.ty) H → t σ H Q) ∧ (ns.all plainTy) = true
  | [], ns, h => by
    simp [tyNames] at h; subst h
    exact ⟨_, pa_nil, fun _ _ _ q => q, rfl⟩
  | y :: ys, ns, h => by
    cases y with
    | Name x p =>
      simp only [tyNames] at h
      cases q1 : tyName S x with
      | none => rw [q1] at h; cases h
      | some nm =>
        cases q2 : tyNames S ys with
        | none => rw [q1, q2] at h; cases h
        | some ns' =>
          rw [q1, q2] at h
          cases h
          obtain ⟨t, h1, h2, h3⟩ := tyNames_pa ok so hs q2
          exact ⟨_, pa_cons (snd_tyName ok so hs q1) h1, fun σ H Q q => h2 σ H _ q, by simp [(ty_boot q1).2.2.2.2]; simpa using h3⟩
    | _ => simp [tyNames] at h
theorem paired_ty : ∀ ns : List String, Paired ClsV (ns.map V.ty) (ns.map Value.type)
  | [] => .nil
  | n :: ns => .cons (.ty n) (paired_ty ns)
theorem tyNames_len {S : Sc} : ∀ {ys : List Expr} {ns : List String}, tyNames S ys = some ns → ns.length = ys.length
  | [], ns, h => by simp [tyNames] at h; subst h; rfl
  | y :: ys, ns, h => by
    cases y with
    | Name x p =>
      simp only [tyNames] at h
      cases q1 : tyName S x with
      | none => rw [q1] at h; cases h
      | some nm =>
        cases q2 : tyNames S ys with
        | none => rw [q1, q2] at h; cases h
        | some ns' => rw [q1, q2] at h; cases h; simp [tyNames_len q2]
    | _ => simp [tyNames] at h
theorem snd_isiT (ok : XOk D.T N sc k X) {S : Sc} (so : ScOk D S) (hs : S.sc = sc) {a : Expr} {ys : List Expr} {ns : List String} {j : Nat} {p p' pos : Pos} {ea : Ex} (h : tyNames S ys = some ns) (hl : ys.length ≤ 1000) (hst : isStarE a = false) (hg : Gl X "isinstance") (hm : X.mg "isinstance" = none) (ha : PE X a (tA D ea)) :
    PE X (.Call (.Name "isinstance" p) [a, .Tuple ys j p'] [] pos) (tA D (.isi ea ns)) := by
  obtain ⟨t, h1, h2, h3⟩ := tyNames_pa ok so hs h
  refine PE.of (pe_callB call_isiT hg hm (by decide +kernel) (pa_cons ha (pa_cons (pe_tup h1) pa_nil) (starEach_cons hst)) (by decide) (by decide) (starEach_cons hst) rfl) fun σ H Q ⟨n, g, e, te, hh, ts, S', w⟩ => ?_
  simp only [evA] at w
  refine ⟨n, g, e, te, hh, ts, S', Wp.bind w fun ra e1 h1 g1 H1 v _ E1 S1 r1 w1 => ?_⟩
  obtain ⟨g1', E1', S1', f1⟩ := S1.keep r1
  have w1' := w1.mono E1'
  cases q : (rd ra e1 h1).bind typeName with
  | none => rw [q] at w1'; exact w1'.elim
  | some nn =>
    rw [q] at w1'
    refine h2 σ H1 _ ⟨by rw [List.length_map, tyNames_len h]; exact small1000' hl, fun pt hpt => ?_⟩
    obtain ⟨E2, S2⟩ := S1'.sim.lay0 (a := pt) (.tup (ns.map V.ty)) hpt
    have S2' : SimT D.T n _ e1 te h1 σ ts _ := ⟨S1'.l1, S1'.l2, S2⟩
    obtain ⟨t1, t2⟩ := isi_core ok S2' (f1.ext E2) q
    exact ⟨v, pt, _, _, _, isAny nn ns, rfl, upd_same, paired_ty ns, t1, kit_any t2 h3, Wp.made (w1'.mono E2) S2' (mk_same (.bl _))⟩
end
end PL

/-! Calls of defs; methods that write; what is walked. -/
namespace PL
open PySem PySem.Spec PyProof.Rows L2

/-! ### writing -/
section
variable {T : Tx} {n : En} {g : Gh} {env : Env} {h : Hs} {σ : List (Option V)} {H : Hp}
theorem Sim.writeOwn (S : Sim T n g env h σ H) {i : Nat} {xs ys : List PV} {a : Addr} {vs : List V} (hi : env[i]? = some (.own (.lst xs))) (hσ : σ[i]? = some (some (.ref a))) (hl : vs.length ≤ sizeLine) (r : TrL T g H ys vs) :
    Ext g H g (upd H a (.lst vs)) ∧ Sim T n g (env.set i (.own (.lst ys))) h σ (upd H a (.lst vs)) := by
  obtain ⟨a', e1, o⟩ := S.sl i _ hi
  rw [hσ] at e1
  cases e1
  have E : Ext g H g (upd H a (.lst vs)) := ⟨fun _ x => x, fun b hb => upd_ne fun z => o.nF (z ▸ hb), [], by simp⟩
  refine ⟨E, by simpa using S.len, fun b hb => ?_, S.F0, S.Fn, S.c0, S.cF, S.cd, S.cl, fun j c b h1 h2 => ?_, fun b h1 h2 => ?_, fun j s hs => ?_, fun j k p q w h1 h2 => ?_⟩
  · rw [E.H b hb]; exact S.fin b hb
  · have q := S.cv j c b h1 h2
    have hb : b ≠ a := fun z => o.nc (z ▸ List.mem_of_getElem? h2)
    cases c
    exact ListAt.ext E (upd_ne hb) q
  · rw [upd_ne (fun z : b = a => h1 (by rw [z]; exact o.ne))]; exact S.fr b h1 h2
  · rcases getElem?_set_or hs with ⟨rfl, rfl⟩ | ⟨hne, hs'⟩
    · exact ⟨a, hσ, o.nF, o.nc, o.ne, vs, upd_same, hl, r.ext E⟩
    · have q := S.sl j s hs'
      cases s with
      | no => trivial
      | val p => obtain ⟨w, e1, e2⟩ := q; exact ⟨w, e1, e2.ext E⟩
      | own p =>
        obtain ⟨b, e3, e2⟩ := q
        have hb : b ≠ a := fun z => hne (S.od j i _ _ _ hs' hi (z ▸ e3) hσ)
        exact ⟨b, e3, e2.nF, e2.nc, e2.ne, e2.at_.ext E (upd_ne hb)⟩
  · have back : ∀ (m : Nat) (p : PV), (env.set i (SV.own (.lst ys)))[m]? = some (SV.own p) → ∃ p', env[m]? = some (SV.own p') := fun m p hm => by
      rcases getElem?_set_or hm with ⟨rfl, _⟩ | ⟨_, hm'⟩
      · exact ⟨_, hi⟩
      · exact ⟨_, hm'⟩
    obtain ⟨p', h1'⟩ := back j p h1
    obtain ⟨q', h2'⟩ := back k q h2
    exact S.od j k p' q' w h1' h2'
theorem nodup_at {α : Type} {l : List α} {i j : Nat} {x : α} (hd : l.Nodup) (h1 : l[i]? = some x) (h2 : l[j]? = some x) : i = j := by
  obtain ⟨a1, b1⟩ := List.getElem?_eq_some_iff.mp h1
  obtain ⟨a2, b2⟩ := List.getElem?_eq_some_iff.mp h2
  have hp := List.pairwise_iff_getElem.mp hd
  rcases Nat.lt_trichotomy i j with c | c | c
  · exact absurd (b1.trans b2.symm) (hp i j a1 a2 c)
  · exact c
  · exact absurd (b2.trans b1.symm) (hp j i a2 a1 c)
theorem Sim.writeCell (S : Sim T n g env h σ H) {i : Nat} {ys : List PV} {a : Addr} {vs : List V} (hc : g.ce[i]? = some a) (hl : vs.length ≤ sizeLine) (r : TrL T g H ys vs) :
    Ext g H g (upd H a (.lst vs)) ∧ Sim T n g env (h.set i (.lst ys)) σ (upd H a (.lst vs)) := by
  have ha := List.mem_of_getElem? hc
  have E : Ext g H g (upd H a (.lst vs)) := ⟨fun _ x => x, fun b hb => upd_ne fun z => S.cF a ha (z ▸ hb), [], by simp⟩
  refine ⟨E, S.len, fun b hb => ?_, S.F0, S.Fn, S.c0, S.cF, S.cd, by simpa using S.cl, fun j c b h1 h2 => ?_, fun b h1 h2 => ?_, fun j s hs => ?_, S.od⟩
  · rw [E.H b hb]; exact S.fin b hb
  · rcases getElem?_set_or h1 with ⟨rfl, rfl⟩ | ⟨hne, h1'⟩
    · rw [hc] at h2
      cases h2
      exact ⟨vs, upd_same, hl, r.ext E⟩
    · have q := S.cv j c b h1' h2
      have hb : b ≠ a := fun z => hne (nodup_at S.cd (z ▸ h2) hc)
      cases c
      exact ListAt.ext E (upd_ne hb) q
  · rw [upd_ne (fun z : b = a => h2 (by rw [z]; exact ha))]; exact S.fr b h1 h2
  · have q := S.sl j s hs
    cases s with
    | no => trivial
    | val p => obtain ⟨w, e1, e2⟩ := q; exact ⟨w, e1, e2.ext E⟩
    | own p =>
      obtain ⟨b, e3, e2⟩ := q
      have hb : b ≠ a := fun z => e2.nc (z ▸ ha)
      exact ⟨b, e3, e2.nF, e2.nc, e2.ne, e2.at_.ext E (upd_ne hb)⟩
end
section
variable {D : Wd} {n : En} {σ : List (Option V)} {e te : Env} {h : Hs} {ts : List (Option V)} {g : Gh} {H : Hp}
/-- what may be written: where it stands, what writing does -/
theorem SimT.mut (S : SimT D.T n g e te h σ ts H) {r : Rs} {w : V} (f : RF D g H (σ ++ ts) r w) {xs : List PV} (hm : mut? r e h = some xs) :
    ∃ a ws, w = .ref a ∧ H a = some (.lst ws) ∧ ws.length ≤ sizeLine ∧ TrL D.T g H xs ws ∧ ∀ ys vs, vs.length ≤ sizeLine → TrL D.T g H ys vs →
      Ext g H g (upd H a (.lst vs)) ∧ SimT D.T n g (put r ys e h).1 te (put r ys e h).2 σ ts (upd H a (.lst vs)) := by
  have cell : ∀ {j : Nat} {p : PV}, p = .ref j → Tr D.T g H p w → (match h[j]? with | some (.lst xs) => some xs | none => none) = some xs →
      ∃ a ws, w = .ref a ∧ H a = some (.lst ws) ∧ ws.length ≤ sizeLine ∧ TrL D.T g H xs ws ∧ ∀ ys vs, vs.length ≤ sizeLine → TrL D.T g H ys vs →
        Ext g H g (upd H a (.lst vs)) ∧ SimT D.T n g e te (h.set j (.lst ys)) σ ts (upd H a (.lst vs)) := by
    intro j p hp t hc
    subst hp
    cases t with
    | ref hn =>
      rename_i a
      cases q : h[j]? with
      | none => rw [q] at hc; cases hc
      | some c =>
        cases c with
        | lst zs =>
          rw [q] at hc
          simp at hc
          subst hc
          obtain ⟨ws, e1, e2, e3⟩ := S.sim.cv j _ a q hn
          refine ⟨a, ws, rfl, e1, e2, e3, fun ys vs hl r => ?_⟩
          obtain ⟨E, S'⟩ := S.sim.writeCell hn hl r
          exact ⟨E, S.l1, S.l2, S'⟩
  cases r with
  | slot i =>
    simp only [mut?] at hm
    cases q : e[i]? with
    | none => rw [q] at hm; cases hm
    | some s =>
      rw [q] at hm
      have hi : i < e.length := (List.getElem?_eq_some_iff.mp q).1
      have hσ : (σ ++ ts)[i]? = some (some w) := f
      have q' : (e ++ te)[i]? = some s := by rw [List.getElem?_append_left hi]; exact q
      cases s with
      | no => cases hm
      | val p =>
        cases p with
        | ref j =>
          obtain ⟨w', e1, e2⟩ := S.sim.sl i _ q'
          rw [hσ] at e1
          cases e1
          obtain ⟨a, ws, h1, h2, h3, h4, h5⟩ := cell rfl e2 hm
          refine ⟨a, ws, h1, h2, h3, h4, fun ys vs hl r => ?_⟩
          have := h5 ys vs hl r
          simp only [put, q]
          exact this
        | _ => cases hm
      | own p =>
        cases p with
        | lst zs =>
          simp at hm
          subst hm
          obtain ⟨a, e1, o⟩ := S.sim.sl i _ q'
          rw [hσ] at e1
          cases e1
          obtain ⟨ws, h2, h3, h4⟩ := o.at_
          refine ⟨a, ws, rfl, h2, h3, h4, fun ys vs hl r => ?_⟩
          obtain ⟨E, S'⟩ := S.sim.writeOwn q' hσ hl r
          have e3 : (e ++ te).set i (.own (.lst ys)) = e.set i (.own (.lst ys)) ++ te := List.set_append_left _ _ hi
          rw [e3] at S'
          simp only [put, q]
          exact ⟨E, by simpa using S.l1, S.l2, S'⟩
        | _ => cases hm
  | v p fr =>
    cases p with
    | ref j =>
      obtain ⟨a, ws, h1, h2, h3, h4, h5⟩ := cell rfl f hm
      exact ⟨a, ws, h1, h2, h3, h4, fun ys vs hl r => h5 ys vs hl r⟩
    | _ => cases hm
end

/-! ### methods -/
def rM (T : Tx) (m : Mn) : V → List V → Hp → VK → Prop := fun x vs H Q => ∃ g xs ys as z a ws, x = .ref a ∧ H a = some (.lst ws) ∧ ws.length ≤ sizeLine ∧ TrL T g H xs ws ∧ TrL T g H as vs ∧ opM m xs as = some (z, ys) ∧
  ∀ ws', ws'.length ≤ sizeLine → TrL T g H ys ws' → ∀ w, Tr T g H z w → Q w (upd H a (.lst ws'))
section
variable {T : Tx} {X : Cx}
theorem seq_of {n : Nat} {i : Int} {j : Nat} (h : PL.ixN n i = some j) : seqIndex? i n = some j := (ixN_seq (n := n) (i := i) (j := j) h).1
theorem snd_append : MtR X "list.append" (rM T .append) := by
  intro pins s σ H x vs v us Q I rx r ⟨g, xs, ys, as, z, a, ws, ex, ha, hl, tx, ta, he, hq⟩
  subst ex
  match as, ta, he with
  | [p], .cons (v := w) t .nil, he =>
    simp only [opM] at he
    split at he
    · rename_i hlt
      cases he
      rw [line_eq, tx.length] at hlt
      exact mt_append pins s σ H _ _ v us Q I rx r ⟨a, ws, w, rfl, rfl, ha, hlt, hq _ (by simp; omega) (tx.append (.cons t .nil)) _ .non⟩
    · cases he
theorem snd_extend : MtR X "list.extend" (rM T .extend) := by
  intro pins s σ H x vs v us Q I rx r ⟨g, xs, ys, as, z, a, ws, ex, ha, hl, tx, ta, he, hq⟩
  subst ex
  match as, ta, he with
  | [.lst zs], .cons (v := w) t .nil, he =>
    cases t with
    | lst hF hb hlb tb =>
      rename_i b us'
      simp only [opM] at he
      split at he
      · rename_i hlt
        cases he
        rw [line_eq, tx.length, tb.length] at hlt
        exact mt_extend pins s σ H _ _ v us Q I rx r ⟨a, b, ws, us', rfl, rfl, ha, hb, hlt, hq _ (by rw [List.length_append]; exact hlt) (tx.append tb) _ .non⟩
      · cases he
theorem snd_pop : MtR X "list.pop" (rM T .pop) := by
  intro pins s σ H x vs v us Q I rx r ⟨g, xs, ys, as, z, a, ws, ex, ha, hl, tx, ta, he, hq⟩
  subst ex
  match as, ta, he with
  | [], .nil, he =>
    simp only [opM, Option.map_eq_some_iff] at he
    obtain ⟨y, h1, h2⟩ := he
    cases h2
    obtain ⟨w, h3, h4⟩ := tx.get h1
    rw [tx.length] at h3
    exact mt_pop pins s σ H _ _ v us Q I rx r ⟨a, ws, w, rfl, rfl, ha, h3, hq _ (by simp; omega) tx.dropLast _ h4⟩
theorem snd_popAt : MtR X "list.pop" (rM T .popAt) := by
  intro pins s σ H x vs v us Q I rx r ⟨g, xs, ys, as, z, a, ws, ex, ha, hl, tx, ta, he, hq⟩
  subst ex
  match as, ta, he with
  | [.int i], .cons (v := w) t .nil, he =>
    cases t
    simp only [opM] at he
    split at he
    · rename_i hb
      cases q : PL.ixN xs.length i with
      | none => rw [q] at he; cases he
      | some k =>
        rw [q] at he
        simp only [Option.bind, Option.map_eq_some_iff] at he
        obtain ⟨y, h1, h2⟩ := he
        cases h2
        obtain ⟨w, h3, h4⟩ := tx.get h1
        have hs := seq_of q
        rw [tx.length] at hs
        exact mt_popAt pins s σ H _ _ v us Q I rx r ⟨a, ws, i, k, w, rfl, rfl, ha, hb.1, hb.2, hs, h3, hq _ (Nat.le_trans (len_erase ws k) hl) (tx.eraseIdx k) _ h4⟩
    · cases he
end
section
variable {D : Wd} {N : List Str} {sc : Scope} {asg : Str → Bool} {k : Nat} {X : Cx}
theorem meth_key {m : Mn} {eo : Ex} {f : Expr → Ex} {es : List Expr} (ok : XOk D.T N sc k X) (σ : L2.St) (H : Hp) (Q : VK) (h : tA D (.meth m eo (cList f es)) σ H Q) : tBM X.K "list" (rM D.T m) (tA D eo) (tL D (cList f es)) σ H Q := by
  obtain ⟨n, g, e, te, h, ts, S, w⟩ := h
  simp only [evA] at w
  refine ⟨n, g, e, te, h, ts, S, Wp.bind w fun ro e1 h1 g1 H1 x _ E1 S1 r1 w1 => ?_⟩
  obtain ⟨g1', E1', S1', f1⟩ := S1.keep r1
  have w1' := w1.mono E1'
  cases q : mut? ro e1 h1 with
  | none => rw [q] at w1'; exact w1'.elim
  | some xs0 =>
    rw [q] at w1'
    obtain ⟨a, ws, rfl, ha, hl, tx, _⟩ := S1'.mut f1 q
    refine ⟨.inl ⟨rfl, ws, SqL.of ha⟩, ?_⟩
    refine ⟨n, g1', e1, te, h1, ts, S1', Wp.bind w1' fun as e2 h2 g2 H2 vs _ E2 S2 r2 w2 => ?_⟩
    cases q2 : mut? ro e2 h2 with
    | none => rw [q2] at w2; exact w2.elim
    | some xs =>
      rw [q2] at w2
      simp only at w2
      cases q3 : opM m xs as with
      | none => rw [q3] at w2; exact w2.elim
      | some z =>
        obtain ⟨z, ys⟩ := z
        rw [q3] at w2
        obtain ⟨a', ws', e', ha', hl', tx', hput⟩ := S2.mut (f1.ext E2) q2
        cases e'
        refine ⟨g2, xs, ys, as, z, a, ws', rfl, ha', hl', tx', r2, q3, fun ws2 hl2 t2 v tv => ?_⟩
        obtain ⟨E3, S3⟩ := hput ys ws2 hl2 t2
        exact Wp.made (w2.mono E3) S3 (mk_same (tv.ext E3))
theorem snd_meth (ok : XOk D.T N sc k X) {m : Mn} {nm : Str} {o : Expr} {es : List Expr} {apos pos : Pos} {eo : Ex} {f : Expr → Ex} (hm : mnOf nm es.length = some m) (hp : plainObj o = true) (hline : (apos.endLine == pos.line) = true) (h4 : es.length ≤ 4)
    (hs : (es.all fun e => !isStarE e) = true) (ho : PE X o (tA D eo)) (hf : ∀ e ∈ es, PE X e (tA D (f e))) : PE X (.Call (.Attribute o nm apos) es [] pos) (tA D (.meth m eo (cList f es))) := by
  have hbase : attributeBase o nm X.env (eval o X.env) = eval o X.env := by cases o <;> first | rfl | (simp [plainObj] at hp)
  have hfew : ∀ {e : Expr} {r : List Expr}, es = e :: r → ((backTo pos (starEach (e :: r) X.env)).all (fun x => !x.1) && (backToKw pos (keywordEach [] X.env)).all (fun x => x.1.isSome)
      && decide ((e :: r).length + ([] : List Keyword).length + (if ([] : List Keyword).isEmpty then 0 else 1) < 30)) = true := by
    intro e r he
    rw [← he]
    have h1 : (backTo pos (starEach es X.env)).all (fun x => !x.1) = true := by
      have := starEach_plain (env := X.env) (pos := pos) hs
      rw [List.any_eq_false] at this
      rw [List.all_eq_true]
      intro x hx
      simpa using this x hx
    rw [h1]
    simp [backToKw, keywordEach]
    omega
  have fin : ∀ {id : String}, (Slot "list" nm id) → typeOf (.builtin id) = pure (.type "method_descriptor") → MtR X id (rM D.T m) → PE X (.Call (.Attribute o nm apos) es [] pos) (tA D (.meth m eo (cList f es))) := by
    intro id sl ty mt
    cases es with
    | nil =>
      refine PE.of (pe_bm0 PySem.F.plainAttrs_list sl ty mt ho hbase hline) fun σ H Q h => ?_
      · obtain ⟨n, g, e, te, h, ts, S, w⟩ := meth_key ok σ H Q h
        refine ⟨n, g, e, te, h, ts, S, w.imp (fun _ _ _ _ _ q => q) fun x H1 ⟨t1, t2⟩ => ⟨t1, ?_⟩⟩
        obtain ⟨n, g, e, te, h, ts, S, w⟩ := t2
        simp only [cList, evL] at w
        exact w g H1 [] (Ext.refl _ _) S .nil
    | cons a r =>
      have hs' : isStarE a = false ∧ (r.all fun e => !isStarE e) = true := by simpa using hs
      exact PE.of (pe_bm PySem.F.plainAttrs_list sl ty mt ho (snd_args hs hf) hbase (hfew rfl) hline (starEach_cons hs'.1) (starEach_plain hs'.2)) (meth_key ok)
  unfold mnOf at hm
  split at hm
  · rename_i e
    simp only [Bool.and_eq_true, decide_eq_true_eq] at e
    obtain ⟨e, _⟩ := e
    cases hm; subst e
    exact fin PySem.F.slot_list_append PySem.F.type_list_append snd_append
  split at hm
  · rename_i e
    simp only [Bool.and_eq_true, decide_eq_true_eq] at e
    obtain ⟨e, _⟩ := e
    cases hm; subst e
    exact fin PySem.F.slot_list_extend PySem.F.type_list_extend snd_extend
  split at hm
  · rename_i e
    simp only [Bool.and_eq_true, decide_eq_true_eq] at e
    obtain ⟨e, _⟩ := e
    cases hm; subst e
    exact fin PySem.F.slot_list_pop PySem.F.type_list_pop snd_pop
  split at hm
  · rename_i e
    simp only [Bool.and_eq_true, decide_eq_true_eq] at e
    obtain ⟨e, _⟩ := e
    cases hm; subst e
    exact fin PySem.F.slot_list_pop PySem.F.type_list_pop snd_popAt
  · cases hm
theorem fndI_spec : ∀ {is : List Int} {i : Int} {j : Nat}, fndI is i = some j → is[j]? = some i ∧ ∀ m z, m < j → is[m]? = some z → z ≠ i
  | [], _, _, h => by simp [fndI] at h
  | a :: is, i, j, h => by
    unfold fndI at h
    by_cases e : a = i
    · rw [if_pos e] at h
      cases h
      exact ⟨by simp [e], fun m z hm _ => by omega⟩
    · rw [if_neg e, Option.map_eq_some_iff] at h
      obtain ⟨j', h1, rfl⟩ := h
      obtain ⟨a1, a2⟩ := fndI_spec h1
      refine ⟨by simpa using a1, fun m z hm hz => ?_⟩
      cases m with
      | zero => simp at hz; subst hz; exact e
      | succ m => exact a2 m z (by omega) (by simpa using hz)
theorem midx_key {eo : Ex} {f : Expr → Ex} {es : List Expr} (ok : XOk D.T N sc k X) (σ : L2.St) (H : Hp) (Q : VK) (h : tA D (.midx eo (cList f es)) σ H Q) : tBM X.K "list" (rIndex X.K) (tA D eo) (tL D (cList f es)) σ H Q := by
  obtain ⟨n, g, e, te, h, ts, S, w⟩ := h
  simp only [evA] at w
  refine ⟨n, g, e, te, h, ts, S, Wp.bind w fun ra e1 h1 g1 H1 x _ E1 S1 r1 w1 => ?_⟩
  obtain ⟨g1', E1', S1', f1⟩ := S1.keep r1
  have w1' := w1.mono E1'
  cases q : rd ra e1 h1 with
  | none => rw [q] at w1'; exact w1'.elim
  | some px =>
    rw [q] at w1'
    cases px with
    | lst xs0 =>
      obtain ⟨a, ws, rfl, ha, hl, tx⟩ := (S1'.rd f1 q).lst
      refine ⟨.inl ⟨rfl, ws, SqL.of ha⟩, ?_⟩
      refine ⟨n, g1', e1, te, h1, ts, S1', Wp.bind w1' fun as e2 h2 g2 H2 vs _ E2 S2 r2 w2 => ?_⟩
      cases q2 : rd ra e2 h2 with
      | none => rw [q2] at w2; exact w2.elim
      | some py =>
        rw [q2] at w2
        cases py with
        | lst xs =>
          obtain ⟨a', ws', e', ha', hl', tx'⟩ := (S2.rd (f1.ext E2) q2).lst
          cases e'
          have r2' : TrL D.T g2 H2 as vs := r2
          match as, vs, r2', w2 with
          | [.int i], _, .cons t .nil, w2 =>
            cases t
            simp only at w2
            cases q3 : (allInts xs).bind fun is => fndI is i with
            | none => rw [q3] at w2; exact w2.elim
            | some j =>
              rw [q3] at w2
              obtain ⟨is, q4, q5⟩ := Option.bind_eq_some_iff.mp q3
              have e3 := tx'.ints q4
              subst e3
              obtain ⟨b1, b2⟩ := fndI_spec q5
              refine ⟨_, _, .int i, j, .int i, rfl, rfl, SqL.of ha', rfl, by simp [flatV], by rw [List.getElem?_map, b1]; rfl, by simp [eqV], fun m z' hm hz => ?_, Wp.made w2 S2 (mk_same (.int _))⟩
              rw [List.getElem?_map, Option.map_eq_some_iff] at hz
              obtain ⟨z, h1, rfl⟩ := hz
              have := b2 m z hm h1
              simpa [eqV] using this
          | [], _, _, w2 => exact w2.elim
          | [.non], _, _, w2 => exact w2.elim
          | [.bl _], _, _, w2 => exact w2.elim
          | [.str _], _, _, w2 => exact w2.elim
          | [.ty _], _, _, w2 => exact w2.elim
          | [.fn _], _, _, w2 => exact w2.elim
          | [.ref _], _, _, w2 => exact w2.elim
          | [.scr _], _, _, w2 => exact w2.elim
          | [.lst _], _, _, w2 => exact w2.elim
          | [.tup _], _, _, w2 => exact w2.elim
          | [.dic _ _], _, _, w2 => exact w2.elim
          | p :: _ :: _, _, _, w2 => cases p <;> exact w2.elim
        | _ => exact w2.elim
    | _ => exact w1'.elim
theorem snd_midx (ok : XOk D.T N sc k X) {o : Expr} {es : List Expr} {apos pos : Pos} {eo : Ex} {f : Expr → Ex} (h1 : es.length = 1) (hp : plainObj o = true) (hline : (apos.endLine == pos.line) = true)
    (hs : (es.all fun e => !isStarE e) = true) (ho : PE X o (tA D eo)) (hf : ∀ e ∈ es, PE X e (tA D (f e))) : PE X (.Call (.Attribute o "index" apos) es [] pos) (tA D (.midx eo (cList f es))) := by
  have hbase : attributeBase o "index" X.env (eval o X.env) = eval o X.env := by cases o <;> first | rfl | (simp [plainObj] at hp)
  match es, h1 with
  | [a], _ =>
    have hs' : isStarE a = false := by simpa using hs
    have hfew : ((backTo pos (starEach [a] X.env)).all (fun x => !x.1) && (backToKw pos (keywordEach [] X.env)).all (fun x => x.1.isSome)
        && decide (([a] : List Expr).length + ([] : List Keyword).length + (if ([] : List Keyword).isEmpty then 0 else 1) < 30)) = true := by
      have h1 : (backTo pos (starEach [a] X.env)).all (fun x => !x.1) = true := by
        have := starEach_plain (env := X.env) (pos := pos) hs
        rw [List.any_eq_false] at this
        rw [List.all_eq_true]
        intro x hx
        simpa using this x hx
      rw [h1]
      simp [backToKw, keywordEach]
    exact PE.of (pe_bm PySem.F.plainAttrs_list PySem.F.slot_list_index PySem.F.type_list_index mt_index ho (snd_args hs hf) hbase hfew hline (starEach_cons hs') (starEach_plain (by simp))) (midx_key ok)
end

/-! ### the call of a def -/
def spF (D : Wd) (i : Nat) (m : Nat) : Sp := fun vs H Q E => vs.length = m ∧ ∃ g h ps, TrL D.T g H ps vs ∧ Sim D.T (en0 H g) g [] h [] H ∧
  match D.C i ps h with
  | .ret p fr h' => ∀ g' H' w, Ext g H g' H' → Sim D.T (en0 H g) g' [] h' [] H' → Res D.T (en0 H g) g' H' [] [] p fr w → Q w H'
  | .exc c fs h' => ∀ g' H' cls d, Ext g H g' H' → Sim D.T (en0 H g) g' [] h' [] H' → ExcAt D.T D.cs g' H' c fs cls d → E cls d H'
  | .stuck => False
def permL {α : Type} (d : α) (perm : List Nat) (l : List α) : List α := perm.map fun i => l.getD i d
structure FnsOk (D : Wd) (k : Nat) : Prop where
  fn : ∀ (i : Nat) (d : DefT), D.ds[i]? = some d → FnOk D.T.P D.T.w D.T.K D.T.mg D.T.base (L2.CX D.T.P D.T.w) (k + 2) d.f d.fd d.ps (spF D i d.ps.length)
  bi : ∀ (i : Nat) (d : DefT), D.ds[i]? = some d → Binds D.T.K d.fd d.ps []
  kwb : ∀ z ∈ D.kw, ∀ d, D.ds[z.1]? = some d → ∀ (s : Shared) (us ws : List Value), us.length = z.2.1 → ws.length = z.2.2.1.length → BindsTo s d.fd ⟨us, z.2.2.1.zip ws⟩ (d.ps.zip (permL .none z.2.2.2 (us ++ ws)))
section
variable {T : Tx} {n : En} {g g' : Gh} {env : Env} {h h' : Hs} {σ : List (Option V)} {H H' : Hp}
/-- from a state: the callee's -/
theorem Sim.enter (S : Sim T n g env h σ H) : Sim T (en0 H g) g [] h [] H :=
  ⟨rfl, S.fin, fun _ x => x, fun _ x => .inl x, ⟨[], by simp, fun _ x => by simp at x⟩, S.cF, S.cd, S.cl, S.cv, fun _ _ _ => rfl, fun i s x => by simp at x, fun i j p q w x => by simp at x⟩
/-- behind the call -/
theorem Sim.after (S : Sim T n g env h σ H) (E : Ext g H g' H') (S' : Sim T (en0 H g) g' [] h' [] H') : Sim T n g' env h' σ H' := by
  obtain ⟨l, c1, c2⟩ := S'.c0
  have old : ∀ a, H a ≠ none → a ∉ g.ce → H' a = H a := fun a ha hc => S'.fr a ha fun x => by
    rw [c1] at x
    rcases List.mem_append.mp x with x | x
    · exact hc x
    · exact ha (c2 a x)
  refine ⟨S.len, S'.fin, fun a x => E.F a (S.F0 a x), fun a x => ?_, ?_, S'.cF, S'.cd, S'.cl, S'.cv, fun a h1 h2 => ?_, fun i s hs => ?_, S.od⟩
  · rcases S'.Fn a x with x | x
    · exact S.Fn a x
    · exact .inr (S.he x)
  · obtain ⟨l0, e1, e2⟩ := S.c0
    refine ⟨l0 ++ l, by rw [c1]; show g.ce ++ l = _; rw [e1, List.append_assoc], fun a ha => ?_⟩
    rcases List.mem_append.mp ha with ha | ha
    · exact e2 a ha
    · exact S.he (c2 a ha)
  · have hc : a ∉ g.ce := fun x => h2 (by rw [c1]; exact List.mem_append_left _ x)
    have e := S.fr a h1 hc
    rw [old a (by rw [e]; exact h1) hc, e]
  · have q := S.sl i s hs
    cases s with
    | no => trivial
    | val p => obtain ⟨w, e1, e2⟩ := q; exact ⟨w, e1, e2.ext E⟩
    | own p =>
      obtain ⟨a, e1, o⟩ := q
      have hs := o.at_.some
      refine ⟨a, e1, fun x => ?_, fun x => ?_, o.ne, o.at_.ext E (old a hs o.nc)⟩
      · rcases S'.Fn a x with x | x
        · exact o.nF x
        · exact hs x
      · rw [c1] at x
        rcases List.mem_append.mp x with x | x
        · exact o.nc x
        · exact hs (c2 a x)
theorem Res.after (S : Sim T n g env h σ H) {p : PV} {fr : Bool} {w : V} (r : Res T (en0 H g) g' H' [] [] p fr w) : Res T n g' H' env σ p fr w := by
  cases fr with
  | false => cases p <;> exact r
  | true =>
    cases p with
    | lst xs =>
      obtain ⟨a, rfl, o, ap⟩ := r
      have hn : H a = none := o.ne
      refine ⟨a, rfl, ⟨o.nF, o.nc, S.he hn, o.at_⟩, fun i q hi hw => ?_⟩
      obtain ⟨b, e1, e2⟩ := S.sl i _ hi
      rw [hw] at e1
      cases e1
      exact e2.at_.some hn
    | _ => exact r
end
section
variable {D : Wd} {N : List Str} {sc : Scope} {asg : Str → Bool} {k : Nat} {X : Cx}
/-- the callee's promise, from the arguments -/
theorem call_sp {n : En} {σ : List (Option V)} {H : Hp} {g : Gh} {e te : Env} {h : Hs} {ts : List (Option V)} {i m : Nat} {ps : List PV} {vs : List V} {Q : VK} (S : SimT D.T n g e te h σ ts H) (hl : vs.length = m) (r : TrL D.T g H ps vs)
    (w : Wp D n σ te ts (relA D n σ te ts) (match D.C i ps h with
        | .ret p fr h2 => .ok (.v p fr) e h2
        | .exc c fs h2 => .exc c fs e h2
        | .stuck => .stuck) g H Q) : spF D i m vs H Q (WE D.W σ) := by
  refine ⟨hl, g, h, ps, r, S.sim.enter, ?_⟩
  cases q : D.C i ps h with
  | stuck => rw [q] at w; exact w
  | ret p fr h' =>
    rw [q] at w
    exact fun g' H' v E S' rs => w g' H' v E ⟨S.l1, S.l2, S.sim.after E S'⟩ (Res.after S.sim rs)
  | exc c fs h' =>
    rw [q] at w
    exact fun g' H' cls d E S' x => w g' H' cls d E ⟨S.l1, S.l2, S.sim.after E S'⟩ x
theorem snd_call (xg : XG D N sc asg k X) (F : FnsOk D k) {f : Expr → Ex} {x : Str} {es : List Expr} {p pos : Pos} {i : Nat} {d : DefT} (hd : D.ds[i]? = some d) (hx : x = d.x) (so1 : D.T.mg d.x = some (.ref d.f) ∧ PySem.W.keepIn D.T.K (.ref d.f) = true)
    (hl : es.length = d.ps.length) (hk : okName x = true) (hg : Gl X x) (hs : (es.all fun e => !isStarE e) = true) (hf : ∀ e ∈ es, PE X e (tA D (f e))) : PE X (.Call (.Name x p) es [] pos) (tA D (.call i [] (cList f es))) := by
  subst hx
  obtain ⟨k1, k2, k3⟩ := okName_ne hk
  have Fi : FnOk X.prog X.w X.K X.mg X.base (L2.CX X.prog X.w) (k + 2) d.f d.fd d.ps (spF D i d.ps.length) := by rw [xg.P, xg.w, xg.K, xg.mg, xg.base]; exact F.fn i d hd
  have hb : Binds X.K d.fd d.ps [] := by rw [xg.K]; exact F.bi i d hd
  have hm : X.mg d.x = some (.ref d.f) := by rw [xg.mg]; exact so1.1
  have hkp : PySem.W.keepIn X.K (.ref d.f) = true := by rw [xg.K]; exact so1.2
  have key : ∀ σ H Q, tA D (.call i [] (cList f es)) σ H Q → tCallS (spF D i d.ps.length) (WE D.W) (tL D (cList f es)) σ H Q := fun σ H Q ⟨n, g, e, te, h, ts, S, w⟩ => by
    simp only [evA] at w
    refine ⟨n, g, e, te, h, ts, S, Wp.bind w fun ps e1 h1 g1 H1 vs q E1 S1 r1 w1 => ?_⟩
    exact call_sp S1 (by rw [← TrL.length r1, evL_len q]; exact hl) r1 w1
  cases es with
  | nil =>
    refine PE.of (t := tCallS (spF D i d.ps.length) (WE D.W) tNil) ⟨fun pins s σ H Q I h => ?_⟩ fun σ H Q h => ?_
    · refine wpAny_Call_Name_kw (ld_glob I hg hm ?_ k1)
      exact PySem.W.callWith_K0 I.kIn hkp (run_fnS (us := []) Fi xg.hr hb (passAt xg.tk σ) I .nil h)
    · obtain ⟨n, g, e, te, h, ts, S, w⟩ := key σ H Q h
      simp only [cList, evL] at w
      exact w g H [] (Ext.refl _ _) S .nil
  | cons a r =>
    have hs' : isStarE a = false ∧ (r.all fun e => !isStarE e) = true := by simpa using hs
    exact PE.of (pe_callS Fi xg.hr hg hm hkp hb (fun σ => passAt xg.tk σ) (snd_args hs hf) k1 (starEach_cons hs'.1) (starEach_plain hs'.2)) key

/-! keywords -/
theorem snd_kws {f : Expr → Ex} : ∀ {kws : List Keyword}, (∀ q ∈ kws, PE X q.value (tA D (f q.value))) → PK X kws (tL D (cList f (kws.map (·.value))))
  | [], _ => ⟨fun pos pins s σ H Q I ⟨n, g, e, te, h, ts, S, w⟩ => by
      simp only [List.map_nil, cList, evL] at w
      exact pk_nil.run pos pins s σ H Q I (w g H [] (Ext.refl _ _) S .nil)⟩
  | ⟨nm, a, kp⟩ :: kws, hf => ⟨fun pos pins s σ H Q I ⟨n, g, e, te, h, ts, S, w⟩ => by
      refine (pk_cons (nm := nm) (kpos := kp) (hf _ List.mem_cons_self) (snd_kws fun q hq => hf q (List.mem_cons_of_mem _ hq))).run pos pins s σ H Q I ?_
      simp only [List.map_cons, cList, evL] at w
      refine ⟨n, g, e, te, h, ts, S, Wp.bind w fun r e1 h1 g1 H1 x _ E1 S1 r1 w1 => ?_⟩
      cases q : esc r e1 with
      | none => rw [q] at w1; exact w1.elim
      | some z =>
        obtain ⟨p, fr, e2⟩ := z
        rw [q] at w1
        obtain ⟨g1', E1', S1', t1⟩ := S1.escF r1 q
        refine ⟨n, g1', e2, te, h1, ts, S1', Wp.bind (w1.mono E1') fun ps e3 h3 g3 H3 xs _ E3 S3 r3 w3 => ?_⟩
        exact w3 g3 H3 (x :: xs) (Ext.refl _ _) S3 (.cons (t1.ext E3) r3)⟩
theorem evL_app {C : Calls} {f : Expr → Ex} : ∀ {as bs : List Expr} {e : Env} {h : Hs}, evL C (cList f (as ++ bs)) e h = (evL C (cList f as) e h).bind fun ps e1 h1 => (evL C (cList f bs) e1 h1).bind fun qs e2 h2 => .ok (ps ++ qs) e2 h2
  | [], bs, e, h => by
    simp only [List.nil_append, cList, evL, Out.bind]
    cases evL C (cList f bs) e h <;> rfl
  | a :: as, bs, e, h => by
    simp only [List.cons_append, cList, evL]
    cases evA C (f a) e h with
    | stuck => rfl
    | exc c fs e1 h1 => rfl
    | ok r e1 h1 =>
      simp only [Out.bind]
      cases esc r e1 with
      | none => rfl
      | some z =>
        obtain ⟨p, fr, e2⟩ := z
        simp only [evL_app (as := as)]
        cases evL C (cList f as) e2 h1 with
        | stuck => rfl
        | exc c fs e1 h1 => rfl
        | ok ps e3 h3 =>
          simp only [Out.bind]
          cases evL C (cList f bs) e3 h3 <;> rfl
theorem perm_tr {T : Tx} {g : Gh} {H : Hp} {ps : List PV} {vs : List V} (r : TrL T g H ps vs) : ∀ perm : List Nat, TrL T g H (perm.map fun i => ps.getD i .non) (permL .non perm vs)
  | [] => .nil
  | i :: perm => by
    refine .cons ?_ (perm_tr r perm)
    show Tr T g H (ps.getD i .non) (vs.getD i .non)
    rw [List.getD_eq_getElem?_getD, List.getD_eq_getElem?_getD]
    cases q : ps[i]? with
    | none =>
      have : vs[i]? = none := by rw [List.getElem?_eq_none_iff, ← r.length]; exact List.getElem?_eq_none_iff.mp q
      rw [this]; exact .non
    | some p =>
      obtain ⟨v, e1, e2⟩ := r.get q
      rw [e1]; exact e2
theorem perm_vals {vs : List V} {us : List Value} (r : Vals vs us) : ∀ perm : List Nat, Vals (permL .non perm vs) (permL .none perm us)
  | [] => .nil
  | i :: perm => by
    refine .cons ?_ (perm_vals r perm)
    show RelV (vs.getD i .non) (us.getD i .none)
    rw [List.getD_eq_getElem?_getD, List.getD_eq_getElem?_getD]
    cases q : vs[i]? with
    | none => rw [Vals.none_of r q]; exact rfl
    | some p =>
      obtain ⟨v, e1, e2⟩ := r.get q
      rw [e1]; exact e2
theorem kwNames_all {env : PySem.Env} {pos : Pos} : ∀ {kws : List Keyword} {ks : List Str}, kwNames kws = some ks → (backToKw pos (keywordEach kws env)).all (·.1.isSome) = true ∧ (backToKw pos (keywordEach kws env)).filterMap (·.1) = ks ∧ (backToKw pos (keywordEach kws env)).any (·.1.isNone) = false ∧ kws.length = ks.length
  | [], ks, h => by simp [kwNames] at h; subst h; exact ⟨rfl, rfl, rfl, rfl⟩
  | ⟨some nm, a, kp⟩ :: r, ks, h => by
    simp only [kwNames, Option.map_eq_some_iff] at h
    obtain ⟨ks', h1, h2⟩ := h
    subst h2
    obtain ⟨a1, a2, a3, a4⟩ := kwNames_all (env := env) (pos := pos) h1
    refine ⟨?_, ?_, ?_, by simp [a4]⟩
    · simpa [keywordEach, backToKw] using a1
    · have : (backToKw pos (keywordEach r env)).filterMap (·.1) = ks' := a2
      simpa [keywordEach, backToKw] using this
    · simpa [keywordEach, backToKw] using a3
  | ⟨none, a, kp⟩ :: r, ks, h => by simp [kwNames] at h
theorem snd_callK (xg : XG D N sc asg k X) (F : FnsOk D k) {f : Expr → Ex} {x : Str} {es : List Expr} {kws : List Keyword} {ks : List Str} {perm : List Nat} {p pos : Pos} {i : Nat} {d : DefT} (hd : D.ds[i]? = some d) (hx : x = d.x) (so1 : D.T.mg d.x = some (.ref d.f) ∧ PySem.W.keepIn D.T.K (.ref d.f) = true)
    (hkn : kwNames kws = some ks) (hz : (i, es.length, ks, perm) ∈ D.kw) (hp : perm ≠ []) (hpl : perm.length = d.ps.length) (hk : okName x = true) (hg : Gl X x) (hs : (es.all fun e => !isStarE e) = true) (hf : ∀ e ∈ es, PE X e (tA D (f e))) (hfk : ∀ q ∈ kws, PE X q.value (tA D (f q.value))) :
    PE X (.Call (.Name x p) es kws pos) (tA D (.call i perm (cList f (es ++ kws.map (·.value))))) := by
  subst hx
  obtain ⟨k1, k2, k3⟩ := okName_ne hk
  have Fi : FnOk X.prog X.w X.K X.mg X.base (L2.CX X.prog X.w) (k + 2) d.f d.fd d.ps (spF D i d.ps.length) := by rw [xg.P, xg.w, xg.K, xg.mg, xg.base]; exact F.fn i d hd
  have hm : X.mg d.x = some (.ref d.f) := by rw [xg.mg]; exact so1.1
  have hkp : PySem.W.keepIn X.K (.ref d.f) = true := by rw [xg.K]; exact so1.2
  obtain ⟨a1, a2, a3, a4⟩ := kwNames_all (env := X.env) (pos := pos) hkn
  let tt : TE := fun σ H Q => tL D (cList f es) σ H fun vs H1 => tL D (cList f (kws.map (·.value))) σ H1 fun zs H2 => vs.length = es.length ∧ zs.length = kws.length ∧ spF D i d.ps.length (permL .non perm (vs ++ zs)) H2 Q (WE D.W σ)
  have key : ∀ σ H Q, tA D (.call i perm (cList f (es ++ kws.map (·.value)))) σ H Q → tt σ H Q := fun σ H Q ⟨n, g, e, te, h, ts, S, w⟩ => by
    simp only [evA, evL_app] at w
    have w' : Wp D n σ te ts (relA D n σ te ts) ((evL D.C (cList f es) e h).bind fun ps e1 h1 => (evL D.C (cList f (kws.map (·.value))) e1 h1).bind fun qs e2 h2 => match D.C i (permute perm (ps ++ qs)) h2 with
        | .ret p fr h3 => .ok (.v p fr) e2 h3
        | .exc c fs h3 => .exc c fs e2 h3
        | .stuck => .stuck) g H Q := by
      cases q1 : evL D.C (cList f es) e h with
      | stuck => rw [q1] at w; exact w
      | exc c fs e1 h1 => rw [q1] at w; exact w
      | ok ps e1 h1 =>
        rw [q1] at w
        simp only [Out.bind] at w ⊢
        cases q2 : evL D.C (cList f (kws.map (·.value))) e1 h1 with
        | stuck => rw [q2] at w; exact w
        | exc c fs e1 h1 => rw [q2] at w; exact w
        | ok qs e2 h2 => rw [q2] at w; exact w
    refine ⟨n, g, e, te, h, ts, S, Wp.bind w' fun ps e1 h1 g1 H1 vs q E1 S1 r1 w1 => ?_⟩
    refine ⟨n, g1, e1, te, h1, ts, S1, Wp.bind w1 fun qs e2 h2 g2 H2 zs q2 E2 S2 r2 w2 => ?_⟩
    refine ⟨by rw [← TrL.length r1, evL_len q], by rw [← TrL.length r2, evL_len q2]; simp, call_sp S2 ?_ (ps := permute perm (ps ++ qs)) ?_ w2⟩
    · simp [permL, hpl]
    · have r3 := perm_tr ((TrL.ext E2 r1).append r2) perm
      have e3 : permute perm (ps ++ qs) = perm.map fun i => (ps ++ qs).getD i .non := by
        cases perm with
        | nil => exact absurd rfl hp
        | cons a r => rfl
      rw [e3]; exact r3
  refine PE.of ⟨fun pins s σ H Q I h => ?_⟩ key
  have run : ∀ {us ws : List Value} {vs zs : List V} {s2 : Shared} {H2 : Hp}, Vals vs us → Vals zs ws → Inv X pins σ H2 s2 → (vs.length = es.length ∧ zs.length = kws.length ∧ spF D i d.ps.length (permL .non perm (vs ++ zs)) H2 Q (WE D.W σ)) →
      wpAny (model X.prog X.w) X.A (call (.ref d.f) us (ks.zip ws)) (EP X pins σ Q) X.xe s2 := by
    intro us ws vs zs s2 H2 r rz I2 ⟨l1, l2, hsp⟩
    have r2 : Vals (permL .non perm (vs ++ zs)) (permL .none perm (us ++ ws)) := perm_vals (r.append rz) perm
    have hb := F.kwb _ hz d hd s2 us ws (by rw [← r.length]; exact l1) (by rw [← rz.length, l2]; exact a4)
    refine wpAny_call (codeAny_mono (Fi.run X.A X.stack s2 H2 ⟨us, ks.zip ws⟩ _ _ Q (WE D.W σ) xg.hr I2.env0 hb r2 hsp) fun r s' hq => ?_)
    cases r with
    | error e => exact passAt xg.tk σ pins H2 s2 e s' I2 hq
    | ok fl =>
      cases fl with
      | ret u => exact I2.after hq
      | next => exact False.elim hq
      | brk => exact False.elim hq
      | cont => exact False.elim hq
  refine wpAny_Call_Name_kw (ld_glob I hg hm ?_ k1)
  cases es with
  | nil =>
    refine PySem.W.callWith_KW0 (h₀ := X.base) I.ok.mod.kin hkp a1 ?_ (by rw [show (backTo pos (starEach [] X.env)).any (·.1) = false from rfl, a3]; rfl)
    have h' : tt σ H Q := h
    obtain ⟨n, g, e, te, hh, ts, S, w⟩ := h'
    simp only [cList, evL] at w
    have h2 := w g H [] (Ext.refl _ _) S .nil
    refine thn ((snd_kws hfk).run pos pins s σ H _ I h2) fun ws s2 ⟨zs, H2, I2, rz, q2⟩ => ⟨I2.kIn, ?_⟩
    rw [a2]
    exact run .nil rz I2 q2
  | cons a r =>
    have hs' : isStarE a = false ∧ (r.all fun e => !isStarE e) = true := by simpa using hs
    refine PySem.W.callWith_KW (h₀ := X.base) I.ok.mod.kin hkp a1 (thn ((snd_args hs hf).run pos pins s σ H _ I h) fun us s1 ⟨vs, H1, I1, rv, q⟩ => ?_) (by rw [starEach_plain hs, a3]; rfl) (starEach_cons hs'.1)
    refine thn ((snd_kws hfk).run pos pins s1 σ H1 _ I1 q) fun ws s2 ⟨zs, H2, I2, rz, q2⟩ => ⟨I2.kIn, ?_⟩
    rw [a2]
    exact run rv rz I2 q2
end
end PL

/-! Targets; what is walked; comprehensions. -/
namespace PL
open PySem PySem.Spec PyProof.Rows L2

/-! ### slots changed -/
section
variable {T : Tx} {n : En} {g : Gh} {env env' : Env} {h : Hs} {σ σ' : List (Option V)} {H : Hp}
theorem Sim.re (S : Sim T n g env h σ H) (hl : env'.length = σ'.length)
    (hs : ∀ (i : Nat) (s : SV), env'[i]? = some s → s = .no ∨ (∃ p w, s = .val p ∧ σ'[i]? = some (some w) ∧ Tr T g H p w) ∨ (env[i]? = some s ∧ σ'[i]? = σ[i]?)) : Sim T n g env' h σ' H := by
  refine ⟨hl, S.fin, S.F0, S.Fn, S.c0, S.cF, S.cd, S.cl, S.cv, S.fr, fun i s hi => ?_, fun i j p q w h1 h2 h3 h4 => ?_⟩
  · rcases hs i s hi with rfl | ⟨p, w, rfl, e, t⟩ | ⟨e1, e2⟩
    · trivial
    · exact ⟨w, e, t⟩
    · rw [e2]; exact S.sl i s e1
  · have old : ∀ (m : Nat) (p : PV), env'[m]? = some (SV.own p) → env[m]? = some (SV.own p) ∧ σ'[m]? = σ[m]? := fun m p hm => by
      rcases hs m _ hm with e | ⟨_, _, e, _⟩ | e
      · cases e
      · cases e
      · exact e
    obtain ⟨a1, a2⟩ := old i p h1
    obtain ⟨b1, b2⟩ := old j q h2
    exact S.od i j p q w a1 b1 (by rw [← a2]; exact h3) (by rw [← b2]; exact h4)
/-- one more owner -/
theorem Sim.reOwn (S : Sim T n g env h σ H) {i0 : Nat} {xs : List PV} {a : Addr} (o : Owned T n g H (.lst xs) a) (ap : Apart env σ a) (hl : env'.length = σ'.length)
    (hs : ∀ (i : Nat) (s : SV), env'[i]? = some s → (i = i0 ∧ s = .own (.lst xs) ∧ σ'[i]? = some (some (.ref a))) ∨ (i ≠ i0 ∧ env[i]? = some s ∧ σ'[i]? = σ[i]?)) : Sim T n g env' h σ' H := by
  refine ⟨hl, S.fin, S.F0, S.Fn, S.c0, S.cF, S.cd, S.cl, S.cv, S.fr, fun i s hi => ?_, fun i j p q w h1 h2 h3 h4 => ?_⟩
  · rcases hs i s hi with ⟨_, rfl, e⟩ | ⟨_, e1, e2⟩
    · exact ⟨a, e, o⟩
    · rw [e2]; exact S.sl i s e1
  · rcases hs i _ h1 with ⟨ei, _, e⟩ | ⟨ni, e1, e2⟩
    · rcases hs j _ h2 with ⟨ej, _, _⟩ | ⟨nj, f1, f2⟩
      · exact ei.trans ej.symm
      · rw [e] at h3
        cases h3
        exact absurd (f2 ▸ h4) (ap j q f1)
    · rcases hs j _ h2 with ⟨ej, _, e⟩ | ⟨nj, f1, f2⟩
      · rw [e] at h4
        cases h4
        exact absurd (e2 ▸ h3) (ap i p e1)
      · exact S.od i j p q w e1 f1 (by rw [← e2]; exact h3) (by rw [← f2]; exact h4)
end
theorem mapLen {α : Type} (l : List α) (i : Nat) (x : α) : (l.set i x).length = l.length := by simp
theorem wipeE_len (e : Env) : ∀ vs, (wipeE vs e).length = e.length
  | [] => rfl
  | v :: vs => by simp [wipeE, wipeE_len e vs]
theorem wipeE_get (e : Env) (i : Nat) : ∀ vs, (wipeE vs e)[i]? = if i ∈ vs then (e[i]?).map (fun _ => SV.no) else e[i]?
  | [] => by simp [wipeE]
  | v :: vs => by
    unfold wipeE
    rw [List.getElem?_set]
    have ih := wipeE_get e i vs
    have hl := wipeE_len e vs
    by_cases hv : v = i
    · subst hv
      simp only [if_true, List.mem_cons, true_or]
      split
      · rename_i hlt
        rw [hl] at hlt
        rw [List.getElem?_eq_getElem hlt]; rfl
      · rename_i hlt
        rw [hl] at hlt
        rw [List.getElem?_eq_none (by omega)]; rfl
    · rw [if_neg hv, ih]
      simp [Ne.symm hv, fun h : i = v => hv h.symm]
theorem wipe_get (σ : L2.St) (i : Nat) : ∀ vs, (wipe σ vs)[i]? = if i ∈ vs then (σ[i]?).map (fun _ => none) else σ[i]?
  | [] => by simp [wipe]
  | v :: vs => by
    unfold wipe
    rw [List.getElem?_set]
    have ih := wipe_get σ i vs
    have hl := wipe_length σ vs
    by_cases hv : v = i
    · subst hv
      simp only [if_true, List.mem_cons, true_or]
      split
      · rename_i hlt
        rw [hl] at hlt
        rw [List.getElem?_eq_getElem hlt]; rfl
      · rename_i hlt
        rw [hl] at hlt
        rw [List.getElem?_eq_none (by omega)]; rfl
    · rw [if_neg hv, ih]
      simp [Ne.symm hv, fun h : i = v => hv h.symm]
theorem frzAt_len (e : Env) : ∀ vs, (frzAt vs e).length = e.length
  | [] => rfl
  | v :: vs => by simp [frzAt, frzAt_len e vs]
theorem backE_len (e0 e : Env) : ∀ vs, (backE vs e0 e).length = e.length
  | [] => rfl
  | v :: vs => by simp [backE, backE_len e0 e vs]
theorem backE_get (e0 e : Env) (i : Nat) : ∀ vs, (backE vs e0 e)[i]? = if i ∈ vs then (e[i]?).map (fun _ => e0.getD i .no) else e[i]?
  | [] => by simp [backE]
  | v :: vs => by
    unfold backE
    rw [List.getElem?_set]
    have ih := backE_get e0 e i vs
    have hl := backE_len e0 e vs
    by_cases hv : v = i
    · subst hv
      simp only [if_true, List.mem_cons, true_or]
      split
      · rename_i hlt
        rw [hl] at hlt
        rw [List.getElem?_eq_getElem hlt]; rfl
      · rename_i hlt
        rw [hl] at hlt
        rw [List.getElem?_eq_none (by omega)]; rfl
    · rw [if_neg hv, ih]
      simp [Ne.symm hv, fun h : i = v => hv h.symm]
theorem frzS_own (s : SV) : ∀ p, frzS s ≠ .own p := by cases s <;> simp [frzS]
theorem frzAt_in (e : Env) : ∀ (vs : List Nat) (i : Nat) (p : PV), i ∈ vs → (frzAt vs e)[i]? ≠ some (.own p)
  | [], i, p, h => by simp at h
  | v :: vs, i, p, h => by
    unfold frzAt
    intro q
    rcases getElem?_set_or q with ⟨_, e⟩ | ⟨hne, q'⟩
    · exact frzS_own _ p e.symm
    · rcases List.mem_cons.mp h with h | h
      · exact hne h
      · exact frzAt_in e vs i p h q'
section
variable {D : Wd} {n : En} {σ : List (Option V)} {e te : Env} {h : Hs} {ts : List (Option V)} {g : Gh} {H : Hp}
/-- the slots of a block are frozen -/
theorem SimT.frzAt (S : SimT D.T n g e te h σ ts H) : ∀ vs : List Nat, ∃ g', Ext g H g' H ∧ SimT D.T n g' (frzAt vs e) te h σ ts H
  | [] => ⟨g, Ext.refl g H, S⟩
  | v :: vs => by
    obtain ⟨g1, E1, S1⟩ := SimT.frzAt S vs
    unfold PL.frzAt
    cases q : (PL.frzAt vs e)[v]? with
    | none =>
      rw [List.set_eq_of_length_le (List.getElem?_eq_none_iff.mp q)]
      exact ⟨g1, E1, S1⟩
    | some s =>
      have hd : (PL.frzAt vs e).getD v SV.no = s := by rw [List.getD_eq_getElem?_getD, q]; rfl
      have hi : v < (PL.frzAt vs e).length := (List.getElem?_eq_some_iff.mp q).1
      rw [hd]
      have same : (PL.frzAt vs e).set v s = PL.frzAt vs e := by
        obtain ⟨h1, h2⟩ := List.getElem?_eq_some_iff.mp q
        rw [← h2, List.set_getElem_self]
      cases s with
      | no => rw [show frzS SV.no = SV.no from rfl, same]; exact ⟨g1, E1, S1⟩
      | val p => rw [show frzS (SV.val p) = SV.val p from rfl, same]; exact ⟨g1, E1, S1⟩
      | own p =>
        have q' : (PL.frzAt vs e ++ te)[v]? = some (.own p) := by rw [List.getElem?_append_left hi]; exact q
        obtain ⟨a, e1, o⟩ := S1.sim.sl v _ q'
        obtain ⟨g2, E2, S2, _⟩ := S1.sim.frzSlot q' e1
        rw [List.set_append_left _ _ hi] at S2
        exact ⟨g2, E1.trans E2, by simpa using S1.l1, S1.l2, S2⟩
/-- the slots of a block are forgotten -/
theorem SimT.wipe (S : SimT D.T n g e te h σ ts H) (vs : List Nat) : SimT D.T n g (wipeE vs e) te h (L2.wipe σ vs) ts H := by
  have l1 : (wipeE vs e).length = (L2.wipe σ vs).length := by rw [wipeE_len, wipe_length]; exact S.l1
  refine ⟨l1, S.l2, S.sim.re (by rw [List.length_append, List.length_append, l1, S.l2]) fun i s hi => ?_⟩
  by_cases hlt : i < e.length
  · have hlt' : i < (wipeE vs e).length := by rw [wipeE_len]; exact hlt
    rw [List.getElem?_append_left hlt', wipeE_get] at hi
    by_cases hv : i ∈ vs
    · rw [if_pos hv, List.getElem?_eq_getElem hlt] at hi
      cases hi
      exact .inl rfl
    · rw [if_neg hv] at hi
      refine .inr (.inr ⟨by rw [List.getElem?_append_left hlt]; exact hi, ?_⟩)
      rw [List.getElem?_append_left (by rw [← l1]; exact hlt'), List.getElem?_append_left (by rw [← S.l1]; exact hlt), wipe_get, if_neg hv]
  · have hge : (wipeE vs e).length ≤ i := by rw [wipeE_len]; omega
    rw [List.getElem?_append_right hge, wipeE_len] at hi
    refine .inr (.inr ⟨by rw [List.getElem?_append_right (by omega)]; exact hi, ?_⟩)
    rw [List.getElem?_append_right (by rw [← l1]; exact hge), List.getElem?_append_right (by rw [← S.l1]; omega), wipe_length]
/-- a slot gets a value -/
theorem SimT.setVal (S : SimT D.T n g e te h σ ts H) {i : Nat} {p : PV} {w : V} (hi : i < e.length) (t : Tr D.T g H p w) : SimT D.T n g (e.set i (.val p)) te h (σ.set i (some w)) ts H := by
  have l1 : (e.set i (.val p)).length = (σ.set i (some w)).length := by simpa using S.l1
  refine ⟨l1, S.l2, S.sim.re (by rw [List.length_append, List.length_append, l1, S.l2]) fun j s hj => ?_⟩
  have e1 : (e.set i (.val p)) ++ te = (e ++ te).set i (.val p) := (List.set_append_left _ _ hi).symm
  have e2 : (σ.set i (some w)) ++ ts = (σ ++ ts).set i (some w) := (List.set_append_left _ _ (by rw [← S.l1]; exact hi)).symm
  rw [e1] at hj
  rw [e2]
  rcases getElem?_set_or hj with ⟨rfl, rfl⟩ | ⟨hne, hj'⟩
  · refine .inr (.inl ⟨p, w, rfl, ?_, t⟩)
    rw [List.getElem?_set_self (by rw [List.length_append, ← S.l1]; omega)]
  · exact .inr (.inr ⟨hj', by rw [List.getElem?_set_ne (Ne.symm hne)]⟩)
theorem SimT.setOwn (S : SimT D.T n g e te h σ ts H) {i : Nat} {xs : List PV} {a : Addr} (hi : i < e.length) (o : Owned D.T n g H (.lst xs) a) (ap : Apart (e ++ te) (σ ++ ts) a) : SimT D.T n g (e.set i (.own (.lst xs))) te h (σ.set i (some (.ref a))) ts H := by
  have l1 : (e.set i (.own (.lst xs))).length = (σ.set i (some (.ref a))).length := by simpa using S.l1
  refine ⟨l1, S.l2, S.sim.reOwn (i0 := i) o ap (by rw [List.length_append, List.length_append, l1, S.l2]) fun j s hj => ?_⟩
  have e1 : (e.set i (.own (.lst xs))) ++ te = (e ++ te).set i (.own (.lst xs)) := (List.set_append_left _ _ hi).symm
  have e2 : (σ.set i (some (V.ref a))) ++ ts = (σ ++ ts).set i (some (V.ref a)) := (List.set_append_left _ _ (by rw [← S.l1]; exact hi)).symm
  rw [e1] at hj
  rw [e2]
  rcases getElem?_set_or hj with ⟨rfl, rfl⟩ | ⟨hne, hj'⟩
  · refine .inl ⟨rfl, rfl, ?_⟩
    rw [List.getElem?_set_self (by rw [List.length_append, ← S.l1]; omega)]
  · exact .inr ⟨hne, hj', by rw [List.getElem?_set_ne (Ne.symm hne)]⟩
/-- a slot gets what an expression hands back -/
theorem SimT.setRes (S : SimT D.T n g e te h σ ts H) {i : Nat} {p : PV} {fr : Bool} {w : V} (hi : i < e.length) (r : Res D.T n g H (e ++ te) (σ ++ ts) p fr w) : SimT D.T n g (e.set i (PL.mk p fr)) te h (σ.set i (some w)) ts H := by
  cases p with
  | lst xs =>
    cases fr with
    | true =>
      obtain ⟨a, rfl, o, ap⟩ := r
      exact S.setOwn hi o ap
    | false => exact S.setVal hi r
  | _ => exact S.setVal hi r
/-- an own list is kept beside -/
theorem SimT.push (S : SimT D.T n g e te h σ ts H) {xs : List PV} {a : Addr} (o : Owned D.T n g H (.lst xs) a) (ap : Apart (e ++ te) (σ ++ ts) a) : SimT D.T n g e (te ++ [.own (.lst xs)]) h σ (ts ++ [some (.ref a)]) H := by
  have l2 : (te ++ [SV.own (.lst xs)]).length = (ts ++ [some (V.ref a)]).length := by simp [S.l2]
  refine ⟨S.l1, l2, S.sim.reOwn (i0 := (e ++ te).length) o ap (by simp [S.l1, S.l2]) fun j s hj => ?_⟩
  rw [← List.append_assoc] at hj ⊢
  have hl : (e ++ te).length = (σ ++ ts).length := by simp [S.l1, S.l2]
  by_cases hlt : j < (e ++ te).length
  · rw [List.getElem?_append_left hlt] at hj
    exact .inr ⟨Nat.ne_of_lt hlt, hj, by rw [List.getElem?_append_left (by rw [← hl]; exact hlt)]⟩
  · have hj2 : j = (e ++ te).length := by
      have := (List.getElem?_eq_some_iff.mp hj).1
      rw [List.length_append] at this
      simp at this ⊢
      simp at hlt
      omega
    rw [List.getElem?_append_right (by omega), hj2] at hj
    simp at hj
    refine .inl ⟨hj2, hj.symm, ?_⟩
    rw [hj2, hl, List.getElem?_append_right (Nat.le_refl _)]
    simp
/-- .. and comes back -/
theorem SimT.pop {s : SV} {o : Option V} (S : SimT D.T n g e (te ++ [s]) h σ (ts ++ [o]) H) : SimT D.T n g e te h σ ts H := by
  have l2 : te.length = ts.length := by simpa using S.l2
  refine ⟨S.l1, l2, S.sim.re (by simp [S.l1, l2]) fun j s' hj => .inr (.inr ?_)⟩
  have hlt := (List.getElem?_eq_some_iff.mp hj).1
  have hl : (e ++ te).length = (σ ++ ts).length := by simp [S.l1, l2]
  have a1 : (e ++ (te ++ [s]))[j]? = (e ++ te)[j]? := by rw [← List.append_assoc]; exact List.getElem?_append_left hlt
  have a2 : (σ ++ (ts ++ [o]))[j]? = (σ ++ ts)[j]? := by rw [← List.append_assoc]; exact List.getElem?_append_left (by rw [← hl]; exact hlt)
  rw [a1, a2]
  exact ⟨hj, rfl⟩
theorem SimT.top {p : PV} {w : V} (S : SimT D.T n g e (te ++ [.own p]) h σ (ts ++ [some w]) H) : ∃ a, w = .ref a ∧ Owned D.T n g H p a ∧ Apart (e ++ te) (σ ++ ts) a := by
  have l2 : te.length = ts.length := by simpa using S.l2
  have hl : (e ++ te).length = (σ ++ ts).length := by simp [S.l1, l2]
  have hi : (e ++ (te ++ [SV.own p]))[(e ++ te).length]? = some (.own p) := by
    rw [← List.append_assoc, List.getElem?_append_right (Nat.le_refl _)]; simp
  have hw : (σ ++ (ts ++ [some w]))[(e ++ te).length]? = some (some w) := by
    rw [← List.append_assoc, hl, List.getElem?_append_right (Nat.le_refl _)]; simp
  obtain ⟨a, e1, o⟩ := S.sim.sl _ _ hi
  rw [hw] at e1
  cases e1
  refine ⟨a, rfl, o, fun i q h1 h2 => ?_⟩
  have hlt := (List.getElem?_eq_some_iff.mp h1).1
  have h1' : (e ++ (te ++ [SV.own p]))[i]? = some (.own q) := by rw [← List.append_assoc, List.getElem?_append_left hlt]; exact h1
  have h2' : (σ ++ (ts ++ [some (V.ref a)]))[i]? = some (some (.ref a)) := by rw [← List.append_assoc, List.getElem?_append_left (by rw [← hl]; exact hlt)]; exact h2
  exact absurd (S.sim.od _ _ _ _ _ h1' hi h2' hw) (Nat.ne_of_lt hlt)
/-- the list that is kept beside grows -/
theorem SimT.app {xs ys : List PV} {a : Addr} {vs : List V} (S : SimT D.T n g e (te ++ [.own (.lst xs)]) h σ (ts ++ [some (.ref a)]) H) (hl : vs.length ≤ sizeLine) (r : TrL D.T g H ys vs) :
    Ext g H g (upd H a (.lst vs)) ∧ SimT D.T n g e (te ++ [.own (.lst ys)]) h σ (ts ++ [some (.ref a)]) (upd H a (.lst vs)) := by
  have l2 : te.length = ts.length := by simpa using S.l2
  have hl' : (e ++ te).length = (σ ++ ts).length := by simp [S.l1, l2]
  have hi : (e ++ (te ++ [SV.own (.lst xs)]))[(e ++ te).length]? = some (.own (.lst xs)) := by
    rw [← List.append_assoc, List.getElem?_append_right (Nat.le_refl _)]; simp
  have hw : (σ ++ (ts ++ [some (V.ref a)]))[(e ++ te).length]? = some (some (.ref a)) := by
    rw [← List.append_assoc, hl', List.getElem?_append_right (Nat.le_refl _)]; simp
  obtain ⟨E, S'⟩ := S.sim.writeOwn hi hw hl r
  have e1 : (e ++ (te ++ [SV.own (.lst xs)])).set (e ++ te).length (.own (.lst ys)) = e ++ (te ++ [.own (.lst ys)]) := by
    rw [← List.append_assoc, ← List.append_assoc, List.set_append_right _ _ (Nat.le_refl _)]; simp
  rw [e1] at S'
  exact ⟨E, S.l1, by simp [l2], S'⟩
end

/-! ### targets -/
section
variable (D : Wd)
def tG (t : Tg) : TG := fun v σ H Q => Go D σ H fun n g e te h ts => ∃ p e', Tr D.T g H p v ∧ bindT t p e = some e' ∧ ∀ σ', SimT D.T n g e' te h σ' ts H → (∀ i, i ∉ tgIs t → σ'[i]? = σ[i]?) → Q σ' H
def tGs (t : Tg) : TGs := fun vs σ H Q => Go D σ H fun n g e te h ts => ∃ ps e', TrL D.T g H ps vs ∧ bindTs t ps e = some e' ∧ ∀ σ', SimT D.T n g e' te h σ' ts H → (∀ i, i ∉ tgIs t → σ'[i]? = σ[i]?) → Q σ' H
end
theorem PG.of {X : Cx} {e : Expr} {t t' : TG} (h : PG X e t) (i : ∀ v σ H Q, t' v σ H Q → t v σ H Q) : PG X e t' := ⟨fun pins s σ H v u Q I r q => h.run pins s σ H v u Q I r (i v σ H Q q)⟩
theorem PGs.of {X : Cx} {e : List Expr} {t t' : TGs} (h : PGs X e t) (i : ∀ v σ H Q, t' v σ H Q → t v σ H Q) : PGs X e t' := ⟨fun pins s σ H v u Q I r q => h.run pins s σ H v u Q I r (i v σ H Q q)⟩
theorem assignEach_cons {e : Expr} {es : List Expr} {env : PySem.Env} (h : isStarE e = false) : assignEach (e :: es) env = (false, assign e env) :: assignEach es env := by
  cases e <;> first | rfl | (simp [isStarE] at h)
theorem assignEach_plain {env : PySem.Env} : ∀ {es : List Expr}, (es.all fun e => !isStarE e) = true → (assignEach es env).length = es.length ∧ (assignEach es env).findIdx? (·.1) = none
  | [], _ => ⟨rfl, rfl⟩
  | e :: es, h => by
    have h' : isStarE e = false ∧ (es.all fun e => !isStarE e) = true := by simpa using h
    obtain ⟨a, b⟩ := assignEach_plain (env := env) h'.2
    rw [assignEach_cons h'.1]
    refine ⟨by simp [a], ?_⟩
    rw [List.findIdx?_cons, b]
    rfl
section
variable {D : Wd} {N : List Str} {sc : Scope} {asg : Str → Bool} {k : Nat} {X : Cx}
theorem bindTs_len {t : Tg} {ps : List PV} {e e' : Env} : bindTs t ps e = some e' → ∀ m, (∀ ps e e', bindTs t ps e = some e' → ps.length = m) → ps.length = m := fun h m f => f _ _ _ h
theorem snd_tg (xg : XG D N sc asg k X) {S : Sc} (hN : S.N = N) (hs : S.sc = sc) (ha : S.asg = asg) : ∀ (m : Nat) (e : Expr) (t : Tg), cTg S m e = some t → PG X e (tG D t)
  | 0, _, _, h => by simp [cTg] at h
  | m + 1, e, t, h => by
    have ih := snd_tg xg hN hs ha m
    cases e with
    | Name x pos =>
      simp only [cTg] at h
      split at h
      · rename_i hc
        simp only [Bool.and_eq_true] at hc
        obtain ⟨⟨h1, h2⟩, h3⟩ := hc
        cases q : idxOf? x S.N with
        | none => rw [q] at h; cases h
        | some i =>
          rw [q] at h
          cases h
          refine PG.of (pg_name (i := i) (by rw [xg.hN]; exact xg.nd) (by rw [xg.hN, ← hN]; exact idxOf_get q) (by rw [xg.hsc, ← hs]; exact locB_loc h2) (xg.fn x (by rw [← ha]; exact h3))) fun v σ H Q ⟨n, g, e, te, hh, ts, S', p, e', tp, hb, hq⟩ => ?_
          simp only [bindT] at hb
          split at hb
          · rename_i hlt
            cases hb
            refine hq _ (S'.setVal hlt tp) fun j hj => ?_
            rw [List.getElem?_set_ne]
            intro z
            exact hj (by simp [tgIs, z])
          · cases hb
      · cases h
    | Tuple es j pos =>
      simp only [cTg] at h
      split at h
      · rename_i hst
        simp only [Option.map_eq_some_iff] at h
        obtain ⟨t', h1, h2⟩ := h
        subst h2
        have hst' : (es.all fun e => !isStarE e) = true := hst
        have key : ∀ (es : List Expr) (t' : Tg), (es.all fun e => !isStarE e) = true → es.foldr (fun e t => match cTg S m e, t with | some a, some b => some (Tg.cons a b) | _, _ => none) (some Tg.nil) = some t' →
            PGs X es (tGs D t') ∧ ∀ ps e e', bindTs t' ps e = some e' → ps.length = es.length := by
          intro es
          induction es with
          | nil =>
            intro t' _ h
            cases h
            refine ⟨PGs.of pgs_nil fun vs σ H Q ⟨n, g, e, te, hh, ts, S', ps, e', tp, hb, hq⟩ => ?_, fun ps e e' hb => ?_⟩
            · cases ps with
              | nil =>
                cases tp
                simp [bindTs] at hb
                subst hb
                exact ⟨rfl, hq σ S' fun _ _ => rfl⟩
              | cons => simp [bindTs] at hb
            · cases ps with
              | nil => rfl
              | cons => simp [bindTs] at hb
          | cons a r ih2 =>
            intro t' hs' h
            have hs2 : isStarE a = false ∧ (r.all fun e => !isStarE e) = true := by simpa using hs'
            rw [List.foldr_cons] at h
            cases q1 : cTg S m a with
            | none => rw [q1] at h; cases h
            | some ta =>
              cases q2 : r.foldr (fun e t => match cTg S m e, t with | some a, some b => some (Tg.cons a b) | _, _ => none) (some Tg.nil) with
              | none => rw [q1, q2] at h; cases h
              | some tr =>
                rw [q1, q2] at h
                cases h
                obtain ⟨p1, p2⟩ := ih2 tr hs2.2 q2
                refine ⟨PGs.of (pgs_cons (ih a ta q1) p1 (by rw [assignEach_cons hs2.1]; rfl)) fun vs σ H Q ⟨n, g, e, te, hh, ts, S', ps, e', tp, hb, hq⟩ => ?_, fun ps e e' hb => ?_⟩
                · cases ps with
                  | nil => simp [bindTs] at hb
                  | cons p ps =>
                    cases tp with
                    | cons tp1 tp2 =>
                      simp only [bindTs] at hb
                      cases q3 : bindT ta p e with
                      | none => rw [q3] at hb; cases hb
                      | some e1 =>
                        rw [q3] at hb
                        refine ⟨_, _, rfl, n, g, e, te, hh, ts, S', p, e1, tp1, q3, fun σ1 S1 h1 => ?_⟩
                        refine ⟨n, g, e1, te, hh, ts, S1, ps, e', tp2, hb, fun σ2 S2 h2 => hq σ2 S2 fun i hi => ?_⟩
                        simp only [tgIs, List.mem_append, not_or] at hi
                        rw [h2 i hi.2, h1 i hi.1]
                · cases ps with
                  | nil => simp [bindTs] at hb
                  | cons p ps =>
                    simp only [bindTs] at hb
                    cases q3 : bindT ta p e with
                    | none => rw [q3] at hb; cases hb
                    | some e1 =>
                      rw [q3] at hb
                      simp [p2 ps e1 e' hb]
        obtain ⟨p1, p2⟩ := key es t' hst' h1
        obtain ⟨a1, a2⟩ := assignEach_plain (env := X.env) hst'
        refine PG.of (pg_tup xg.calm p1 a1 a2) fun v σ H Q ⟨n, g, e, te, hh, ts, S', p, e', tp, hb, hq⟩ => ?_
        cases p with
        | tup ps =>
          simp only [bindT] at hb
          obtain ⟨a, vs, rfl, ht, hl, tl⟩ := (Bd.of tp).tup
          exact ⟨a, vs, rfl, by rw [xg.K]; exact ht, by rw [← tl.length]; exact p2 _ _ _ hb, n, g, e, te, hh, ts, S', ps, e', tl, hb, hq⟩
        | _ => simp [bindT] at hb
      · cases h
    | _ => simp [cTg] at h
end

/-! ### what is walked -/
section
variable {D : Wd} {N : List Str} {sc : Scope} {asg : Str → Bool} {k : Nat} {X : Cx}
theorem pi_stuck {tg it : Expr} : PI X tg it (tI D .stuck) := ⟨fun pins s σ H R I ⟨n, g, e, te, h, ts, S, w⟩ => by simp only [evI] at w; exact w.elim⟩
theorem snd_iseq (ok : XOk D.T N sc k X) {tg it : Expr} {ex : Ex} (h : PE X it (tA D ex)) : PI X tg it (tI D (.iseq ex)) :=
  PI.of (pi_seqA h) fun σ H R ⟨n, g, e, te, hh, ts, S, w⟩ => by
    simp only [evI] at w
    refine ⟨n, g, e, te, hh, ts, S, Wp.bind w fun r e1 h1 g1 H1 x _ E1 S1 r1 w1 => ?_⟩
    cases q : esc r e1 with
    | none => rw [q] at w1; exact w1.elim
    | some z =>
      obtain ⟨p, fr, e2⟩ := z
      rw [q] at w1
      obtain ⟨g2, E2, S2, t⟩ := S1.escF r1 q
      have w2 := w1.mono E2
      simp only at w2
      cases q2 : seqOf h1 p with
      | none => rw [q2] at w2; exact w2.elim
      | some z =>
        obtain ⟨xs, gd⟩ := z
        rw [q2] at w2
        have ls : lstOf h1 p = some (xs, gd) → ∃ a, x = V.ref a ∧ ((∃ xs, SqL X.K H1 a xs ∧ R (Itl X.K a) H1) ∨ ∃ xs, SqT X.K H1 a xs ∧ R (Itt X.K a) H1) := fun q3 => by
          obtain ⟨a, rfl, kp, G⟩ := lst_kept S2.sim t q3
          obtain ⟨vs, e, _, _⟩ := kp g2 H1 (Ext.refl _ _) G
          exact ⟨a, rfl, .inl ⟨vs, by rw [ok.K]; exact e, by rw [ok.K]; exact w2 g2 H1 _ (Ext.refl _ _) S2 (it_kept kp)⟩⟩
        cases p with
        | scr ys =>
          cases q2
          cases t with
          | scr hF he hl r =>
            rename_i a o vs
            exact ⟨a, rfl, .inl ⟨vs, scr_sq ⟨o, he⟩, by rw [ok.K]; exact w2 g2 H1 _ (Ext.refl _ _) S2 (it_kept fun g' H' E _ => ⟨vs, scr_sq ⟨o, (E.H a hF).trans he⟩, hl, r.ext E⟩)⟩⟩
          | scrK he hl r =>
            rename_i a vs
            exact ⟨a, rfl, .inl ⟨vs, by rw [ok.K]; exact .inr he, by rw [ok.K]; exact w2 g2 H1 _ (Ext.refl _ _) S2 (it_kept fun g' H' E _ => ⟨vs, .inr he, hl, r.ext E⟩)⟩⟩
        | tup ys =>
          cases q2
          obtain ⟨a, vs, rfl, r, hl, kp⟩ := tup_keep t
          exact ⟨a, rfl, .inr ⟨vs, by rw [ok.K]; exact kp g2 H1 (Ext.refl _ _), by rw [ok.K]; exact w2 g2 H1 _ (Ext.refl _ _) S2 (it_tup r kp)⟩⟩
        | _ => exact ls q2
theorem small62_b {i : Int} (h : small62 i = true) : -(2 ^ 62) ≤ i ∧ i < 2 ^ 62 := by
  unfold small62 at h
  have := of_decide_eq_true h
  omega
theorem starEach_one {a : Expr} {env : PySem.Env} (h : isStarE a = false) : starEach [a] env = [(false, eval a env)] := starEach_cons h
theorem snd_rng1 {tg a : Expr} {ea : Ex} {p pos : Pos} (hg : Gl X "range") (hm : X.mg "range" = none) (hst : isStarE a = false) (ha : PE X a (tA D ea)) : PI X tg (.Call (.Name "range" p) [a] [] pos) (tI D (.irng1 ea)) :=
  PI.of (pi_range1 hg hm (pa_cons ha pa_nil (starEach_cons hst)) (starEach_one hst)) fun σ H R ⟨n, g, e, te, hh, ts, S, w⟩ => by
    simp only [evI] at w
    refine ⟨n, g, e, te, hh, ts, S, Wp.bind w fun ra e1 h1 g1 H1 x _ E1 S1 r1 w1 => ?_⟩
    obtain ⟨g1', E1', S1', f1⟩ := S1.keep r1
    have w1' := w1.mono E1'
    cases q1 : rd ra e1 h1 with
    | none => rw [q1] at w1'; exact w1'.elim
    | some px =>
      rw [q1] at w1'
      cases px with
      | int j =>
        cases (S1'.rd f1 q1).int
        simp only at w1'
        split at w1'
        · rename_i q2
          obtain ⟨b1, b2⟩ := small62_b q2
          refine ⟨j, rfl, b1, b2, ?_⟩
          have h3 : ItRel D.T g1' H1 (Itr 0 j.toNat) (rngItems 0 j) [] := by
            have := it_rng (T := D.T) (g := g1') (H := H1) 0 j
            rw [Int.sub_zero] at this; exact this
          exact w1' g1' H1 _ (Ext.refl _ _) S1' h3
        · exact w1'.elim
      | _ => exact w1'.elim
theorem snd_rng2 {tg a b : Expr} {ea eb : Ex} {p pos : Pos} (hg : Gl X "range") (hm : X.mg "range" = none) (hst : isStarE a = false) (hst2 : isStarE b = false) (ha : PE X a (tA D ea)) (hb : PE X b (tA D eb)) : PI X tg (.Call (.Name "range" p) [a, b] [] pos) (tI D (.irng2 ea eb)) :=
  PI.of (pi_range2 hg hm (pa_cons ha (pa_cons hb pa_nil (starEach_cons hst2)) (starEach_cons hst)) (by rw [starEach_cons hst, starEach_one hst2]) (starEach_one hst2)) fun σ H R ⟨n, g, e, te, hh, ts, S, w⟩ => by
    simp only [evI] at w
    refine two_parts S w fun ra rb e2 h2 g2 H2 x y S2 f1 f2 w2 => ?_
    cases q1 : rd ra e2 h2 with
    | none => rw [q1] at w2; exact w2.elim
    | some px =>
      cases q2 : rd rb e2 h2 with
      | none => rw [q1, q2] at w2; cases px <;> exact w2.elim
      | some py =>
        rw [q1, q2] at w2
        cases px with
        | int i =>
          cases py with
          | int j =>
            cases (S2.rd f1 q1).int
            cases (S2.rd f2 q2).int
            simp only at w2
            split at w2
            · rename_i q3
              obtain ⟨b1, b2⟩ := small62_b q3.1
              obtain ⟨b3, b4⟩ := small62_b q3.2
              exact ⟨i, j, rfl, ⟨b1, b2, b3, b4⟩, w2 g2 H2 _ (Ext.refl _ _) S2 (it_rng i j)⟩
            · exact w2.elim
          | _ => exact w2.elim
        | _ => exact w2.elim
theorem snd_zip (ok : XOk D.T N sc k X) {a b : Expr} {elts : List Expr} {kk : Nat} {ea eb : Ex} {p pos tpos : Pos} (hg : Gl X "zip") (hm : X.mg "zip" = none) (hst : isStarE a = false) (hst2 : isStarE b = false) (ha : PE X a (tA D ea)) (hb : PE X b (tA D eb)) :
    PI X (.Tuple elts kk tpos) (.Call (.Name "zip" p) [a, b] [] pos) (tI D (.izip ea eb)) :=
  PI.of (RZ.pi_zipA hg hm (pa_cons ha (pa_cons hb pa_nil (starEach_cons hst2)) (starEach_cons hst)) (starEach_cons hst) (by rw [starEach_one hst2]; rfl)) fun σ H R ⟨n, g, e, te, hh, ts, S, w⟩ => by
    simp only [evI] at w
    refine ⟨n, g, e, te, hh, ts, S, Wp.bind w fun ra e1 h1 g1 H1 x _ E1 S1 r1 w1 => ?_⟩
    cases q : esc ra e1 with
    | none => rw [q] at w1; exact w1.elim
    | some z =>
      obtain ⟨p, fr, e2⟩ := z
      rw [q] at w1
      obtain ⟨g2, E2, S2, t1⟩ := S1.escF r1 q
      refine ⟨n, g2, e2, te, h1, ts, S2, Wp.bind (w1.mono E2) fun rb e3 h3 g3 H3 y _ E3 S3 r3 w3 => ?_⟩
      cases q2 : esc rb e3 with
      | none => rw [q2] at w3; exact w3.elim
      | some z =>
        obtain ⟨p', fr', e4⟩ := z
        rw [q2] at w3
        obtain ⟨g4, E4, S4, t2⟩ := S3.escF r3 q2
        have w4 := w3.mono E4
        have t1' := (Tr.ext E3 t1).ext E4
        simp only at w4
        have tcase : ∀ xs ys, p = .tup xs → p' = .tup ys → ∃ a b vs ws, [x, y] = [V.ref a, V.ref b] ∧ ((SqL X.K H3 a vs ∧ SqL X.K H3 b ws ∧ R (Itz X.K a b) H3) ∨ (SqT X.K H3 a vs ∧ SqT X.K H3 b ws ∧ R (RZ.ItzT X.K a b) H3)) := fun xs ys ep ep' => by
          subst ep; subst ep'
          obtain ⟨a, vs, rfl, r, hl, kp⟩ := tup_keep t1'
          obtain ⟨b, ws, rfl, s, hl', kp'⟩ := tup_keep t2
          exact ⟨a, b, vs, ws, rfl, .inr ⟨by rw [ok.K]; exact kp g4 H3 (Ext.refl _ _), by rw [ok.K]; exact kp' g4 H3 (Ext.refl _ _), by rw [ok.K]; exact w4 g4 H3 _ (Ext.refl _ _) S4 (it_zipT r s kp kp')⟩⟩
        have lcase : (Wp D n σ te ts (relI D) (match lstOf h3 p, lstOf h3 p' with | some xs, some ys => Out.ok (zipItems xs.1 ys.1, xs.2 ++ ys.2) e4 h3 | _, _ => Out.stuck) g4 H3 R) → ∃ a b vs ws, [x, y] = [V.ref a, V.ref b] ∧ ((SqL X.K H3 a vs ∧ SqL X.K H3 b ws ∧ R (Itz X.K a b) H3) ∨ (SqT X.K H3 a vs ∧ SqT X.K H3 b ws ∧ R (RZ.ItzT X.K a b) H3)) := fun w5 => by
          cases q5 : lstOf h3 p with
          | none => rw [q5] at w5; exact w5.elim
          | some z1 =>
            cases q6 : lstOf h3 p' with
            | none => rw [q5, q6] at w5; exact w5.elim
            | some z2 =>
              obtain ⟨xs, gd⟩ := z1
              obtain ⟨ys, gd'⟩ := z2
              rw [q5, q6] at w5
              obtain ⟨a, rfl, k1, G1⟩ := lst_kept S4.sim t1' q5
              obtain ⟨b, rfl, k2, G2⟩ := lst_kept S4.sim t2 q6
              obtain ⟨vs, s1, _, _⟩ := k1 g4 H3 (Ext.refl _ _) G1
              obtain ⟨ws, s2, _, _⟩ := k2 g4 H3 (Ext.refl _ _) G2
              exact ⟨a, b, vs, ws, rfl, .inl ⟨by rw [ok.K]; exact s1, by rw [ok.K]; exact s2, by rw [ok.K]; exact w5 g4 H3 _ (Ext.refl _ _) S4 (it_zip (k1.sub fun z hz => List.mem_append_left _ hz) (k2.sub fun z hz => List.mem_append_right _ hz))⟩⟩
        cases p <;> cases p' <;> first | exact tcase _ _ rfl rfl | exact lcase w4
theorem snd_enum (ok : XOk D.T N sc k X) {a : Expr} {elts : List Expr} {kk : Nat} {ea : Ex} {p pos tpos : Pos} (hg : Gl X "enumerate") (hm : X.mg "enumerate" = none) (hst : isStarE a = false) (ha : PE X a (tA D ea)) :
    PI X (.Tuple elts kk tpos) (.Call (.Name "enumerate" p) [a] [] pos) (tI D (.ienum ea)) :=
  PI.of (pi_enumA hg hm (pa_cons ha pa_nil (starEach_cons hst)) (starEach_one hst)) fun σ H R ⟨n, g, e, te, hh, ts, S, w⟩ => by
    simp only [evI] at w
    refine ⟨n, g, e, te, hh, ts, S, Wp.bind w fun ra e1 h1 g1 H1 x _ E1 S1 r1 w1 => ?_⟩
    cases q : esc ra e1 with
    | none => rw [q] at w1; exact w1.elim
    | some z =>
      obtain ⟨p, fr, e2⟩ := z
      rw [q] at w1
      obtain ⟨g2, E2, S2, t1⟩ := S1.escF r1 q
      have w2 := w1.mono E2
      have lcase : (Wp D n σ te ts (relI D) (match lstOf h1 p with | some xs => Out.ok (enumItems xs.1, xs.2) e2 h1 | none => Out.stuck) g2 H1 R) → ∃ a xs, [x] = [V.ref a] ∧ ((SqL X.K H1 a xs ∧ R (Ite X.K a) H1) ∨ (SqT X.K H1 a xs ∧ R (IteT X.K a) H1)) := fun w5 => by
        cases q5 : lstOf h1 p with
        | none => rw [q5] at w5; exact w5.elim
        | some z1 =>
          obtain ⟨xs, gd⟩ := z1
          rw [q5] at w5
          obtain ⟨a, rfl, k1, G1⟩ := lst_kept S2.sim t1 q5
          obtain ⟨vs, s1, _, _⟩ := k1 g2 H1 (Ext.refl _ _) G1
          exact ⟨a, vs, rfl, .inl ⟨by rw [ok.K]; exact s1, by rw [ok.K]; exact w5 g2 H1 _ (Ext.refl _ _) S2 (it_enum k1)⟩⟩
      cases p with
      | tup xs =>
        obtain ⟨a, vs, rfl, r, hl, kp⟩ := tup_keep t1
        exact ⟨a, vs, rfl, .inr ⟨by rw [ok.K]; exact kp g2 H1 (Ext.refl _ _), by rw [ok.K]; exact w2 g2 H1 _ (Ext.refl _ _) S2 (it_enumT r kp)⟩⟩
      | _ => exact lcase w2
/-- the iterable of a loop, of a comprehension -/
theorem snd_it (ok : XOk D.T N sc k X) {S : Sc} (so : ScOk D S) (hs : S.sc = sc) {f : Sc → Expr → Ex} {tg it : Expr} (hf : ∀ e, PE X e (tA D (f S e))) : PI X tg it (tI D (cIt f S it (isTup tg))) := by
  have other : PI X tg it (tI D (.iseq (f S it))) := snd_iseq ok (hf it)
  unfold cIt
  split
  · rename_i x p es kws pos
    split
    · rename_i hc
      simp only [Bool.and_eq_true, List.isEmpty_iff] at hc
      obtain ⟨⟨⟨⟨hg, hk⟩, hfr⟩, hkw⟩, hst⟩ := hc
      subst hkw
      have hg' : Gl X x := glB_gl ok (by rw [← hs]; exact hg)
      have hm : X.mg x = none := by rw [ok.mg]; exact so.free x (by simpa using hfr)
      split
      · rename_i e
        subst e
        split
        · exact snd_rng1 hg' hm (by simpa using hst) (hf _)
        · rename_i a b
          have h2 : isStarE a = false ∧ isStarE b = false := by simpa using hst
          exact snd_rng2 hg' hm h2.1 h2.2 (hf _) (hf _)
        · exact pi_stuck
      split
      · rename_i e
        simp only [Bool.and_eq_true, decide_eq_true_eq] at e
        obtain ⟨e, et⟩ := e
        subst e
        split
        · rename_i a b
          have h2 : isStarE a = false ∧ isStarE b = false := by simpa using hst
          cases tg with
          | Tuple elts kk tpos => exact snd_zip ok hg' hm h2.1 h2.2 (hf _) (hf _)
          | _ => simp [isTup] at et
        · exact pi_stuck
      split
      · rename_i e
        simp only [Bool.and_eq_true, decide_eq_true_eq] at e
        obtain ⟨e, et⟩ := e
        subst e
        split
        · cases tg with
          | Tuple elts kk tpos => exact snd_enum ok hg' hm (by simpa using hst) (hf _)
          | _ => simp [isTup] at et
        · exact pi_stuck
      · exact other
    · exact other
  · exact pi_stuck
  · exact other
end
end PL

/-! Comprehensions. -/
namespace PL
open PySem PySem.Spec PyProof.Rows L2

/-- the same walk, no error wished for -/
abbrev Wd.calm (D : Wd) : Wd := { D with W := fun _ _ _ _ => False }
theorem SimT.toCalm {D : Wd} {n : En} {σ : List (Option V)} {e te : Env} {h : Hs} {ts : List (Option V)} {g : Gh} {H : Hp} (S : SimT D.T n g e te h σ ts H) : SimT D.calm.T n g e te h σ ts H := S

theorem Wp.ok {D : Wd} {α β : Type} {n : En} {σ : List (Option V)} {te : Env} {ts : List (Option V)} {rel : Gh → Hp → Env → α → β → Prop} {o : Out α} {r : α} {e : Env} {h : Hs} {g : Gh} {H : Hp} {Q : β → Hp → Prop} (q : o = .ok r e h)
    (k : ∀ g' H' w, Ext g H g' H' → SimT D.T n g' e te h σ ts H' → rel g' H' e r w → Q w H') : Wp D n σ te ts rel o g H Q := by
  subst q; exact k
theorem bind_ok {α β : Type} {o : Out α} {f : α → Env → Hs → Out β} {r : β} {e : Env} {h : Hs} (q : o.bind f = .ok r e h) : ∃ a e1 h1, o = .ok a e1 h1 ∧ f a e1 h1 = .ok r e h := by
  cases o with
  | ok a e1 h1 => exact ⟨a, e1, h1, rfl, q⟩
  | exc c fs e1 h1 => cases q
  | stuck => cases q
/-- one turn of a comprehension's loop -/
def lcStep (C : Calls) (tg : Tg) (ifs body : Ex) (vs : List Nat) : PV → Env → Hs → Out (List PV) := fun x e h => match bindT tg x (wipeE vs e) with
  | some e' => (evT C ifs e' h).bind fun k e2 h2 => if k = true then evM C body e2 h2 else .ok [] e2 h2
  | none => .stuck
theorem evM_lcin {C : Calls} {tg : Tg} {it ifs body : Ex} {e : Env} {h : Hs} : evM C (.lcin tg it ifs body) e h = (evI C it e h).bind fun xs e1 h1 => lcLoop xs.2 (lcStep C tg ifs body (tgIs tg)) xs.1 e1 h1 := by
  simp only [evM]; rfl
theorem lcStep_ok {C : Calls} {tg : Tg} {ifs body : Ex} {vs : List Nat} {x : PV} {e e1 : Env} {h h1 : Hs} {r : List PV} (q : lcStep C tg ifs body vs x e h = .ok r e1 h1) :
    ∃ e' b e2 h2, bindT tg x (wipeE vs e) = some e' ∧ evT C ifs e' h = .ok b e2 h2 ∧ (if b = true then evM C body e2 h2 else .ok [] e2 h2) = .ok r e1 h1 := by
  unfold lcStep at q
  cases q1 : bindT tg x (wipeE vs e) with
  | none => rw [q1] at q; cases q
  | some e' =>
    rw [q1] at q
    obtain ⟨b, e2, h2, q2, q3⟩ := bind_ok q
    exact ⟨e', b, e2, h2, rfl, q2, q3⟩
theorem lcLoop_gd {gd : Gd} {f : PV → Env → Hs → Out (List PV)} {xs ps : List PV} {e eF : Env} {h hF : Hs} (q : lcLoop gd f xs e h = .ok ps eF hF) : gdOk gd h = true := by
  cases xs <;> unfold lcLoop at q <;> split at q <;> first | assumption | cases q
theorem lcLoop_cons {gd : Gd} {f : PV → Env → Hs → Out (List PV)} {x : PV} {xs ps : List PV} {e eF : Env} {h hF : Hs} (q : lcLoop gd f (x :: xs) e h = .ok ps eF hF) : ∃ r e1 h1 rs, f x e h = .ok r e1 h1 ∧ lcLoop gd f xs e1 h1 = .ok rs eF hF ∧ ps = r ++ rs := by
  have hg := lcLoop_gd q
  unfold lcLoop at q
  rw [if_pos hg] at q
  obtain ⟨r, e1, h1, q1, q2⟩ := bind_ok q
  obtain ⟨rs, e2, h2, q3, q4⟩ := bind_ok q2
  cases q4
  exact ⟨r, e1, h1, rs, q1, q3, rfl⟩
theorem lcLoop_nil {gd : Gd} {f : PV → Env → Hs → Out (List PV)} {ps : List PV} {e eF : Env} {h hF : Hs} (q : lcLoop gd f [] e h = .ok ps eF hF) : ps = [] ∧ eF = e ∧ hF = h := by
  have hg := lcLoop_gd q
  unfold lcLoop at q
  rw [if_pos hg] at q
  cases q
  exact ⟨rfl, rfl, rfl⟩
theorem drop_cons {α : Type} {xs : List α} {i : Nat} (h : i < xs.length) : xs.drop i = xs[i] :: xs.drop (i + 1) := List.drop_eq_getElem_cons h

/-! slots of blocks -/
theorem wipe_ext {σ σ' : L2.St} {vs : List Nat} (hl : σ'.length = σ.length) (h : ∀ i, i ∉ vs → σ'[i]? = σ[i]?) : wipe σ' vs = wipe σ vs := by
  refine List.ext_getElem? fun i => ?_
  rw [wipe_get, wipe_get]
  by_cases hv : i ∈ vs
  · rw [if_pos hv, if_pos hv]
    by_cases hlt : i < σ.length
    · rw [List.getElem?_eq_getElem hlt, List.getElem?_eq_getElem (by omega)]; rfl
    · rw [List.getElem?_eq_none (by omega), List.getElem?_eq_none (by omega)]
  · rw [if_neg hv, if_neg hv]; exact h i hv
theorem wipe_sub {σ : L2.St} {vs ws : List Nat} (h : ∀ i ∈ ws, i ∈ vs) : wipe (wipe σ ws) vs = wipe σ vs :=
  wipe_ext (wipe_length σ ws) fun i hi => by rw [wipe_get, if_neg fun x => hi (h i x)]
theorem wipeE_sub {e : Env} {vs ws : List Nat} (h : ∀ i ∈ ws, i ∈ vs) : wipeE vs (wipeE ws e) = wipeE vs e := by
  refine List.ext_getElem? fun i => ?_
  rw [wipeE_get, wipeE_get, wipeE_get]
  by_cases hv : i ∈ vs
  · rw [if_pos hv, if_pos hv]
    split
    · cases e[i]? <;> rfl
    · rfl
  · rw [if_neg hv, if_neg hv, if_neg fun x => hv (h i x)]

mutual
theorem bindT_len {x : PV} {e e' : Env} : ∀ {t : Tg}, bindT t x e = some e' → e'.length = e.length
  | .nm i, h => by
    simp only [bindT] at h
    split at h
    · cases h; simp
    · cases h
  | .tp t, h => by
    cases x <;> simp only [bindT] at h <;> first | (cases h; done) | exact bindTs_len' h
  | .nil, h => by simp [bindT] at h
  | .cons t ts, h => by simp [bindT] at h
theorem bindTs_len' {xs : List PV} {e e' : Env} : ∀ {t : Tg}, bindTs t xs e = some e' → e'.length = e.length
  | .nil, h => by
    cases xs <;> simp only [bindTs] at h
    · cases h; rfl
    · cases h
  | .cons t ts, h => by
    cases xs with
    | nil => simp [bindTs] at h
    | cons x xs =>
      simp only [bindTs, Option.bind_eq_some_iff] at h
      obtain ⟨e1, h1, h2⟩ := h
      rw [bindTs_len' h2, bindT_len h1]
  | .nm i, h => by cases xs <;> simp [bindTs] at h
  | .tp t, h => by cases xs <;> simp [bindTs] at h
end
theorem apart_back {σ : L2.St} {e e0 te : Env} {ts : List (Option V)} {vs : List Nat} {a : Addr} (le : e.length = σ.length) (le0 : e0.length = σ.length) (hno : ∀ i p, i ∈ vs → e0[i]? ≠ some (.own p)) (ap : Apart (wipeE vs e ++ te) (L2.wipe σ vs ++ ts) a) : Apart (backE vs e0 e ++ te) (σ ++ ts) a := by
  intro i q hi hw
  by_cases hlt : i < e.length
  · rw [List.getElem?_append_left (by rw [backE_len]; exact hlt), backE_get] at hi
    rw [List.getElem?_append_left (by rw [← le]; exact hlt)] at hw
    by_cases hv : i ∈ vs
    · rw [if_pos hv, List.getElem?_eq_getElem hlt] at hi
      have hs : SV.own q = e0.getD i .no := by simpa using hi.symm
      have hlt0 : i < e0.length := by omega
      exact hno i q hv (by rw [hs, List.getD_eq_getElem?_getD, List.getElem?_eq_getElem hlt0]; rfl)
    · rw [if_neg hv] at hi
      refine ap i q ?_ ?_
      · rw [List.getElem?_append_left (by rw [wipeE_len]; exact hlt), wipeE_get, if_neg hv]; exact hi
      · rw [List.getElem?_append_left (by rw [wipe_length, ← le]; exact hlt), wipe_get, if_neg hv]; exact hw
  · rw [List.getElem?_append_right (by rw [backE_len]; omega), backE_len] at hi
    rw [List.getElem?_append_right (by omega)] at hw
    refine ap i q ?_ ?_
    · rw [List.getElem?_append_right (by rw [wipeE_len]; omega), wipeE_len]; exact hi
    · rw [List.getElem?_append_right (by rw [wipe_length]; omega), wipe_length]; exact hw

section
variable {D : Wd} {n : En}
/-- the block's slots are put back -/
theorem SimT.back {g0 g : Gh} {σ : L2.St} {e0 e te : Env} {h0 h : Hs} {ts : List (Option V)} {H0 H : Hp} {vs : List Nat} (S0 : SimT D.T n g0 e0 te h0 σ ts H0) (hno : ∀ i p, i ∈ vs → e0[i]? ≠ some (.own p)) (E : Ext g0 H0 g H) (S : SimT D.T n g (wipeE vs e) te h (L2.wipe σ vs) ts H) :
    SimT D.T n g (backE vs e0 e) te h σ ts H := by
  have le : e.length = σ.length := by have := S.l1; rw [wipeE_len, wipe_length] at this; exact this
  have l1 : (backE vs e0 e).length = σ.length := by rw [backE_len]; exact le
  refine ⟨l1, S.l2, S.sim.re (by rw [List.length_append, List.length_append, l1, S.l2]) fun i s hi => ?_⟩
  by_cases hlt : i < e.length
  · rw [List.getElem?_append_left (by rw [backE_len]; exact hlt), backE_get] at hi
    have hσ : (σ ++ ts)[i]? = σ[i]? := List.getElem?_append_left (by rw [← le]; exact hlt)
    by_cases hv : i ∈ vs
    · rw [if_pos hv, List.getElem?_eq_getElem hlt] at hi
      have hs : s = e0.getD i .no := by simpa using hi.symm
      have hlt0 : i < e0.length := by rw [S0.l1, ← le]; exact hlt
      have h0 : e0[i]? = some s := by rw [hs, List.getD_eq_getElem?_getD, List.getElem?_eq_getElem hlt0]; rfl
      cases s with
      | no => exact .inl rfl
      | own p => exact absurd h0 (hno i p hv)
      | val p =>
        obtain ⟨w, e1, t⟩ := S0.sim.sl i _ (by rw [List.getElem?_append_left hlt0]; exact h0)
        exact .inr (.inl ⟨p, w, rfl, e1, t.ext E⟩)
    · rw [if_neg hv] at hi
      refine .inr (.inr ⟨?_, ?_⟩)
      · rw [List.getElem?_append_left (by rw [wipeE_len]; exact hlt), wipeE_get, if_neg hv]; exact hi
      · rw [hσ, List.getElem?_append_left (by rw [wipe_length, ← le]; exact hlt), wipe_get, if_neg hv]
  · rw [List.getElem?_append_right (by rw [backE_len]; omega), backE_len] at hi
    refine .inr (.inr ⟨?_, ?_⟩)
    · rw [List.getElem?_append_right (by rw [wipeE_len]; omega), wipeE_len]; exact hi
    · rw [List.getElem?_append_right (by rw [← le]; omega), List.getElem?_append_right (by rw [wipe_length, ← le]; omega), wipe_length]
theorem SimT.grow {g : Gh} {σ : L2.St} {e te : Env} {h : Hs} {ts : List (Option V)} {H H' : Hp} (S : SimT D.T n g e te h σ ts H) {D' : Addr → Prop} (hg : ∀ a, H a ≠ none → H' a = H a) (hD : ∀ a, D' a → H a = none ∧ H' a ≠ none) : Ext g H (gF g D') H' ∧ SimT D.T n (gF g D') e te h σ ts H' := by
  obtain ⟨E, S'⟩ := S.sim.grow hg hD
  exact ⟨E, S.l1, S.l2, S'⟩
/-- one element is reckoned and appended -/
theorem elt_step {g : Gh} {σ : L2.St} {e te e' : Env} {h h' : Hs} {ts : List (Option V)} {H : Hp} {ex : Ex} {acc r : List PV} {Da : Addr} {Nx : Hp → Prop} (S : SimT D.T n g e (te ++ [.own (.lst acc)]) h σ (ts ++ [some (.ref Da)]) H)
    (q : evM D.C (.one ex) e h = .ok r e' h') (hl : acc.length + 1 ≤ line)
    (k : ∀ g' H', Ext g H g' H' → SimT D.T n g' e' (te ++ [.own (.lst (acc ++ r))]) h' σ (ts ++ [some (.ref Da)]) H' → Nx H') :
    r.length = 1 ∧ tA D.calm ex σ H fun y H4 => ∃ ac, H4 Da = some (.lst ac) ∧ ac.length < sizeLine ∧ Nx (upd H4 Da (.lst (ac ++ [y]))) := by
  simp only [evM] at q
  obtain ⟨rr, e1, h1, q1, q2⟩ := bind_ok q
  cases q3 : esc rr e1 with
  | none => rw [q3] at q2; cases q2
  | some z =>
    obtain ⟨p, fr, e2⟩ := z
    rw [q3] at q2
    cases q2
    refine ⟨rfl, n, g, e, te ++ [.own (.lst acc)], h, ts ++ [some (.ref Da)], S, Wp.ok q1 fun g1 H1 y E1 S1 r1 => ?_⟩
    have S1' : SimT D.T n g1 e1 (te ++ [.own (.lst acc)]) h' σ (ts ++ [some (.ref Da)]) H1 := S1
    obtain ⟨g2, E2, S2, t⟩ := S1'.escF r1 q3
    obtain ⟨a, ea, o, _⟩ := S2.top
    cases ea
    obtain ⟨ac, h4, h5, h6⟩ := o.at_
    have hlen : ac.length + 1 ≤ sizeLine := by rw [← h6.length, ← line_eq]; exact hl
    refine ⟨ac, h4, hlen, ?_⟩
    obtain ⟨E3, S3⟩ := S2.app (vs := ac ++ [y]) (by rw [List.length_append]; exact hlen) (h6.append (.cons t .nil))
    exact k g2 _ ((E1.trans E2).trans E3) S3
end

/-! ### the block's context -/
section
variable {D : Wd} {N : List Str} {sc : Scope} {asg : Str → Bool} {k : Nat} {X : Cx}
theorem XG.blk (xg : XG D N sc asg k X) (scope : Scope) {s : Shared} {H : Hp} {C : Addr} {cl : List (Str × Addr)} {fp : List Addr} :
    XG D.calm N (relS scope sc) (fun x => scope.names.lookup x == some .cell || scope.names.lookup x == some .local) k (X.blk s H scope (compEnvC scope cl C X.env) fp) where
  P := xg.P
  w := xg.w
  K := xg.K
  mg := xg.mg
  base := xg.base
  hN := xg.hN
  hsc := by show relS scope X.env.scope = relS scope sc; rw [xg.hsc]
  calm := xg.calm
  nd := xg.nd
  hr := xg.hr
  tk := takes_none5
  po := PassesOwn.never
  fn := fun x hx => by
    simp only [Bool.or_eq_true, beq_iff_eq] at hx
    rcases hx with hx | hx
    · exact .inl (by show (scope.names.lookup x == some .cell) = true; rw [hx]; rfl)
    · exact .inr (lookup_relS_keep (sc := X.env.scope) (by simp) hx)
theorem ScOk.blk {S : Sc} (so : ScOk D S) (scope : Scope) : ScOk D.calm (inBlk S scope) := ⟨so.defs, so.fnA, so.mgd, so.free⟩
theorem snd_ifs {S : Sc} {f : Sc → Expr → Ex} {ifs : List Expr} (hf : ∀ e, PT X e (tT D (f S e))) : PTs X ifs (tT D (cIfs f S ifs)) := by
  unfold cIfs
  split
  · exact ⟨fun pins s σ H Q I ⟨n, g, e, te, h, ts, S', w⟩ => by
      simp only [evT] at w
      exact pts_nil.run pins s σ H Q I (w g H true (Ext.refl _ _) S' rfl)⟩
  · exact pts_one (hf _)
  · exact ⟨fun pins s σ H Q I ⟨n, g, e, te, h, ts, S', w⟩ => by simp only [evT, evA, Out.bind] at w; exact w.elim⟩
theorem foldSet {it : Expr} (h : isSetE it = false) (env : PySem.Env) (x : Value) : foldedSetIterable it env x = pure x := by
  cases it <;> first | rfl | (simp [isSetE] at h)

/-- the loop's invariant -/
def LcInv (D : Wd) (n : En) (σ : L2.St) (te : Env) (ts : List (Option V)) (vs : List Nat) (gd : Gd) (f : PV → Env → Hs → Out (List PV)) (xs ps : List PV) (eF : Env) (hF : Hs) (Da : Addr) (g0 : Gh) (H0 : Hp) (i m : Nat) (H : Hp) : Prop :=
  m = xs.length - i ∧ ∃ g e h acc rest, Ext g0 H0 g H ∧ SimT D.T n g (wipeE vs e) (te ++ [.own (.lst acc)]) h (L2.wipe σ vs) (ts ++ [some (.ref Da)]) H ∧ lcLoop gd f (xs.drop i) e h = .ok rest eF hF ∧ acc ++ rest = ps
def LcInv2 (D : Wd) (n : En) (σ : L2.St) (te : Env) (ts : List (Option V)) (vs : List Nat) (gd : Gd) (f : PV → Env → Hs → Out (List PV)) (xs ps : List PV) (eF : Env) (hF : Hs) (Da : Addr) (g0 : Gh) (H0 : Hp) (ac0 : List PV) (i m : Nat) (H : Hp) : Prop :=
  m = xs.length - i ∧ ∃ g e h acc rest, Ext g0 H0 g H ∧ SimT D.T n g (wipeE vs e) (te ++ [.own (.lst (ac0 ++ acc))]) h (L2.wipe σ vs) (ts ++ [some (.ref Da)]) H ∧ lcLoop gd f (xs.drop i) e h = .ok rest eF hF ∧ acc ++ rest = ps
theorem imp_lc1 {t : Tg} {eit eifs eelt : Ex} {vs : List Nat} (hsub : ∀ i ∈ tgIs t, i ∈ vs) {σ : L2.St} {H : Hp} {Q : VK} : tA D (.lc vs t eit eifs (.one eelt)) σ H Q → tLc (tI D eit) (tG D.calm t) (tT D.calm eifs) (tA D.calm eelt) vs σ H Q := by
  rintro ⟨n, g, e, te, h, ts, S, w⟩
  simp only [evA] at w
  refine ⟨n, g, e, te, h, ts, S, Wp.bind w fun z e1 h1 g1 H1 J _ E1 S1 rJ w1 => ?_⟩
  obtain ⟨xs, gd⟩ := z
  replace rJ : ItRel D.T g1 H1 J xs gd := rJ
  intro Da hDa
  change Wp D n σ te ts (relA D n σ te ts) (match (lcLoop gd (lcStep D.C t eifs (.one eelt) vs) xs (frzAt vs e1) h1).noex with
      | .ok ps e2 h2 => if ps.length ≤ line then .ok (.v (.lst ps) true) (backE vs (frzAt vs e1) e2) h2 else .stuck
      | _ => .stuck) g1 H1 Q at w1
  cases qL : lcLoop gd (lcStep D.C t eifs (.one eelt) vs) xs (frzAt vs e1) h1 with
  | stuck => rw [qL] at w1; exact w1.elim
  | exc c fs e2 h2 => rw [qL] at w1; exact w1.elim
  | ok ps eF hF =>
    rw [qL] at w1
    simp only [Out.noex] at w1
    split at w1
    · rename_i hlen
      obtain ⟨g2, E2, S2⟩ := S1.frzAt vs
      have hno : ∀ i p, i ∈ vs → (frzAt vs e1)[i]? ≠ some (.own p) := fun i p hi => frzAt_in e1 vs i p hi
      obtain ⟨g3, E3, S3, r3⟩ := S2.made (z := .lst []) (fr := true) (w := .ref Da) (mk_lst hDa (Nat.zero_le _) .nil)
      obtain ⟨a3, ea, o3, ap3⟩ := r3
      cases ea
      have S3p := S3.push o3 ap3
      refine ⟨LcInv D n σ te ts vs gd (lcStep D.C t eifs (.one eelt) vs) xs ps eF hF Da g3 (upd H1 Da (.lst [])), ⟨xs.length, rfl, g3, frzAt vs e1, h1, [], ps, Ext.refl _ _, S3p.wipe vs, qL, rfl⟩, ?_⟩
      rintro i m H4 ⟨hm, g4, e4, h4, acc, rest, E4, S4, q4, hacc⟩
      have E14 : Ext g1 H1 g4 H4 := (E2.trans E3).trans E4
      have G4 := gd_of S4.sim (lcLoop_gd q4)
      by_cases hlt : i < xs.length
      · refine .inr ⟨((rJ g4 H4 E14 S4.sim.fin G4 i).1 xs[i] (List.getElem?_eq_getElem hlt)).1, LcInv D n σ te ts vs gd (lcStep D.C t eifs (.one eelt) vs) xs ps eF hF Da g3 (upd H1 Da (.lst [])) (i + 1) (xs.length - (i + 1)), fun H' hN => ⟨_, by omega, hN⟩, ?_⟩
        intro x H5 hy
        obtain ⟨Dn, k1, k2, tx⟩ := ((rJ g4 H4 E14 S4.sim.fin G4 i).1 xs[i] (List.getElem?_eq_getElem hlt)).2 x H5 hy
        obtain ⟨E5, S5⟩ := S4.grow k1 k2
        rw [drop_cons hlt] at q4
        obtain ⟨r, e6, h6, rs, q6, q7, hr⟩ := lcLoop_cons q4
        obtain ⟨e', b, e7, h7, q8, q9, q10⟩ := lcStep_ok q6
        refine ⟨n, _, wipeE vs e4, te ++ [.own (.lst acc)], h4, ts ++ [some (.ref Da)], S5, xs[i], e', tx, q8, fun σ' S6 hσ' => ?_⟩
        have hw : wipe σ' vs = wipe σ vs := by
          have hl : σ'.length = (L2.wipe σ vs).length := by
            have a := S6.l1
            have b := S5.l1
            have c : e'.length = (wipeE vs e4).length := bindT_len q8
            omega
          rw [wipe_ext hl fun i hi => hσ' i fun x => hi (hsub i x), wipe_sub fun i hi => hi]
        refine ⟨hw, n, _, e', te ++ [.own (.lst acc)], h4, ts ++ [some (.ref Da)], S6, Wp.ok q9 fun g8 H8 b' E8 S8 hb' => ?_⟩
        have hb'' : b = b' := hb'
        subst hb''
        have fin : ∀ g9 H9 acc', Ext g8 H8 g9 H9 → SimT D.T n g9 e6 (te ++ [.own (.lst acc')]) h6 σ' (ts ++ [some (.ref Da)]) H9 → acc' = acc ++ r → LcInv D n σ te ts vs gd (lcStep D.C t eifs (.one eelt) vs) xs ps eF hF Da g3 (upd H1 Da (.lst [])) (i + 1) (xs.length - (i + 1)) H9 := by
          intro g9 H9 acc' E9 S9 ha
          refine ⟨rfl, g9, e6, h6, acc', rs, ((E4.trans E5).trans E8).trans E9, ?_, q7, by rw [ha, ← hacc, hr, List.append_assoc]⟩
          rw [← hw]
          exact S9.wipe vs
        cases b with
        | false =>
          rw [if_neg Bool.false_ne_true] at q10 ⊢
          cases q10
          exact fin g8 H8 acc (Ext.refl _ _) S8 (by simp)
        | true =>
          rw [if_pos rfl] at q10 ⊢
          have hr1 : acc.length + r.length + rs.length ≤ line := by
            rw [← hacc, hr, List.length_append, List.length_append] at hlen
            omega
          have hr0 : r.length = 1 := by
            simp only [evM] at q10
            obtain ⟨rr, e1, h1, q1, q2⟩ := bind_ok q10
            cases q3 : esc rr e1 with
            | none => rw [q3] at q2; cases q2
            | some z => rw [q3] at q2; cases q2; rfl
          exact (elt_step (D := D) S8 q10 (by omega) fun g9 H9 E9 S9 => fin g9 H9 _ E9 S9 rfl).2
      · refine .inl ⟨(rJ g4 H4 E14 S4.sim.fin G4 i).2 (by omega), ?_⟩
        rw [List.drop_eq_nil_of_le (by omega)] at q4
        obtain ⟨rfl, rfl, rfl⟩ := lcLoop_nil q4
        rw [List.append_nil] at hacc
        subst hacc
        obtain ⟨a4, ea, o4, ap4⟩ := S4.top
        cases ea
        have S4' := S4.pop
        have E24 : Ext g2 H1 g4 H4 := E3.trans E4
        have Sb := SimT.back S2 hno E24 S4'
        have le : eF.length = σ.length := by have := S4'.l1; rw [wipeE_len, wipe_length] at this; exact this
        exact w1 g4 H4 (.ref Da) E14 Sb ⟨Da, rfl, o4, apart_back le S2.l1 hno ap4⟩
    · exact w1.elim
theorem imp_lc2 {t t1 : Tg} {eit eifs eit1 eifs1 eelt : Ex} {vs : List Nat} (hsub : ∀ i ∈ tgIs t, i ∈ vs) (hsub1 : ∀ i ∈ tgIs t1, i ∈ vs) {σ : L2.St} {H : Hp} {Q : VK} : tA D (.lc vs t eit eifs (.lcin t1 eit1 eifs1 (.one eelt))) σ H Q → tLc2 (tI D eit) (tG D.calm t) (tT D.calm eifs) (tI D.calm eit1) (tG D.calm t1) (tT D.calm eifs1) (tA D.calm eelt) vs (tgIs t1) σ H Q := by
  rintro ⟨n, g, e, te, h, ts, S, w⟩
  simp only [evA] at w
  refine ⟨n, g, e, te, h, ts, S, Wp.bind w fun z e1 h1 g1 H1 J _ E1 S1 rJ w1 => ?_⟩
  obtain ⟨xs, gd⟩ := z
  replace rJ : ItRel D.T g1 H1 J xs gd := rJ
  intro Da hDa
  change Wp D n σ te ts (relA D n σ te ts) (match (lcLoop gd (lcStep D.C t eifs (.lcin t1 eit1 eifs1 (.one eelt)) vs) xs (frzAt vs e1) h1).noex with
      | .ok ps e2 h2 => if ps.length ≤ line then .ok (.v (.lst ps) true) (backE vs (frzAt vs e1) e2) h2 else .stuck
      | _ => .stuck) g1 H1 Q at w1
  cases qL : lcLoop gd (lcStep D.C t eifs (.lcin t1 eit1 eifs1 (.one eelt)) vs) xs (frzAt vs e1) h1 with
  | stuck => rw [qL] at w1; exact w1.elim
  | exc c fs e2 h2 => rw [qL] at w1; exact w1.elim
  | ok ps eF hF =>
    rw [qL] at w1
    simp only [Out.noex] at w1
    split at w1
    · rename_i hlen
      obtain ⟨g2, E2, S2⟩ := S1.frzAt vs
      have hno : ∀ i p, i ∈ vs → (frzAt vs e1)[i]? ≠ some (.own p) := fun i p hi => frzAt_in e1 vs i p hi
      obtain ⟨g3, E3, S3, r3⟩ := S2.made (z := .lst []) (fr := true) (w := .ref Da) (mk_lst hDa (Nat.zero_le _) .nil)
      obtain ⟨a3, ea, o3, ap3⟩ := r3
      cases ea
      have S3p := S3.push o3 ap3
      refine ⟨LcInv D n σ te ts vs gd (lcStep D.C t eifs (.lcin t1 eit1 eifs1 (.one eelt)) vs) xs ps eF hF Da g3 (upd H1 Da (.lst [])), ⟨xs.length, rfl, g3, frzAt vs e1, h1, [], ps, Ext.refl _ _, S3p.wipe vs, qL, rfl⟩, ?_⟩
      rintro i m H4 ⟨hm, g4, e4, h4, acc, rest, E4, S4, q4, hacc⟩
      have E14 : Ext g1 H1 g4 H4 := (E2.trans E3).trans E4
      have G4 := gd_of S4.sim (lcLoop_gd q4)
      by_cases hlt : i < xs.length
      · refine .inr ⟨((rJ g4 H4 E14 S4.sim.fin G4 i).1 xs[i] (List.getElem?_eq_getElem hlt)).1, LcInv D n σ te ts vs gd (lcStep D.C t eifs (.lcin t1 eit1 eifs1 (.one eelt)) vs) xs ps eF hF Da g3 (upd H1 Da (.lst [])) (i + 1) (xs.length - (i + 1)), fun H' hN => ⟨_, by omega, hN⟩, ?_⟩
        intro x H5 hy
        obtain ⟨Dn, k1, k2, tx⟩ := ((rJ g4 H4 E14 S4.sim.fin G4 i).1 xs[i] (List.getElem?_eq_getElem hlt)).2 x H5 hy
        obtain ⟨E5, S5⟩ := S4.grow k1 k2
        rw [drop_cons hlt] at q4
        obtain ⟨r, e6, h6, rs, q6, q7, hr⟩ := lcLoop_cons q4
        obtain ⟨e', b, e7, h7, q8, q9, q10⟩ := lcStep_ok q6
        refine ⟨n, _, wipeE vs e4, te ++ [.own (.lst acc)], h4, ts ++ [some (.ref Da)], S5, xs[i], e', tx, q8, fun σ' S6 hσ' => ?_⟩
        have hw : wipe σ' vs = wipe σ vs := by
          have hl : σ'.length = (L2.wipe σ vs).length := by
            have a := S6.l1
            have b := S5.l1
            have c : e'.length = (wipeE vs e4).length := bindT_len q8
            omega
          rw [wipe_ext hl fun i hi => hσ' i fun x => hi (hsub i x), wipe_sub fun i hi => hi]
        refine ⟨hw, n, _, e', te ++ [.own (.lst acc)], h4, ts ++ [some (.ref Da)], S6, Wp.ok q9 fun g8 H8 b' E8 S8 hb' => ?_⟩
        have hb'' : b = b' := hb'
        subst hb''
        have fin : ∀ g9 H9 acc', Ext g8 H8 g9 H9 → SimT D.T n g9 e6 (te ++ [.own (.lst acc')]) h6 σ' (ts ++ [some (.ref Da)]) H9 → acc' = acc ++ r → LcInv D n σ te ts vs gd (lcStep D.C t eifs (.lcin t1 eit1 eifs1 (.one eelt)) vs) xs ps eF hF Da g3 (upd H1 Da (.lst [])) (i + 1) (xs.length - (i + 1)) H9 := by
          intro g9 H9 acc' E9 S9 ha
          refine ⟨rfl, g9, e6, h6, acc', rs, ((E4.trans E5).trans E8).trans E9, ?_, q7, by rw [ha, ← hacc, hr, List.append_assoc]⟩
          rw [← hw]
          exact S9.wipe vs
        cases b with
        | false =>
          rw [if_neg Bool.false_ne_true] at q10 ⊢
          cases q10
          exact fin g8 H8 acc (Ext.refl _ _) S8 (by simp)
        | true =>
          rw [if_pos rfl] at q10 ⊢
          have hr1 : acc.length + r.length + rs.length ≤ line := by
            rw [← hacc, hr, List.length_append, List.length_append] at hlen
            omega
          rw [evM_lcin] at q10
          obtain ⟨z1, e9, h9, q11, q12⟩ := bind_ok q10
          obtain ⟨xs1, gd1⟩ := z1
          refine ⟨n, g8, e7, te ++ [.own (.lst acc)], h7, ts ++ [some (.ref Da)], S8, Wp.ok q11 fun g9 H9 J1 E9 S9 rJ1 => ?_⟩
          replace rJ1 : ItRel D.T g9 H9 J1 xs1 gd1 := rJ1
          replace q12 : lcLoop gd1 (lcStep D.C t1 eifs1 (.one eelt) (tgIs t1)) xs1 e9 h9 = .ok r e6 h6 := q12
          refine ⟨LcInv2 D n σ' te ts (tgIs t1) gd1 (lcStep D.C t1 eifs1 (.one eelt) (tgIs t1)) xs1 r e6 h6 Da g9 H9 acc, ⟨xs1.length, rfl, g9, e9, h9, [], r, Ext.refl _ _, by simpa using S9.wipe (tgIs t1), q12, rfl⟩, ?_⟩
          rintro j k H10 ⟨hk, ga, ea, ha, acc1, rest1, Ea, Sa, qa, hacc1⟩
          have Ga := gd_of Sa.sim (lcLoop_gd qa)
          by_cases hlt1 : j < xs1.length
          · refine .inr ⟨((rJ1 ga H10 Ea Sa.sim.fin Ga j).1 xs1[j] (List.getElem?_eq_getElem hlt1)).1, LcInv2 D n σ' te ts (tgIs t1) gd1 (lcStep D.C t1 eifs1 (.one eelt) (tgIs t1)) xs1 r e6 h6 Da g9 H9 acc (j + 1) (xs1.length - (j + 1)), fun H' hN => ⟨_, by omega, hN⟩, ?_⟩
            intro x1 H11 hy1
            obtain ⟨Dn1, k11, k12, tx1⟩ := ((rJ1 ga H10 Ea Sa.sim.fin Ga j).1 xs1[j] (List.getElem?_eq_getElem hlt1)).2 x1 H11 hy1
            obtain ⟨Eb, Sb⟩ := Sa.grow k11 k12
            rw [drop_cons hlt1] at qa
            obtain ⟨r1, e12, h12, rs1, qb, qc, hr1'⟩ := lcLoop_cons qa
            obtain ⟨e1', b1, e13, h13, qd, qe, qf⟩ := lcStep_ok qb
            refine ⟨n, _, wipeE (tgIs t1) ea, te ++ [.own (.lst (acc ++ acc1))], ha, ts ++ [some (.ref Da)], Sb, xs1[j], e1', tx1, qd, fun σ3 Sc hσ3 => ?_⟩
            have hw1 : L2.wipe σ3 (tgIs t1) = L2.wipe σ' (tgIs t1) := by
              have hl : σ3.length = (L2.wipe σ' (tgIs t1)).length := by
                have a := Sc.l1
                have b := Sb.l1
                have c : e1'.length = (wipeE (tgIs t1) ea).length := bindT_len qd
                omega
              rw [wipe_ext hl fun i hi => hσ3 i hi, wipe_sub fun i hi => hi]
            refine ⟨hw1, n, _, e1', te ++ [.own (.lst (acc ++ acc1))], ha, ts ++ [some (.ref Da)], Sc, Wp.ok qe fun gd Hd b1' Ed Sd hb1 => ?_⟩
            have hb1' : b1 = b1' := hb1
            subst hb1'
            have fin1 : ∀ g9' H9' acc', Ext gd Hd g9' H9' → SimT D.T n g9' e12 (te ++ [.own (.lst acc')]) h12 σ3 (ts ++ [some (.ref Da)]) H9' → acc' = acc ++ acc1 ++ r1 → LcInv2 D n σ' te ts (tgIs t1) gd1 (lcStep D.C t1 eifs1 (.one eelt) (tgIs t1)) xs1 r e6 h6 Da g9 H9 acc (j + 1) (xs1.length - (j + 1)) H9' := by
              intro g9' H9' acc' E9' S9' ha'
              refine ⟨rfl, g9', e12, h12, acc1 ++ r1, rs1, ((Ea.trans Eb).trans Ed).trans E9', ?_, qc, by rw [← hacc1, hr1', List.append_assoc]⟩
              rw [← hw1, ← List.append_assoc, ← ha']
              exact S9'.wipe _
            cases b1 with
            | false =>
              rw [if_neg Bool.false_ne_true] at qf ⊢
              cases qf
              exact fin1 gd Hd (acc ++ acc1) (Ext.refl _ _) Sd (by simp)
            | true =>
              rw [if_pos rfl] at qf ⊢
              have hr0 : r1.length = 1 := by
                simp only [evM] at qf
                obtain ⟨rr, e1, h1, q1, q2⟩ := bind_ok qf
                cases q3 : esc rr e1 with
                | none => rw [q3] at q2; cases q2
                | some z => rw [q3] at q2; cases q2; rfl
              have hr2 : acc1.length + r1.length ≤ r.length := by
                rw [← hacc1, hr1', List.length_append, List.length_append]; omega
              exact (elt_step (D := D) Sd qf (by rw [List.length_append]; omega) fun g9' H9' E9' S9' => fin1 g9' H9' _ E9' S9' rfl).2
          · refine .inl ⟨(rJ1 ga H10 Ea Sa.sim.fin Ga j).2 (by omega), ?_⟩
            rw [List.drop_eq_nil_of_le (by omega)] at qa
            obtain ⟨rfl, rfl, rfl⟩ := lcLoop_nil qa
            rw [List.append_nil] at hacc1
            subst hacc1
            refine ⟨rfl, ga, e6, h6, acc ++ acc1, rs, (((E4.trans E5).trans E8).trans E9).trans Ea, ?_, q7, by rw [← hacc, hr, List.append_assoc]⟩
            rw [← hw, ← wipe_sub hsub1, ← wipeE_sub hsub1]
            exact Sa.wipe vs
      · refine .inl ⟨(rJ g4 H4 E14 S4.sim.fin G4 i).2 (by omega), ?_⟩
        rw [List.drop_eq_nil_of_le (by omega)] at q4
        obtain ⟨rfl, rfl, rfl⟩ := lcLoop_nil q4
        rw [List.append_nil] at hacc
        subst hacc
        obtain ⟨a4, ea, o4, ap4⟩ := S4.top
        cases ea
        have S4' := S4.pop
        have E24 : Ext g2 H1 g4 H4 := E3.trans E4
        have Sb := SimT.back S2 hno E24 S4'
        have le : eF.length = σ.length := by have := S4'.l1; rw [wipeE_len, wipe_length] at this; exact this
        exact w1 g4 H4 (.ref Da) E14 Sb ⟨Da, rfl, o4, apart_back le S2.l1 hno ap4⟩
    · exact w1.elim
end
end PL

namespace PL
open PySem PySem.Spec PyProof.Rows L2

/-! ### dict comprehensions: the dict is a scratch thing of the walk -/
/-- the entry's heap with a scratch thing in it -/
def scr (n : En) (a : Addr) (o : HO) : En := ⟨upd n.He a o, n.F0, n.ce0⟩
section
variable {T : Tx} {n : En} {g : Gh} {env : Env} {h : Hs} {σ : List (Option V)} {H : Hp} {a : Addr} {o : HO}
theorem Sim.toScr (S : Sim T n g env h σ H) (hn : H a = none) : Ext g H g (upd H a o) ∧ Sim T (scr n a o) g env h σ (upd H a o) := by
  have hg : ∀ b, H b ≠ none → upd H a o b = H b := upd_grow hn
  have E : Ext g H g (upd H a o) := ⟨fun _ x => x, fun b x => hg b (S.fin b x), [], by simp⟩
  have ne : ∀ b, H b ≠ none → b ≠ a := fun b hb e => hb (e ▸ hn)
  have he : n.He a = none := S.he hn
  refine ⟨E, S.len, fun b x => by rw [hg b (S.fin b x)]; exact S.fin b x, S.F0, fun b x => ?_, ?_, S.cF, S.cd, S.cl, fun i c b h1 h2 => ?_, fun b h1 h2 => ?_, fun i s hs => ?_, S.od⟩
  · rcases S.Fn b x with y | y
    · exact .inl y
    · exact .inr (by show upd n.He a o b = none; rw [upd_ne (ne b (S.fin b x))]; exact y)
  · obtain ⟨l, e1, e2⟩ := S.c0
    refine ⟨l, e1, fun b hb => ?_⟩
    have hb' : b ∈ g.ce := by rw [e1]; exact List.mem_append_right _ hb
    show upd n.He a o b = none
    rw [upd_ne (ne b (S.ce_some hb'))]; exact e2 b hb
  · have q := S.cv i c b h1 h2
    cases c
    exact ListAt.ext E (hg b q.some) q
  · have h1' : upd n.He a o b ≠ none := h1
    show upd H a o b = upd n.He a o b
    by_cases e : b = a
    · subst e; rw [upd_same, upd_same]
    · rw [upd_ne e, upd_ne e]
      rw [upd_ne e] at h1'
      exact S.fr b h1' h2
  · have q := S.sl i s hs
    cases s with
    | no => trivial
    | val p => obtain ⟨w, e1, e2⟩ := q; exact ⟨w, e1, e2.ext E⟩
    | own p =>
      obtain ⟨b, e1, e2⟩ := q
      have hb := ne b e2.at_.some
      exact ⟨b, e1, e2.nF, e2.nc, by show upd n.He a o b = none; rw [upd_ne hb]; exact e2.ne, e2.at_.ext E (upd_ne hb)⟩
theorem Sim.scrF (S : Sim T (scr n a o) g env h σ H) (hF : ¬ n.F0 a) : ¬ g.F a := fun x => by
  rcases S.Fn a x with y | y
  · exact hF y
  · have : upd n.He a o a = none := y
    rw [upd_same] at this; cases this
theorem Sim.scrC (S : Sim T (scr n a o) g env h σ H) (hc : a ∉ n.ce0) : a ∉ g.ce := fun x => by
  obtain ⟨l, e1, e2⟩ := S.c0
  rw [e1] at x
  rcases List.mem_append.mp x with y | y
  · exact hc y
  · have : upd n.He a o a = none := e2 a y
    rw [upd_same] at this; cases this
theorem Sim.scrAt (S : Sim T (scr n a o) g env h σ H) (hc : a ∉ n.ce0) : H a = some o := by
  have := S.fr a (by show upd n.He a o a ≠ none; rw [upd_same]; exact fun x => nomatch x) (S.scrC hc)
  rw [this]; exact upd_same
theorem Sim.reScr (S : Sim T (scr n a o) g env h σ H) (hF : ¬ n.F0 a) (hc : a ∉ n.ce0) (o' : HO) : Ext g H g (upd H a o') ∧ Sim T (scr n a o') g env h σ (upd H a o') := by
  have nF := S.scrF hF
  have nc := S.scrC hc
  have neF : ∀ b, g.F b → b ≠ a := fun b hb e => nF (e ▸ hb)
  have neC : ∀ b ∈ g.ce, b ≠ a := fun b hb e => nc (e ▸ hb)
  have E : Ext g H g (upd H a o') := ⟨fun _ x => x, fun b x => upd_ne (neF b x), [], by simp⟩
  refine ⟨E, S.len, fun b x => by rw [upd_ne (neF b x)]; exact S.fin b x, S.F0, fun b x => ?_, ?_, S.cF, S.cd, S.cl, fun i c b h1 h2 => ?_, fun b h1 h2 => ?_, fun i s hs => ?_, S.od⟩
  · rcases S.Fn b x with y | y
    · exact .inl y
    · refine .inr ?_
      have y' : upd n.He a o b = none := y
      show upd n.He a o' b = none
      rw [upd_ne (neF b x)] at y' ⊢; exact y'
  · obtain ⟨l, e1, e2⟩ := S.c0
    refine ⟨l, e1, fun b hb => ?_⟩
    have hb' : b ∈ g.ce := by rw [e1]; exact List.mem_append_right _ hb
    have y' : upd n.He a o b = none := e2 b hb
    show upd n.He a o' b = none
    rw [upd_ne (neC b hb')] at y' ⊢; exact y'
  · have q := S.cv i c b h1 h2
    cases c
    exact ListAt.ext E (upd_ne (neC b (List.mem_of_getElem? h2))) q
  · have h1' : upd n.He a o' b ≠ none := h1
    show upd H a o' b = upd n.He a o' b
    by_cases e : b = a
    · subst e; rw [upd_same, upd_same]
    · rw [upd_ne e] at h1' ⊢
      rw [upd_ne e]
      have := S.fr b (by show upd n.He a o b ≠ none; rw [upd_ne e]; exact h1') h2
      rw [this]; exact upd_ne e
  · have q := S.sl i s hs
    cases s with
    | no => trivial
    | val p => obtain ⟨w, e1, e2⟩ := q; exact ⟨w, e1, e2.ext E⟩
    | own p =>
      obtain ⟨b, e1, e2⟩ := q
      have hb : b ≠ a := fun e => by
        have : upd n.He a o b = none := e2.ne
        rw [e, upd_same] at this; cases this
      refine ⟨b, e1, e2.nF, e2.nc, ?_, e2.at_.ext E (upd_ne hb)⟩
      have y' : upd n.He a o b = none := e2.ne
      show upd n.He a o' b = none
      rw [upd_ne hb] at y' ⊢; exact y'
theorem Sim.offScr (S : Sim T (scr n a o) g env h σ H) (hn : n.He a = none) : Sim T n g env h σ H := by
  have dn : ∀ b, upd n.He a o b = none → n.He b = none := fun b hb => by
    by_cases e : b = a
    · subst e; exact hn
    · rwa [upd_ne e] at hb
  refine ⟨S.len, S.fin, S.F0, fun b x => ?_, ?_, S.cF, S.cd, S.cl, S.cv, fun b h1 h2 => ?_, fun i s hs => ?_, S.od⟩
  · exact (S.Fn b x).imp (fun y => y) (dn b)
  · obtain ⟨l, e1, e2⟩ := S.c0
    exact ⟨l, e1, fun b hb => dn b (e2 b hb)⟩
  · have e : b ≠ a := fun e => h1 (e ▸ hn)
    have := S.fr b (by show upd n.He a o b ≠ none; rw [upd_ne e]; exact h1) h2
    rw [this]; exact upd_ne e
  · have q := S.sl i s hs
    cases s with
    | no => trivial
    | val p => exact q
    | own p =>
      obtain ⟨b, e1, e2⟩ := q
      exact ⟨b, e1, e2.nF, e2.nc, dn b e2.ne, e2.at_⟩
theorem Sim.scrApart (S : Sim T (scr n a o) g env h σ H) : Apart env σ a := fun i q hi hw => by
  obtain ⟨b, e1, e2⟩ := S.sl i _ hi
  rw [hw] at e1
  cases e1
  have : upd n.He a o a = none := e2.ne
  rw [upd_same] at this; cases this
end
/-- a dict's pairs -/
def KvR (T : Tx) (g : Gh) (H : Hp) (a : List (Key × PV)) (b : List (Key × V)) : Prop := a.map (·.1) = b.map (·.1) ∧ TrL T g H (a.map (·.2)) (b.map (·.2))
theorem KvR.upd {T : Tx} {g : Gh} {H : Hp} {k : Key} {p : PV} {z : V} (tz : Tr T g H p z) : ∀ {a : List (Key × PV)} {b : List (Key × V)}, KvR T g H a b → KvR T g H (a.map fun kv => if kv.1 = k then (kv.1, p) else kv) (b.map fun kv => if kv.1 = k then (kv.1, z) else kv)
  | [], [], _ => ⟨rfl, .nil⟩
  | [], _ :: _, h => by have := h.1; simp at this
  | _ :: _, [], h => by have := h.1; simp at this
  | x :: a, y :: b, ⟨h1, h2⟩ => by
    simp only [List.map_cons, List.cons.injEq] at h1
    cases h2 with
    | cons t r =>
      obtain ⟨i1, i2⟩ := KvR.upd tz (a := a) (b := b) ⟨h1.2, r⟩
      obtain ⟨e1, _⟩ := h1
      refine ⟨?_, ?_⟩
      · simp only [List.map_cons, List.cons.injEq]
        refine ⟨?_, i1⟩
        rw [e1]; split <;> simp [e1]
      · simp only [List.map_cons]
        refine .cons ?_ i2
        rw [e1]
        split
        · exact tz
        · exact t
theorem KvR.put {T : Tx} {g : Gh} {H : Hp} {k : Key} {p : PV} {z : V} (tz : Tr T g H p z) {a : List (Key × PV)} {b : List (Key × V)} (h : KvR T g H a b) : KvR T g H (putP a k p) (putK b k z) := by
  have any : (a.any fun kv => decide (kv.1 = k)) = (b.any fun kv => decide (kv.1 = k)) := by
    have e1 : (a.any fun kv => decide (kv.1 = k)) = (a.map (·.1)).any fun x => decide (x = k) := by rw [List.any_map]; rfl
    have e2 : (b.any fun kv => decide (kv.1 = k)) = (b.map (·.1)).any fun x => decide (x = k) := by rw [List.any_map]; rfl
    rw [e1, e2, h.1]
  unfold putP putK
  rw [any]
  split
  · exact h.upd tz
  · refine ⟨by simp [h.1], ?_⟩
    rw [List.map_append, List.map_append]
    exact h.2.append (.cons tz .nil)
theorem putP_len (a : List (Key × PV)) (k : Key) (p : PV) : (putP a k p).length ≤ a.length + 1 := by
  unfold putP; split <;> simp
theorem KvR.len {T : Tx} {g : Gh} {H : Hp} {a : List (Key × PV)} {b : List (Key × V)} (h : KvR T g H a b) : a.length = b.length := by
  have := congrArg List.length h.1
  simpa using this
theorem mkD_app : ∀ {xs ys : List PV} {acc r : List (Key × PV)}, mkD acc (xs ++ ys) = some r → xs.length % 2 = 0 → ∃ m, mkD acc xs = some m ∧ mkD m ys = some r
  | [], ys, acc, r, h, _ => ⟨acc, rfl, h⟩
  | [_], _, _, _, _, hp => by simp at hp
  | k :: v :: xs, ys, acc, r, h, hp => by
    simp only [List.cons_append, mkD] at h ⊢
    cases q : keyOf k with
    | none => rw [q] at h; cases h
    | some ky =>
      rw [q] at h
      exact mkD_app h (by simp at hp; omega)
section
variable {D : Wd} {n : En}
theorem kv_step {g : Gh} {σ : L2.St} {e te e' : Env} {h h' : Hs} {ts : List (Option V)} {H : Hp} {ek ev : Ex} {r : List PV} {P : V → V → Hp → Prop} (S : SimT D.T n g e te h σ ts H)
    (q : evM D.C (.kv ek ev) e h = .ok r e' h')
    (K : ∀ p v g' H' y z, r = [p, v] → Ext g H g' H' → SimT D.T n g' e' te h' σ ts H' → Tr D.T g' H' p y → Tr D.T g' H' v z → P y z H') :
    tA D.calm ek σ H fun y H4 => tA D.calm ev σ H4 fun z H5 => P y z H5 := by
  simp only [evM] at q
  obtain ⟨rr, e1, h1, q1, q2⟩ := bind_ok q
  cases q3 : esc rr e1 with
  | none => rw [q3] at q2; cases q2
  | some x =>
    obtain ⟨p, fr, e2⟩ := x
    rw [q3] at q2
    obtain ⟨r3, e3, h3, q4, q5⟩ := bind_ok q2
    cases q6 : esc r3 e3 with
    | none => rw [q6] at q5; cases q5
    | some x =>
      obtain ⟨v, fr', e4⟩ := x
      rw [q6] at q5
      cases q5
      refine ⟨n, g, e, te, h, ts, S, Wp.ok q1 fun g1 H1 y E1 S1 r1 => ?_⟩
      have S1' : SimT D.T n g1 e1 te h1 σ ts H1 := S1
      obtain ⟨g2, E2, S2, t⟩ := S1'.escF r1 q3
      refine ⟨n, g2, e2, te, h1, ts, S2, Wp.ok q4 fun g3 H3 z E3 S3 r3' => ?_⟩
      have S3' : SimT D.T n g3 e3 te h' σ ts H3 := S3
      obtain ⟨g4, E4, S4, t4⟩ := S3'.escF r3' q6
      exact K p v g4 H3 y z rfl (((E1.trans E2).trans E3).trans E4) S4 ((t.ext E3).ext E4) t4
theorem zip_self' {α β : Type} : ∀ l : List (α × β), l = (l.map (·.1)).zip (l.map (·.2))
  | [] => rfl
  | a :: l => by rw [List.map_cons, List.map_cons, List.zip_cons_cons, ← zip_self' l]
def DcInv (D : Wd) (n : En) (σ : L2.St) (te : Env) (ts : List (Option V)) (vs : List Nat) (gd : Gd) (f : PV → Env → Hs → Out (List PV)) (xs : List PV) (fin : List (Key × PV)) (eF : Env) (hF : Hs) (Da : Addr) (g0 : Gh) (H0 : Hp) (i m : Nat) (H : Hp) : Prop :=
  m = xs.length - i ∧ ∃ g e h acc kvs rest, Ext g0 H0 g H ∧ SimT D.T (scr n Da (.dK kvs)) g (wipeE vs e) te h (L2.wipe σ vs) ts H ∧ KvR D.T g H acc kvs ∧ 2 * kvs.length + rest.length ≤ line ∧ lcLoop gd f (xs.drop i) e h = .ok rest eF hF ∧ mkD acc rest = some fin
theorem imp_dc {t : Tg} {eit eifs ek ev : Ex} {vs : List Nat} (hsub : ∀ i ∈ tgIs t, i ∈ vs) {σ : L2.St} {H : Hp} {Q : VK} : tA D (.dc vs t eit eifs (.kv ek ev)) σ H Q → tDc (tI D eit) (tG D.calm t) (tT D.calm eifs) (tA D.calm ek) (tA D.calm ev) vs σ H Q := by
  rintro ⟨n, g, e, te, h, ts, S, w⟩
  simp only [evA] at w
  refine ⟨n, g, e, te, h, ts, S, Wp.bind w fun z e1 h1 g1 H1 J _ E1 S1 rJ w1 => ?_⟩
  obtain ⟨xs, gd⟩ := z
  replace rJ : ItRel D.T g1 H1 J xs gd := rJ
  intro Da hDa
  change Wp D n σ te ts (relA D n σ te ts) (match (lcLoop gd (lcStep D.C t eifs (.kv ek ev) vs) xs (frzAt vs e1) h1).noex with
      | .ok ps e2 h2 => if ps.length ≤ line then (match mkD [] ps with
        | some kvs => .ok (.v (.dic (kvs.map (·.1)) (kvs.map (·.2))) false) (backE vs (frzAt vs e1) e2) h2
        | none => .stuck) else .stuck
      | _ => .stuck) g1 H1 Q at w1
  cases qL : lcLoop gd (lcStep D.C t eifs (.kv ek ev) vs) xs (frzAt vs e1) h1 with
  | stuck => rw [qL] at w1; exact w1.elim
  | exc c fs e2 h2 => rw [qL] at w1; exact w1.elim
  | ok ps eF hF =>
    rw [qL] at w1
    simp only [Out.noex] at w1
    split at w1
    · rename_i hlen
      cases qD : mkD [] ps with
      | none => rw [qD] at w1; exact w1.elim
      | some fin =>
      rw [qD] at w1
      obtain ⟨g2, E2, S2⟩ := S1.frzAt vs
      have hno : ∀ i p, i ∈ vs → (frzAt vs e1)[i]? ≠ some (.own p) := fun i p hi => frzAt_in e1 vs i p hi
      obtain ⟨E3, S3s⟩ := S2.sim.toScr (o := .dK []) hDa
      have S3 : SimT D.T (scr n Da (.dK [])) g2 (frzAt vs e1) te h1 σ ts (upd H1 Da (.dK [])) := ⟨S2.l1, S2.l2, S3s⟩
      have hF0 : ¬ n.F0 Da := fun x => S2.sim.fin Da (S2.sim.F0 Da x) hDa
      have hc0 : Da ∉ n.ce0 := fun x => by
        obtain ⟨l, e1, _⟩ := S2.sim.c0
        exact S2.sim.ce_some (by rw [e1]; exact List.mem_append_left _ x) hDa
      have hHe : n.He Da = none := S2.sim.he hDa
      refine ⟨DcInv D n σ te ts vs gd (lcStep D.C t eifs (.kv ek ev) vs) xs fin eF hF Da g2 (upd H1 Da (.dK [])), ⟨xs.length, rfl, g2, frzAt vs e1, h1, [], [], ps, Ext.refl _ _, S3.wipe vs, ⟨rfl, .nil⟩, by simpa using hlen, qL, qD⟩, ?_⟩
      rintro i m H4 ⟨hm, g4, e4, h4, acc, kvs, rest, E4, S4, kr, kl, q4, hacc⟩
      have E14 : Ext g1 H1 g4 H4 := (E2.trans E3).trans E4
      have G4 := gd_of S4.sim (lcLoop_gd q4)
      by_cases hlt : i < xs.length
      · refine .inr ⟨((rJ g4 H4 E14 S4.sim.fin G4 i).1 xs[i] (List.getElem?_eq_getElem hlt)).1, DcInv D n σ te ts vs gd (lcStep D.C t eifs (.kv ek ev) vs) xs fin eF hF Da g2 (upd H1 Da (.dK [])) (i + 1) (xs.length - (i + 1)), fun H' hN => ⟨_, by omega, hN⟩, ?_⟩
        intro x H5 hy
        obtain ⟨Dn, k1, k2, tx⟩ := ((rJ g4 H4 E14 S4.sim.fin G4 i).1 xs[i] (List.getElem?_eq_getElem hlt)).2 x H5 hy
        obtain ⟨E5, S5⟩ := S4.grow k1 k2
        rw [drop_cons hlt] at q4
        obtain ⟨r, e6, h6, rs, q6, q7, hr⟩ := lcLoop_cons q4
        obtain ⟨e', b, e7, h7, q8, q9, q10⟩ := lcStep_ok q6
        refine ⟨scr n Da (.dK kvs), _, wipeE vs e4, te, h4, ts, S5, xs[i], e', tx, q8, fun σ' S6 hσ' => ?_⟩
        have hw : wipe σ' vs = wipe σ vs := by
          have hl : σ'.length = (L2.wipe σ vs).length := by
            have a := S6.l1
            have b := S5.l1
            have c : e'.length = (wipeE vs e4).length := bindT_len q8
            omega
          rw [wipe_ext hl fun i hi => hσ' i fun x => hi (hsub i x), wipe_sub fun i hi => hi]
        refine ⟨hw, scr n Da (.dK kvs), _, e', te, h4, ts, S6, Wp.ok q9 fun g8 H8 b' E8 S8 hb' => ?_⟩
        have hb'' : b = b' := hb'
        subst hb''
        have E48 : Ext g4 H4 g8 H8 := E5.trans E8
        cases b with
        | false =>
          rw [if_neg Bool.false_ne_true] at q10 ⊢
          cases q10
          refine ⟨rfl, g8, e6, h6, acc, kvs, rs, E4.trans E48, ?_, ⟨kr.1, kr.2.ext E48⟩, by rw [hr] at kl; simpa using kl, q7, by rw [hr] at hacc; exact hacc⟩
          rw [← hw]
          exact S8.wipe vs
        | true =>
          rw [if_pos rfl] at q10 ⊢
          refine kv_step (D := D) S8 q10 fun p v g9 H9 y z hrr E9 S9 tp tv => ?_
          subst hrr
          rw [hr] at hacc kl
          have kl2 : 2 * kvs.length + 2 + rs.length ≤ line := by simp at kl; omega
          have hk : kvs.length < sizeLine := by rw [← line_eq]; omega
          simp only [List.cons_append, List.nil_append, mkD] at hacc
          cases q11 : keyOf p with
          | none => rw [q11] at hacc; cases hacc
          | some ky =>
            rw [q11] at hacc
            refine ⟨kvs, ky, keyOf_kV (D := D) (Bd.of tp) q11, S9.sim.scrAt hc0, hk, ?_⟩
            obtain ⟨E10, S10⟩ := S9.sim.reScr hF0 hc0 (.dK (putK kvs ky z))
            have E49 : Ext g4 H4 g9 (upd H9 Da (.dK (putK kvs ky z))) := (E48.trans E9).trans E10
            have kr9 : KvR D.T g9 (upd H9 Da (.dK (putK kvs ky z))) acc kvs := ⟨kr.1, kr.2.ext E49⟩
            have kr10 := kr9.put (k := ky) (tv.ext E10)
            refine ⟨rfl, g9, e6, h6, putP acc ky v, putK kvs ky z, rs, E4.trans E49, ?_, kr10, ?_, q7, hacc⟩
            · rw [← hw]
              exact SimT.wipe ⟨S9.l1, S9.l2, S10⟩ vs
            · rw [← kr10.len]
              have := putP_len acc ky v
              rw [kr.len] at this
              omega
      · refine .inl ⟨(rJ g4 H4 E14 S4.sim.fin G4 i).2 (by omega), ?_⟩
        rw [List.drop_eq_nil_of_le (by omega)] at q4
        obtain ⟨rfl, rfl, rfl⟩ := lcLoop_nil q4
        simp only [mkD] at hacc
        cases hacc
        have hHd : H4 Da = some (.dK kvs) := S4.sim.scrAt hc0
        have Sn : SimT D.T n g4 (wipeE vs eF) te hF (L2.wipe σ vs) ts H4 := ⟨S4.l1, S4.l2, S4.sim.offScr hHe⟩
        obtain ⟨E5, S5⟩ := Sn.sim.freeze (S4.sim.scrC hc0) hHe (by rw [hHd]; exact fun x => nomatch x) S4.sim.scrApart
        have S5' : SimT D.T n (gF g4 (· = Da)) (wipeE vs eF) te hF (L2.wipe σ vs) ts H4 := ⟨S4.l1, S4.l2, S5⟩
        have E24 : Ext g2 H1 (gF g4 (· = Da)) H4 := (E3.trans E4).trans E5
        have Sb := SimT.back S2 hno E24 S5'
        refine w1 (gF g4 (· = Da)) H4 (.ref Da) (E14.trans E5) Sb ?_
        have ez : kvs = (fin.map (·.1)).zip (kvs.map (·.2)) := by
          rw [kr.1]
          exact zip_self' kvs
        exact Tr.dic (.inr rfl) (by rw [hHd]; congr 2) (by rw [kr.1]; simp) (kr.2.ext E5)
    · exact w1.elim
end

/-- y = {k: v for ..} -/
theorem ps_setDc {X : Cx} {i : Nat} {y : Str} {py : Pos} {kx vx tg iter : Expr} {ifs : List Expr} {scope : Scope} {own : List (Str × Nat)} {pos spos : Pos} {wi : TI} {g : TG} {tt : TT} {tk tv : TE}
    (hc : X.calm = true) (hN : X.N.Nodup) (hy : X.N[i]? = some y) (hyl : X.env.scope.names.lookup y = some .local) (hsw : swapsWith (.DictComp kx vx [⟨tg, iter, ifs, 0⟩] scope pos) (some (.Name y py)) spos.line X.env = pure true)
    (hi : PI X tg iter wi) (ok : BlkOk X.N X.env.scope scope own)
    (hg : ∀ (s : Shared) (H : Hp) (C : Addr) (cl : List (Str × Addr)) (fp : List Addr), PG (X.blk s H scope (compEnvC scope cl C X.env) fp) tg g)
    (ht : ∀ (s : Shared) (H : Hp) (C : Addr) (cl : List (Str × Addr)) (fp : List Addr), PTs (X.blk s H scope (compEnvC scope cl C X.env) fp) ifs tt)
    (hk : ∀ (s : Shared) (H : Hp) (C : Addr) (cl : List (Str × Addr)) (fp : List Addr), PE (X.blk s H scope (compEnvC scope cl C X.env) fp) kx tk)
    (he : ∀ (s : Shared) (H : Hp) (C : Addr) (cl : List (Str × Addr)) (fp : List Addr), PE (X.blk s H scope (compEnvC scope cl C X.env) fp) vx tv)
    (hs : ∀ x : Value, foldedSetIterable iter X.env x = pure x) :
    PS X (.Assign [.Name y py] (.DictComp kx vx [⟨tg, iter, ifs, 0⟩] scope pos) spos) (tAsg (tDc wi g tt tk tv (own.map (·.2))) (gName i)) :=
  ⟨fun pins s σ H D I h => by
    rw [exec_Assign_Name_used y py _ spos hsw]
    refine wpAny_bind (wpAny_standAt (wpAny_bind ?_))
    rw [arm_evalThenUse_DictComp]
    refine wpAny_bind (thn (dc_core hc hN I hi ok hg ht hk he hs h fun L C s' m H' I' q hn f => ?_) fun x s' hq => wpAny_pure (wpAny_pure hq))
    refine wpAny_assign_Name (store_ok2 (v := V.ref L) I' hN hy (Or.inl hyl) rfl (fun s2 I2 x => ?_) (Or.inr hyl))
    obtain ⟨a, sb, ha⟩ := x
    obtain ⟨f0, f1, f2, f3, f4, f5⟩ := f
    have haC : C ≠ a := by
      rcases ha with z | z
      · rw [z]; exact f1
      · exact fun e => f4 y a z e.symm
    exact ⟨m, Heap.Ns.sameBut hn sb haC, fun h3 sb3 => ⟨_, _, Inv.turned I2 (fun b o hb e => Eq.trans (sb3.right b hb) e) f0 f1 f3 f4 f5, q⟩⟩⟩
end PL

/-! Tests; the compiler's expressions are sound. -/
namespace PL
open PySem PySem.Spec PyProof.Rows L2
section
variable {D : Wd} {N : List Str} {sc : Scope} {asg : Str → Bool} {k : Nat} {X : Cx}
theorem pt_iteX {c a b : Expr} {pos : Pos} {ec ea eb : Ex} (hc : PT X c (tT D ec)) (ha : PT X a (tT D ea)) (hb : PT X b (tT D eb)) : PT X (.IfExp c a b pos) (tT D (.ite ec ea eb)) :=
  ⟨fun pins s σ H Q I ⟨n, g, e, te, h, ts, S, w⟩ => by
    simp only [evT] at w
    refine isTrue_IfExp (thn (hc.run pins s σ H (fun k H1 => if k = true then tT D ea σ H1 Q else tT D eb σ H1 Q) I ⟨n, g, e, te, h, ts, S, Wp.bind w fun k e1 h1 g1 H1 x _ E1 S1 r1 w1 => ?_⟩) fun k s1 ⟨H1, I1, q1⟩ => ?_)
    · cases r1
      cases k with
      | true => rw [if_pos rfl] at w1 ⊢; exact ⟨n, g1, e1, te, h1, ts, S1, w1⟩
      | false => rw [if_neg Bool.false_ne_true] at w1 ⊢; exact ⟨n, g1, e1, te, h1, ts, S1, w1⟩
    · cases k with
      | true => rw [if_pos rfl] at q1; exact ha.run pins s1 σ H1 Q I1 q1
      | false => rw [if_neg Bool.false_ne_true] at q1; exact hb.run pins s1 σ H1 Q I1 q1⟩
theorem tT_plain {ex : Ex} (ok : XOk D.T N sc k X) (hp : plainX ex = true) {σ : L2.St} {H : Hp} {Q : Bool → Hp → Prop} (q : tT D ex σ H Q) : tA D ex σ H fun x H' => ∃ k, TruV X.K x H' k ∧ Q k H' := by
  obtain ⟨n, g, e, te, h, ts, S, w⟩ := q
  rw [evT_plain hp] at w
  refine ⟨n, g, e, te, h, ts, S, Wp.bind w fun ra e1 h1 g1 H1 x _ E1 S1 r1 w1 => ?_⟩
  obtain ⟨g1', E1', S1', f1⟩ := S1.keep r1
  have w1' := w1.mono E1'
  cases q1 : (rd ra e1 h1).bind truthy with
  | none => rw [q1] at w1'; exact w1'.elim
  | some c =>
    rw [q1] at w1'
    exact ⟨c, tru_of ok S1' f1 q1, w1' g1' H1 c (Ext.refl _ _) S1' rfl⟩
theorem pt_plain {e : Expr} {ex : Ex} (ok : XOk D.T N sc k X) (hp : plainX ex = true) (ha : PE X e (tA D ex)) (he : ∀ whole, isTrue e X.env whole = (do let v ← whole; standAt e.pos; holding [v] (PySem.truthy v))) : PT X e (tT D ex) :=
  PT.of (pt_truth ha he) fun _ _ _ q => tT_plain ok hp q
theorem evA_cmp_bl {C : Calls} {o : Cop} {a b : Ex} {e e' : Env} {h h' : Hs} {r : Rs} (q : evA C (.cmp o a b) e h = .ok r e' h') : ∃ k, r = .v (.bl k) false := by
  simp only [evA] at q
  obtain ⟨ra, e1, h1, q1, q⟩ := bind_ok q
  obtain ⟨rb, e2, h2, q2, q⟩ := bind_ok q
  split at q
  · split at q
    · cases q; exact ⟨_, rfl⟩
    · cases q
  · cases q
theorem evA_chain_bl {C : Calls} {o o' : Cop} {a b c : Ex} {e e' : Env} {h h' : Hs} {r : Rs} (q : evA C (.chain o o' a b c) e h = .ok r e' h') : ∃ k, r = .v (.bl k) false := by
  simp only [evA] at q
  obtain ⟨ra, e1, h1, q1, q⟩ := bind_ok q
  obtain ⟨rb, e2, h2, q2, q⟩ := bind_ok q
  split at q
  · split at q
    · obtain ⟨rc, e3, h3, q3, q⟩ := bind_ok q
      split at q
      · split at q
        · cases q; exact ⟨_, rfl⟩
        · cases q
      · cases q
    · cases q; exact ⟨_, rfl⟩
    · cases q
  · cases q
theorem tT_bl {ex : Ex} (hp : plainX ex = true) (hb : ∀ {C : Calls} {e e' : Env} {h h' : Hs} {r : Rs}, evA C ex e h = .ok r e' h' → ∃ k, r = .v (.bl k) false) {σ : L2.St} {H : Hp} {Q : Bool → Hp → Prop} (q : tT D ex σ H Q) : tA D ex σ H fun x H' => ∃ k, x = .bl k ∧ Q k H' := by
  obtain ⟨n, g, e, te, h, ts, S, w⟩ := q
  rw [evT_plain hp] at w
  refine ⟨n, g, e, te, h, ts, S, Wp.bind w fun ra e1 h1 g1 H1 x q1 E1 S1 r1 w1 => ?_⟩
  obtain ⟨k, rfl⟩ := hb q1
  cases r1
  exact ⟨k, rfl, w1 g1 H1 k (Ext.refl _ _) S1 rfl⟩
theorem imp_cmp {o : Cop} {ea eb : Ex} {σ : L2.St} {H : Hp} {Q : VK} : tA D (.cmp o ea eb) σ H Q → tOp (rC D.T o) (tA D ea) (tA D eb) σ H Q := by
  rintro ⟨n, g, e, te, h, ts, S, w⟩
  simp only [evA] at w
  refine two_parts S w fun ra rb e2 h2 g2 H2 x y S2 f1 f2 w2 => ?_
  cases q1 : rd ra e2 h2 with
  | none => rw [q1] at w2; exact w2.elim
  | some px =>
    cases q2 : rd rb e2 h2 with
    | none => rw [q1, q2] at w2; exact w2.elim
    | some py =>
      rw [q1, q2] at w2
      simp only at w2
      cases q3 : opCmp o px py with
      | none => rw [q3] at w2; exact w2.elim
      | some z =>
        rw [q3] at w2
        exact ⟨g2, px, py, z, S2.rd f1 q1, S2.rd f2 q2, q3, Wp.made w2 S2 (mk_same (.bl z))⟩
theorem imp_chain {o o' : Cop} {ea eb ec : Ex} {σ : L2.St} {H : Hp} {Q : VK} : tA D (.chain o o' ea eb ec) σ H Q → tChain (rC D.T o) (rC D.T o') (tA D ea) (tA D eb) (tA D ec) σ H Q := by
  rintro ⟨n, g, e, te, h, ts, S, w⟩
  simp only [evA] at w
  refine two_parts S w fun ra rb e2 h2 g2 H2 x y S2 f1 f2 w2 => ?_
  cases q1 : rd ra e2 h2 with
  | none => rw [q1] at w2; exact w2.elim
  | some px =>
    cases q2 : rd rb e2 h2 with
    | none => rw [q1, q2] at w2; exact w2.elim
    | some py =>
      rw [q1, q2] at w2
      simp only at w2
      cases q3 : opCmp o px py with
      | none => rw [q3] at w2; exact w2.elim
      | some z =>
        rw [q3] at w2
        refine ⟨g2, px, py, z, S2.rd f1 q1, S2.rd f2 q2, q3, z, rfl, ?_⟩
        cases z with
        | false => rw [if_neg Bool.false_ne_true]; exact Wp.made w2 S2 (mk_same (.bl false))
        | true =>
          rw [if_pos rfl]
          refine ⟨n, g2, e2, te, h2, ts, S2, Wp.bind w2 fun rc e3 h3 g3 H3 v _ E3 S3 r3 w3 => ?_⟩
          obtain ⟨g3', E3', S3', f3⟩ := S3.keep r3
          have w3' := w3.mono E3'
          cases q4 : rd rb e3 h3 with
          | none => rw [q4] at w3'; exact w3'.elim
          | some py' =>
            cases q5 : rd rc e3 h3 with
            | none => rw [q4, q5] at w3'; exact w3'.elim
            | some pz =>
              rw [q4, q5] at w3'
              simp only at w3'
              cases q6 : opCmp o' py' pz with
              | none => rw [q6] at w3'; exact w3'.elim
              | some z' =>
                rw [q6] at w3'
                exact ⟨g3', py', pz, z', S3'.rd ((f2.ext E3).ext E3') q4, S3'.rd f3 q5, q6, Wp.made w3' S3' (mk_same (.bl z'))⟩
theorem pt_cmpX (ok : XOk D.T N sc k X) {a b : Expr} {op : CmpOp} {o : Cop} {pos : Pos} {ea eb : Ex} (ho : cCop op = some o) (hs : isSetE b = false) (ha : PE X a (tA D ea)) (hb : PE X b (tA D eb)) : PT X (.Compare a [op] [b] pos) (tT D (.cmp o ea eb)) := by
  have hm : behindInMarks op b = false := by cases b <;> first | rfl | (simp [isSetE] at hs)
  exact PT.of (pt_cmpR (snd_cop ok ho) ha hb hm) fun _ _ _ q => imp_cmp (tT_bl rfl evA_cmp_bl q)
theorem pt_chainX (ok : XOk D.T N sc k X) {a b c : Expr} {op op' : CmpOp} {o o' : Cop} {pos : Pos} {ea eb ec : Ex} (ho : cCop op = some o) (ho' : cCop op' = some o') (hs : isSetE b = false) (hs' : isSetE c = false)
    (ha : PE X a (tA D ea)) (hb : PE X b (tA D eb)) (hc : PE X c (tA D ec)) : PT X (.Compare a [op, op'] [b, c] pos) (tT D (.chain o o' ea eb ec)) := by
  have hm : lastMarks [op, op'] [b, c] = false := by
    show lastMarks [op'] [c] = false
    show behindInMarks op' c = false
    cases c <;> first | rfl | (simp [isSetE] at hs')
  exact PT.of (pt_chain (snd_cop ok ho) (snd_cop ok ho') ha hb hc hm) fun _ _ _ q => imp_chain (tT_bl rfl evA_chain_bl q)
theorem pt_notX {a : Expr} {pos : Pos} {ea : Ex} (ha : PT X a (tT D ea)) : PT X (.UnaryOp .Not a pos) (tT D (.not ea)) :=
  PT.of (pt_not ha) fun σ H Q ⟨n, g, e, te, h, ts, S, w⟩ => by
    simp only [evT] at w
    refine ⟨n, g, e, te, h, ts, S, Wp.bind w fun c e1 h1 g1 H1 x _ E1 S1 r1 w1 => ?_⟩
    cases r1
    exact w1 g1 H1 (!c) (Ext.refl _ _) S1 rfl
theorem pw_bools {op : BoolOp} {f : Expr → Ex} {pos : Pos} : ∀ {vs : List Expr}, (∀ a ∈ vs, PT X a (tT D (f a))) → PW X (.BoolOp op vs pos) (tT D (cBools op f vs))
  | [], _ => ⟨fun wh pins s σ H R I ⟨n, g, e, te, h, ts, S, w⟩ => by simp only [cBools, evT, evA, Out.bind] at w; exact w.elim⟩
  | [a], h => by
    cases op with
    | And => exact pw_and1 (h a List.mem_cons_self)
    | Or => exact pw_or1 (h a List.mem_cons_self)
  | a :: b :: r, h => by
    have ha := h a List.mem_cons_self
    have hb := pw_bools (op := op) (f := f) (pos := pos) (vs := b :: r) fun z hz => h z (List.mem_cons_of_mem _ hz)
    cases op with
    | And =>
      refine PW.of (pw_and ha hb) fun σ H Q ⟨n, g, e, te, h, ts, S, w⟩ => ?_
      simp only [cBools, evT] at w
      refine ⟨n, g, e, te, h, ts, S, Wp.bind w fun c e1 h1 g1 H1 x _ E1 S1 r1 w1 => ?_⟩
      cases r1
      cases c with
      | true => rw [if_pos rfl] at w1 ⊢; exact ⟨n, g1, e1, te, h1, ts, S1, w1⟩
      | false => rw [if_neg Bool.false_ne_true] at w1 ⊢; exact w1 g1 H1 false (Ext.refl _ _) S1 rfl
    | Or =>
      refine PW.of (pw_or ha hb) fun σ H Q ⟨n, g, e, te, h, ts, S, w⟩ => ?_
      simp only [cBools, evT] at w
      refine ⟨n, g, e, te, h, ts, S, Wp.bind w fun c e1 h1 g1 H1 x _ E1 S1 r1 w1 => ?_⟩
      cases r1
      cases c with
      | true => rw [if_pos rfl] at w1 ⊢; exact w1 g1 H1 true (Ext.refl _ _) S1 rfl
      | false => rw [if_neg Bool.false_ne_true] at w1 ⊢; exact ⟨n, g1, e1, te, h1, ts, S1, w1⟩
theorem FnsOk.calm (F : FnsOk D k) : FnsOk D.calm k := ⟨F.fn, F.bi, F.kwb⟩
theorem permOf_len {ps : List Str} {n : Nat} {ks : List Str} {perm : List Nat} (h : permOf ps n ks = some perm) : perm.length = ps.length := by
  unfold permOf at h
  have : ∀ (l : List Nat) (f : Nat → Option Nat) (r : List Nat), l.mapM f = some r → r.length = l.length := by
    intro l f
    induction l with
    | nil => intro r h; simp at h; subst h; rfl
    | cons a l ih =>
      intro r h
      rw [List.mapM_cons] at h
      cases q1 : f a with
      | none => rw [q1] at h; cases h
      | some b =>
        rw [q1] at h
        cases q2 : l.mapM f with
        | none => rw [q2] at h; cases h
        | some bs => rw [q2] at h; cases h; simp [ih bs q2]
  rw [this _ _ _ h, List.length_range]
theorem plain_celIf {S : Sc} {cp : Pos} {ex : Ex} (h : plainX ex = true) : plainX (celIf S cp ex) = true := by
  unfold celIf
  split
  · rfl
  · exact h
theorem plain_call {S : Sc} {f : Sc → Expr → Ex} {x : Str} {es : List Expr} {kws : List Keyword} {cp : Pos} : plainX (cCall (f) S x es kws cp) = true := by
  unfold cCall
  repeat' split
  all_goals first | rfl | exact plain_celIf rfl
theorem plain_comp {S : Sc} {f : Sc → Expr → Ex} {elt : Expr} {gs : List Comprehension} {scope : Scope} : plainX (cComp f S elt gs scope) = true := by
  unfold cComp
  repeat' split
  all_goals first | rfl | (simp only []; repeat' split) <;> rfl
theorem snd_callX (xg : XG D N sc asg k X) {S : Sc} (so : ScOk D S) (hkw : ∀ z ∈ S.kws, z ∈ D.kw) (hs : S.sc = sc) (F : FnsOk D k) {f : Sc → Expr → Ex} (hf : ∀ e, PE X e (tA D (f S e))) {x : Str} {es : List Expr} {kws : List Keyword} {p pos : Pos} : PE X (.Call (.Name x p) es kws pos) (tA D (cCall f S x es kws pos)) := by
  unfold cCall
  split
  · rename_i hc
    simp only [Bool.and_eq_true] at hc
    obtain ⟨⟨hk, hg⟩, hst⟩ := hc
    have hg' : Gl X x := glB_gl xg.toXOk (by rw [← hs]; exact hg)
    split
    · rename_i i ps hd
      have h1 := defOf_get hd
      rw [so.defs, List.getElem?_map, Option.map_eq_some_iff] at h1
      obtain ⟨d, h2, h3⟩ := h1
      have hx : x = d.x := (congrArg Prod.fst h3).symm
      have hps : ps = d.ps := (congrArg Prod.snd h3).symm
      split
      · rename_i ks hkn
        split
        · rename_i he
          rw [List.isEmpty_iff] at he
          subst he
          split
          · rename_i hl
            exact snd_call xg F h2 hx (so.mgd i d h2) (by rw [hl, hps]) hk hg' hst fun e _ => hf e
          · exact pe_stuck
        · split
          · split
            · rename_i perm hperm
              split
              · rename_i hz
                exact snd_callK xg F h2 hx (so.mgd i d h2) hkn (hkw _ hz.1) hz.2 (by rw [permOf_len hperm, hps]) hk hg' hst (fun e _ => hf e) fun q _ => hf q.value
              · exact pe_stuck
            · exact pe_stuck
          · exact pe_stuck
      · exact pe_stuck
    · split
      · rename_i hc
        simp only [Bool.and_eq_true, List.isEmpty_iff] at hc
        obtain ⟨hfr, hkws⟩ := hc
        subst hkws
        have hm : X.mg x = none := by rw [xg.mg]; exact so.free x (by simpa using hfr)
        split
        · rename_i e
          subst e
          split
          · rename_i a y p'
            split
            · rename_i nm ht
              have h2 : isStarE a = false := by simp at hst; exact hst.1
              exact snd_isi1 xg.toXOk so hs ht h2 hg' hm (hf a)
            · exact pe_stuck
          · rename_i a ys j p'
            split
            · rename_i hl
              split
              · rename_i ns ht
                have h2 : isStarE a = false := by simp at hst; exact hst.1
                exact snd_isiT xg.toXOk so hs ht hl h2 hg' hm (hf a)
              · exact pe_stuck
            · exact pe_stuck
          · exact pe_stuck
        · split
          · rename_i b lo hi hb
            split
            · rename_i hl
              have hbc := snd_bcall xg.toXOk (p := p) (pos := pos) hb hl.1 hk hg' hm hst fun e _ => hf e
              split
              · exact snd_celIf hbc
              · exact hbc
            · exact pe_stuck
          · exact pe_stuck
      · exact pe_stuck
  · exact pe_stuck
theorem rng_tr {T : Tx} {g : Gh} {H : Hp} (lo : Int) : ∀ l : List Nat, TrL T g H (l.map fun (k : Nat) => PV.int (lo + k)) (l.map fun (i : Nat) => V.int (lo + i))
  | [] => .nil
  | a :: l => .cons (.int _) (rng_tr lo l)
theorem snd_lrng (xg : XG D N sc asg k X) {S : Sc} (so : ScOk D S) (hs : S.sc = sc) {x y : Str} {a : Expr} {p yp q pos : Pos} {ea : Ex} (hr : rngCall S x y = true) (hst : isStarE a = false) (ha : PE X a (tA D ea)) : PE X (.Call (.Name x p) [.Call (.Name y yp) [a] [] q] [] pos) (tA D (.lrng ea)) := by
  simp only [rngCall, Bool.and_eq_true, decide_eq_true_eq] at hr
  obtain ⟨⟨⟨⟨⟨rfl, rfl⟩, h1⟩, h2⟩, h3⟩, h4⟩ := hr
  have g1 : Gl X "list" := glB_gl xg.toXOk (by rw [← hs]; exact h1)
  have g2 : Gl X "range" := glB_gl xg.toXOk (by rw [← hs]; exact h2)
  have m1 : X.mg "list" = none := by rw [xg.mg]; exact so.free _ (by simpa using h3)
  have m2 : X.mg "range" = none := by rw [xg.mg]; exact so.free _ (by simpa using h4)
  refine PE.of (pe_listRg xg.calm g1 m1 (prg_1 g2 m2 ha (na := starEach_cons hst))) fun σ H Q ⟨n, g, e, te, h, ts, S, w⟩ => ?_
  simp only [evA] at w
  refine ⟨n, g, e, te, h, ts, S, Wp.bind w fun ra e1 h1 g1 H1 x _ E1 S1 r1 w1 => ?_⟩
  obtain ⟨g1', E1', S1', f1⟩ := S1.keep r1
  have w1' := w1.mono E1'
  cases q1 : rd ra e1 h1 with
  | none => rw [q1] at w1'; exact w1'.elim
  | some px =>
    rw [q1] at w1'
    cases px with
    | int j =>
      cases (S1'.rd f1 q1).int
      simp only at w1'
      split at w1'
      · rename_i hj
        refine ⟨j, rfl, ⟨by decide, by decide, by omega, by omega, by omega⟩, fun p hp => ?_⟩
        refine Wp.made w1' S1' (mk_lst hp ?_ ?_)
        · simp only [rgV, List.length_map, List.length_range]
          rw [← line_eq]
          show _ ≤ 16777216
          omega
        · exact rng_tr 0 _
      · exact w1'.elim
    | _ => exact w1'.elim
end
end PL

/-! Comprehensions as the compiler prints them; expressions. -/
namespace PL
open PySem PySem.Spec PyProof.Rows L2
theorem PS.of {X : Cx} {e : Stmt} {t t' : TS} (h : PS X e t) (i : ∀ Dn σ H, t' Dn σ H → t Dn σ H) : PS X e t' := ⟨fun pins s σ H Dn I q => h.run pins s σ H Dn I (i Dn σ H q)⟩
section
variable {D : Wd} {k : Nat} {X : Cx}
theorem allC {t : Tg} {own : List (Str × Nat)} (h : (tgIs t).all (own.map (·.2)).contains = true) : ∀ i ∈ tgIs t, i ∈ own.map (·.2) := fun i hi => by
  have := List.all_eq_true.mp h i hi
  simpa using this
theorem snd_comp {S : Sc} (xg : XG D S.N S.sc S.asg k X) (so : ScOk D S) {f : Sc → Expr → Ex} (hf : ∀ e, PE X e (tA D (f S e)))
    (hb : ∀ (scope : Scope) (X' : Cx), XG D.calm S.N (relS scope S.sc) (inBlk S scope).asg k X' → ∀ e, PE X' e (tA D.calm (f (inBlk S scope) e)) ∧ PT X' e (tT D.calm (f (inBlk S scope) e)))
    {elt : Expr} {gs : List Comprehension} {scope : Scope} {pos : Pos} :
    PE X (.ListComp elt gs scope pos) (tA D (cComp f S elt gs scope)) ∧ ∀ {i : Nat} {y : Str} {py spos : Pos}, X.N[i]? = some y → X.env.scope.names.lookup y = some .local → swapsWith (.ListComp elt gs scope pos) (some (.Name y py)) spos.line X.env = pure true →
      PS X (.Assign [.Name y py] (.ListComp elt gs scope pos) spos) (tAsg (tA D (cComp f S elt gs scope)) (gName i)) := by
  have stk : PE X (.ListComp elt gs scope pos) (tA D .stuck) ∧ ∀ {i : Nat} {y : Str} {py spos : Pos}, X.N[i]? = some y → X.env.scope.names.lookup y = some .local → swapsWith (.ListComp elt gs scope pos) (some (.Name y py)) spos.line X.env = pure true →
      PS X (.Assign [.Name y py] (.ListComp elt gs scope pos) spos) (tAsg (tA D .stuck) (gName i)) :=
    ⟨pe_stuck, fun _ _ _ => ⟨fun pins s σ H Q I ⟨n, g, e', te, h, ts, S, w⟩ => by simp only [evA] at w; exact w.elim⟩⟩
  have xb : ∀ (s : Shared) (H : Hp) (C : Addr) (cl : List (Str × Addr)) (fp : List Addr), XG D.calm S.N (relS scope S.sc) (inBlk S scope).asg k (X.blk s H scope (compEnvC scope cl C X.env) fp) := fun s H C cl fp => xg.blk scope
  have sb : ScOk D.calm (inBlk S scope) := so.blk scope
  unfold cComp
  simp only
  split
  · rename_i hblk
    have hbk : BlkOk X.N X.env.scope scope (ownOf S.N scope) := by rw [xg.hN, xg.hsc]; exact blkOk_by hblk
    split
    · rename_i tg it ifs
      split
      · exact stk
      · rename_i hset
        simp only [Bool.not_eq_true] at hset
        split
        · rename_i t ht
          split
          · rename_i hall
            have hsub := allC hall
            have hi : PI X tg it (tI D (cIt f S it (isTup tg))) := snd_it xg.toXOk so rfl hf
            have hg := fun s H C cl fp => snd_tg (X := X.blk s H scope (compEnvC scope cl C X.env) fp) (xb s H C cl fp) (S := inBlk S scope) rfl rfl rfl 8 tg t ht
            have hts := fun s H C cl fp => snd_ifs (D := D.calm) (X := X.blk s H scope (compEnvC scope cl C X.env) fp) (S := inBlk S scope) (f := f) (ifs := ifs) fun e => (hb scope _ (xb s H C cl fp) e).2
            have he := fun s H C cl fp => (hb scope (X.blk s H scope (compEnvC scope cl C X.env) fp) (xb s H C cl fp) elt).1
            refine ⟨PE.of (pe_lc xg.calm (by rw [xg.hN]; exact xg.nd) hi hbk hg hts he (fun x => foldSet hset _ x)) fun _ _ _ q => imp_lc1 hsub q, fun h1 h2 h3 => ?_⟩
            exact PS.of (ps_setLc xg.calm (by rw [xg.hN]; exact xg.nd) h1 h2 h3 hi hbk hg hts he (fun x => foldSet hset _ x)) fun _ _ _ q => imp_lc1 hsub q
          · exact stk
        · exact stk
    · rename_i tg it ifs tg1 it1 ifs1
      split
      · exact stk
      · rename_i hset
        simp only [Bool.or_eq_true, not_or, Bool.not_eq_true] at hset
        split
        · rename_i t t1 ht ht1
          split
          · rename_i hall
            simp only [Bool.and_eq_true] at hall
            have hsub := allC hall.1.1
            have hsub1 := allC hall.1.2
            have hi : PI X tg it (tI D (cIt f S it (isTup tg))) := snd_it xg.toXOk so rfl hf
            have hg := fun s H C cl fp => snd_tg (X := X.blk s H scope (compEnvC scope cl C X.env) fp) (xb s H C cl fp) (S := inBlk S scope) rfl rfl rfl 8 tg t ht
            have hts := fun s H C cl fp => snd_ifs (D := D.calm) (X := X.blk s H scope (compEnvC scope cl C X.env) fp) (S := inBlk S scope) (f := f) (ifs := ifs) fun e => (hb scope _ (xb s H C cl fp) e).2
            have hg1 := fun s H C cl fp => snd_tg (X := X.blk s H scope (compEnvC scope cl C X.env) fp) (xb s H C cl fp) (S := inBlk S scope) rfl rfl rfl 8 tg1 t1 ht1
            have hts1 := fun s H C cl fp => snd_ifs (D := D.calm) (X := X.blk s H scope (compEnvC scope cl C X.env) fp) (S := inBlk S scope) (f := f) (ifs := ifs1) fun e => (hb scope _ (xb s H C cl fp) e).2
            have hi1 := fun s H C cl fp => snd_it (X := X.blk s H scope (compEnvC scope cl C X.env) fp) (tg := tg1) (it := it1) (xb s H C cl fp).toXOk sb rfl fun e => (hb scope _ (xb s H C cl fp) e).1
            have he := fun s H C cl fp => (hb scope (X.blk s H scope (compEnvC scope cl C X.env) fp) (xb s H C cl fp) elt).1
            refine ⟨PE.of (pe_lc2 xg.calm (by rw [xg.hN]; exact xg.nd) hi hbk hsub1 hg hts hi1 hg1 hts1 he (fun x => foldSet hset.1 _ x) (fun _ x => foldSet hset.2 _ x)) fun _ _ _ q => imp_lc2 hsub hsub1 q, fun h1 h2 h3 => ?_⟩
            exact PS.of (ps_setLc2 xg.calm (by rw [xg.hN]; exact xg.nd) h1 h2 h3 hi hbk hsub1 hg hts hi1 hg1 hts1 he (fun x => foldSet hset.1 _ x) (fun _ x => foldSet hset.2 _ x)) fun _ _ _ q => imp_lc2 hsub hsub1 q
          · exact stk
        · exact stk
    · exact stk
  · exact stk

theorem snd_dcomp {S : Sc} (xg : XG D S.N S.sc S.asg k X) (so : ScOk D S) {f : Sc → Expr → Ex} (hf : ∀ e, PE X e (tA D (f S e)))
    (hb : ∀ (scope : Scope) (X' : Cx), XG D.calm S.N (relS scope S.sc) (inBlk S scope).asg k X' → ∀ e, PE X' e (tA D.calm (f (inBlk S scope) e)) ∧ PT X' e (tT D.calm (f (inBlk S scope) e)))
    {kx vx : Expr} {gs : List Comprehension} {scope : Scope} {pos : Pos} :
    PE X (.DictComp kx vx gs scope pos) (tA D (cDComp f S kx vx gs scope)) ∧ ∀ {i : Nat} {y : Str} {py spos : Pos}, X.N[i]? = some y → X.env.scope.names.lookup y = some .local → swapsWith (.DictComp kx vx gs scope pos) (some (.Name y py)) spos.line X.env = pure true →
      PS X (.Assign [.Name y py] (.DictComp kx vx gs scope pos) spos) (tAsg (tA D (cDComp f S kx vx gs scope)) (gName i)) := by
  have stk : PE X (.DictComp kx vx gs scope pos) (tA D .stuck) ∧ ∀ {i : Nat} {y : Str} {py spos : Pos}, X.N[i]? = some y → X.env.scope.names.lookup y = some .local → swapsWith (.DictComp kx vx gs scope pos) (some (.Name y py)) spos.line X.env = pure true →
      PS X (.Assign [.Name y py] (.DictComp kx vx gs scope pos) spos) (tAsg (tA D .stuck) (gName i)) :=
    ⟨pe_stuck, fun _ _ _ => ⟨fun pins s σ H Q I ⟨n, g, e', te, h, ts, S, w⟩ => by simp only [evA] at w; exact w.elim⟩⟩
  have xb : ∀ (s : Shared) (H : Hp) (C : Addr) (cl : List (Str × Addr)) (fp : List Addr), XG D.calm S.N (relS scope S.sc) (inBlk S scope).asg k (X.blk s H scope (compEnvC scope cl C X.env) fp) := fun s H C cl fp => xg.blk scope
  unfold cDComp
  simp only
  split
  · rename_i hblk
    have hbk : BlkOk X.N X.env.scope scope (ownOf S.N scope) := by rw [xg.hN, xg.hsc]; exact blkOk_by hblk
    split
    · rename_i tg it ifs
      split
      · exact stk
      · rename_i hset
        simp only [Bool.not_eq_true] at hset
        split
        · rename_i t ht
          split
          · rename_i hall
            have hsub := allC hall
            have hi : PI X tg it (tI D (cIt f S it (isTup tg))) := snd_it xg.toXOk so rfl hf
            have hg := fun s H C cl fp => snd_tg (X := X.blk s H scope (compEnvC scope cl C X.env) fp) (xb s H C cl fp) (S := inBlk S scope) rfl rfl rfl 8 tg t ht
            have hts := fun s H C cl fp => snd_ifs (D := D.calm) (X := X.blk s H scope (compEnvC scope cl C X.env) fp) (S := inBlk S scope) (f := f) (ifs := ifs) fun e => (hb scope _ (xb s H C cl fp) e).2
            have hk := fun s H C cl fp => (hb scope (X.blk s H scope (compEnvC scope cl C X.env) fp) (xb s H C cl fp) kx).1
            have he := fun s H C cl fp => (hb scope (X.blk s H scope (compEnvC scope cl C X.env) fp) (xb s H C cl fp) vx).1
            refine ⟨PE.of (pe_dc xg.calm (by rw [xg.hN]; exact xg.nd) hi hbk hg hts hk he (fun x => foldSet hset _ x)) fun _ _ _ q => imp_dc hsub q, fun h1 h2 h3 => ?_⟩
            exact PS.of (ps_setDc xg.calm (by rw [xg.hN]; exact xg.nd) h1 h2 h3 hi hbk hg hts hk he (fun x => foldSet hset _ x)) fun _ _ _ q => imp_dc hsub q
          · exact stk
        · exact stk
    · exact stk
  · exact stk
theorem plain_dcomp {S : Sc} {f : Sc → Expr → Ex} {kx vx : Expr} {gs : List Comprehension} {scope : Scope} : plainX (cDComp f S kx vx gs scope) = true := by
  unfold cDComp
  repeat' split
  all_goals first | rfl | (simp only []; repeat' split) <;> rfl

theorem xgblk_any {S : Sc} {scope : Scope} : (inBlk S scope).N = S.N ∧ (inBlk S scope).sc = relS scope S.sc := ⟨rfl, rfl⟩
theorem cBools_nn {op : BoolOp} {f : Expr → Ex} (h : ∀ e, f e ≠ .nil) : ∀ vs, cBools op f vs ≠ .nil
  | [] => by simp [cBools]
  | [a] => h a
  | a :: b :: r => by cases op <;> simp [cBools]
theorem plain_nn {ex : Ex} (h : plainX ex = true) : ex ≠ .nil := fun e => by rw [e] at h; cases h
theorem cE_nn : ∀ (m : Nat) (S : Sc) (e : Expr), cE m S e ≠ .nil
  | 0, _, _ => fun h => Ex.noConfusion h
  | m + 1, S, e => by
    unfold cE
    split
    · unfold cName
      repeat' split
      all_goals exact fun h => Ex.noConfusion h
    · rename_i c j pos
      cases c <;> exact fun h => Ex.noConfusion h
    · split <;> exact fun h => Ex.noConfusion h
    · exact fun h => Ex.noConfusion h
    · exact fun h => Ex.noConfusion h
    · exact cBools_nn (cE_nn m S) _
    · repeat' split
      all_goals exact fun h => Ex.noConfusion h
    · repeat' split
      all_goals exact fun h => Ex.noConfusion h
    · exact fun h => Ex.noConfusion h
    · split
      · exact plain_nn (plain_celIf rfl)
      · exact fun h => Ex.noConfusion h
    · split <;> exact fun h => Ex.noConfusion h
    · exact fun h => Ex.noConfusion h
    · repeat' split
      all_goals exact fun h => Ex.noConfusion h
    · exact fun h => Ex.noConfusion h
    · split <;> exact fun h => Ex.noConfusion h
    · split
      · exact plain_nn (plain_celIf rfl)
      · exact plain_nn plain_call
    · exact plain_nn plain_call
    · repeat' split
      all_goals exact fun h => Ex.noConfusion h
    · exact plain_nn plain_dcomp
    · exact plain_nn (plain_celIf plain_comp)
    · exact fun h => Ex.noConfusion h
theorem snd_E : ∀ (m : Nat) (D : Wd) (S : Sc) (X : Cx), XG D S.N S.sc S.asg k X → ScOk D S → FnsOk D k → (∀ z ∈ S.kws, z ∈ D.kw) → ∀ e, PE X e (tA D (cE m S e)) ∧ PT X e (tT D (cE m S e))
  | 0, D, S, X, _, _, _, _, e => ⟨pe_stuck, pt_stuck⟩
  | m + 1, D, S, X, xg, so, F, kw, e => by
    have ih := snd_E m D S X xg so F kw
    have ihb : ∀ (scope : Scope) (X' : Cx), XG D.calm S.N (relS scope S.sc) (inBlk S scope).asg k X' → ∀ e, PE X' e (tA D.calm (cE m (inBlk S scope) e)) ∧ PT X' e (tT D.calm (cE m (inBlk S scope) e)) :=
      fun scope X' xg' => snd_E m D.calm (inBlk S scope) X' xg' (so.blk scope) F.calm kw
    have stk : PE X e (tA D .stuck) ∧ PT X e (tT D .stuck) := ⟨pe_stuck, pt_stuck⟩
    have ok := xg.toXOk
    have pl : ∀ {ex : Ex}, PE X e (tA D ex) → plainX ex = true → (∀ whole, isTrue e X.env whole = (do let v ← whole; standAt e.pos; holding [v] (PySem.truthy v))) → PE X e (tA D ex) ∧ PT X e (tT D ex) := fun h p he => ⟨h, pt_plain ok p h he⟩
    unfold cE
    split
    · refine pl (snd_name ok so rfl rfl) ?_ (fun _ => rfl)
      unfold cName
      repeat' split
      all_goals rfl
    · rename_i c j pos
      refine pl snd_const ?_ (fun _ => rfl)
      cases c <;> rfl
    · split
      · rename_i o ho
        exact pl (snd_bin ok ho (ih _).1 (ih _).1) rfl (fun _ => rfl)
      · exact stk
    · exact pl (snd_neg (ih _).1) rfl (fun _ => rfl)
    · exact ⟨snd_not ok (ih _).1, pt_notX (ih _).2⟩
    · exact ⟨snd_bools ok fun a _ => (ih a).1, (pw_bools fun a _ => (ih a).2).pt⟩
    · split
      · rename_i o ho
        split
        · exact stk
        · rename_i hs
          simp only [Bool.not_eq_true] at hs
          exact ⟨snd_cmp ok ho hs (ih _).1 (ih _).1, pt_cmpX ok ho hs (ih _).1 (ih _).1⟩
      · exact stk
    · split
      · rename_i o o' ho ho'
        split
        · exact stk
        · rename_i hs
          simp only [Bool.or_eq_true, not_or, Bool.not_eq_true] at hs
          exact ⟨snd_chain ok ho ho' hs.1 hs.2 (ih _).1 (ih _).1 (ih _).1, pt_chainX ok ho ho' hs.1 hs.2 (ih _).1 (ih _).1 (ih _).1⟩
      · exact stk
    · exact ⟨snd_ite (ih _).2 (ih _).1 (ih _).1, pt_iteX (ih _).2 (ih _).2 (ih _).2⟩
    · split
      · rename_i hc
        simp only [Bool.and_eq_true, decide_eq_true_eq] at hc
        exact pl (snd_celIf (snd_lstE hc.1 hc.2 fun e _ => (ih e).1)) (plain_celIf rfl) (fun _ => rfl)
      · exact stk
    · split
      · rename_i hc
        simp only [Bool.and_eq_true, decide_eq_true_eq] at hc
        exact pl (snd_tupE hc.1 hc.2 fun e _ => (ih e).1) rfl (fun _ => rfl)
      · exact stk
    · exact pl snd_dic0 rfl (fun _ => rfl)
    · split
      · exact stk
      · rename_i hs
        simp only [Bool.not_eq_true] at hs
        split
        · rename_i kvs hf
          exact pl (snd_sel ok hf hs (ih _).1) rfl (fun _ => rfl)
        · exact stk
    · rename_i a lo hi p2 pos _
      have opt : ∀ o : Option Expr, PO X o (tO D (match o with | some l => cE m S l | none => .nil)) := fun o => by
        cases o with
        | none => exact snd_optN
        | some l =>
          exact snd_optS (cE_nn m S l) (ih l).1
      exact pl (snd_sliE ok (ih _).1 (opt lo) (opt hi)) rfl (fun _ => rfl)
    · split
      · exact stk
      · rename_i hs
        simp only [Bool.not_eq_true] at hs
        exact pl (snd_idxE ok hs (ih _).1 (ih _).1) rfl (fun _ => rfl)
    · split
      · rename_i hr
        simp only [Bool.and_eq_true, Bool.not_eq_true'] at hr
        exact pl (snd_celIf (snd_lrng xg so rfl hr.1 hr.2 (ih _).1)) (plain_celIf rfl) (fun _ => rfl)
      · exact pl (snd_callX xg so kw rfl F fun e => (ih e).1) plain_call (fun _ => rfl)
    · exact pl (snd_callX xg so kw rfl F fun e => (ih e).1) plain_call (fun _ => rfl)
    · split
      · rename_i hc
        simp only [Bool.and_eq_true, decide_eq_true_eq] at hc
        obtain ⟨⟨⟨h1, h2⟩, h3⟩, h4⟩ := hc
        split
        · rename_i mk hm
          exact pl (snd_meth ok hm h1 h2 h3 h4 (ih _).1 fun e _ => (ih e).1) rfl (fun _ => rfl)
        · split
          · rename_i hm
            obtain ⟨rfl, hl⟩ := hm
            exact pl (snd_midx ok hl h1 h2 h4 (ih _).1 fun e _ => (ih e).1) rfl (fun _ => rfl)
          · exact stk
      · exact stk
    · exact pl (snd_dcomp xg so (fun e => (ih e).1) ihb).1 plain_dcomp (fun _ => rfl)
    · exact pl (snd_celIf (snd_comp xg so (fun e => (ih e).1) ihb).1) (plain_celIf plain_comp) (fun _ => rfl)
    · exact stk
end
end PL

/-! Statements. -/
namespace PL
open PySem PySem.Spec PyProof.Rows L2
section
variable (D : Wd)
/-- a statement's run -/
def WS (n : En) (te : Env) (ts : List (Option V)) (Dn : Ends) (o : Out Fl) (g : Gh) (H : Hp) : Prop :=
  match o with
  | .ok fl e h => ∀ g' H' σ', Ext g H g' H' → SimT D.T n g' e te h σ' ts H' → match fl with
    | .next => Dn.nx σ' H'
    | .brk => Dn.bk σ' H'
    | .cont => Dn.ct σ' H'
    | .ret p fr => ∀ v, Res D.T n g' H' (e ++ te) (σ' ++ ts) p fr v → Dn.rt v H'
  | .exc c fs e h => ∀ g' H' cls d σ', Ext g H g' H' → SimT D.T n g' e te h σ' ts H' → ExcAt D.T D.cs g' H' c fs cls d → D.W cls d σ' H'
  | .stuck => False
def tS (s : Sm) : TS := fun Dn σ H => Go D σ H fun n g e te h ts => WS D n te ts Dn (evS D.C s e h) g H
end
section
variable {D : Wd} {n : En} {σ : List (Option V)} {te : Env} {ts : List (Option V)} {g : Gh} {H : Hp}
theorem WS.mono {o : Out Fl} {Dn : Ends} {g1 : Gh} {H1 : Hp} (E : Ext g H g1 H1) (h : WS D n te ts Dn o g H) : WS D n te ts Dn o g1 H1 := by
  cases o with
  | ok r e h' => exact fun g' H' w E' S => h g' H' w (E.trans E') S
  | exc c fs e h' => exact fun g' H' cls d w E' S r => h g' H' cls d w (E.trans E') S r
  | stuck => exact h
/-- a part is an expression -/
theorem WS.bindA {α β : Type} {relA : Gh → Hp → Env → α → β → Prop} {o : Out α} {f : α → Env → Hs → Out Fl} {Dn : Ends} {P : β → Hp → Prop}
    (h : WS D n te ts Dn (o.bind f) g H)
    (k : ∀ r e' h' g' H' w, o = .ok r e' h' → Ext g H g' H' → SimT D.T n g' e' te h' σ ts H' → relA g' H' e' r w → WS D n te ts Dn (f r e' h') g' H' → P w H') : Wp D n σ te ts relA o g H P := by
  cases o with
  | ok r e h' => exact fun g' H' w E S q => k r e h' g' H' w rfl E S q (h.mono E)
  | exc c fs e h' => exact fun g' H' cls d E S x => h g' H' cls d σ E S x
  | stuck => exact h
/-- a part is a statement -/
theorem WS.bindS {o : Out Fl} {f : Fl → Env → Hs → Out Fl} {Dn Dm : Ends} (h : WS D n te ts Dn (o.bind f) g H)
    (k : ∀ fl e' h' g' H' σ', o = .ok fl e' h' → Ext g H g' H' → SimT D.T n g' e' te h' σ' ts H' → WS D n te ts Dn (f fl e' h') g' H' → match fl with
      | .next => Dm.nx σ' H'
      | .brk => Dm.bk σ' H'
      | .cont => Dm.ct σ' H'
      | .ret p fr => ∀ v, Res D.T n g' H' (e' ++ te) (σ' ++ ts) p fr v → Dm.rt v H') : WS D n te ts Dm o g H := by
  cases o with
  | ok r e h' => exact fun g' H' σ' E S => k r e h' g' H' σ' rfl E S (h.mono E)
  | exc c fs e h' => exact h
  | stuck => exact h
end
section
variable {D : Wd} {k : Nat} {X : Cx} {S : Sc}
theorem ps_stuck {e : Stmt} : PS X e (tS D .stuck) := ⟨fun pins s σ H Q I ⟨n, g, e', te, h, ts, S, w⟩ => by simp only [evS] at w; exact w.elim⟩
theorem sw_trueD {kx vx : Expr} {gs : List Comprehension} {scope : Scope} {pos py : Pos} {y : Str} {l : Nat} {env : PySem.Env} (h1 : env.scope.kind = .function) (h2 : env.scope.names.lookup y = some .local) (h3 : (py.line == pos.line) = true)
    (h4 : (scope.names.any fun (n, k) => n == y && (k == .local || k == .cell)) = false) : swapsWith (.DictComp kx vx gs scope pos) (some (.Name y py)) l env = pure true :=
  sw_true (elt := kx) (gs := gs) (scope := scope) (pos := pos) (py := py) (y := y) (l := l) (env := env) h1 h2 h3 h4
theorem lcFits_sw (hk : X.env.scope.kind = .function) (hs : X.env.scope = S.sc) {x : Str} {px : Pos} {e : Expr} {l : Nat} (h : lcFits S x px e = true) :
    (swapsWith e (some (.Name x px)) l X.env = pure false) ∨ (∃ a b c d, e = .ListComp a b c d ∧ X.env.scope.names.lookup x = some .local ∧ swapsWith e (some (.Name x px)) l X.env = pure true)
      ∨ (∃ a a' b c d, e = .DictComp a a' b c d ∧ X.env.scope.names.lookup x = some .local ∧ swapsWith e (some (.Name x px)) l X.env = pure true) := by
  cases e <;> first | exact .inl rfl | (simp [lcFits] at h; done) | skip
  · rename_i elt gs scope pos
    simp only [lcFits, Bool.or_eq_true, Bool.and_eq_true, beq_iff_eq, Bool.not_eq_true'] at h
    rcases h with h | h
    · refine .inl ?_
      have kx : (X.env.kindOf x == some .local) = false := by show (X.env.scope.names.lookup x == some .local) = false; rw [hs]; exact h
      unfold swapsWith
      simp only [kx, Bool.and_false, Bool.false_and]
    · obtain ⟨⟨h1, h2⟩, h3⟩ := h
      exact .inr (.inl ⟨_, _, _, _, rfl, by rw [hs]; exact h1, sw_true hk (by rw [hs]; exact h1) (by simpa using h2) h3⟩)
  · rename_i kx vx gs scope pos
    simp only [lcFits, Bool.or_eq_true, Bool.and_eq_true, beq_iff_eq, Bool.not_eq_true'] at h
    rcases h with h | h
    · refine .inl ?_
      have kx : (X.env.kindOf x == some .local) = false := by show (X.env.scope.names.lookup x == some .local) = false; rw [hs]; exact h
      unfold swapsWith
      simp only [kx, Bool.and_false, Bool.false_and]
    · obtain ⟨⟨h1, h2⟩, h3⟩ := h
      exact .inr (.inr ⟨_, _, _, _, _, rfl, by rw [hs]; exact h1, sw_trueD hk (by rw [hs]; exact h1) (by simpa using h2) h3⟩)
theorem snd_asg {tg e : Expr} {i : Nat} {ex : Ex} {pos : Pos} (h : PS X (.Assign [tg] e pos) (tAsg (tA D ex) (gName i))) : PS X (.Assign [tg] e pos) (tS D (.asg i ex)) :=
  PS.of h fun Dn σ H ⟨n, g, e, te, h, ts, S', w⟩ => by
    simp only [evS] at w
    refine ⟨n, g, e, te, h, ts, S', WS.bindA w fun r e1 h1 g1 H1 x _ E1 S1 r1 w1 => ?_⟩
    cases q : esc r e1 with
    | none => rw [q] at w1; exact w1.elim
    | some z =>
      obtain ⟨p, fr, e2⟩ := z
      rw [q] at w1
      simp only at w1
      split at w1
      · rename_i hi
        obtain ⟨g2, E2, S2, r2⟩ := S1.esc r1 q
        exact w1 g2 H1 _ E2 (S2.setRes hi r2)
      · exact w1.elim
theorem snd_tasg {tg e : Expr} {t : Tg} {ex : Ex} {pos : Pos} (h : PS X (.Assign [tg] e pos) (tAsg (tA D ex) (tG D t))) : PS X (.Assign [tg] e pos) (tS D (.tasg t ex)) :=
  PS.of h fun Dn σ H ⟨n, g, e, te, h, ts, S', w⟩ => by
    simp only [evS] at w
    refine ⟨n, g, e, te, h, ts, S', WS.bindA w fun r e1 h1 g1 H1 x _ E1 S1 r1 w1 => ?_⟩
    cases q : PL.esc r e1 with
    | none => rw [q] at w1; exact w1.elim
    | some z =>
      obtain ⟨p, fr, e2⟩ := z
      rw [q] at w1
      simp only at w1
      cases q2 : bindT t p e2 with
      | none => rw [q2] at w1; exact w1.elim
      | some e3 =>
        rw [q2] at w1
        obtain ⟨g2, E2, S2, t2⟩ := S1.escF r1 q
        exact ⟨n, g2, e2, te, h1, ts, S2, p, e3, t2, q2, fun σ' S3 _ => w1 g2 H1 σ' E2 S3⟩
/-- what is in flight, behind a store to a slot -/
theorem Res.reset {n : En} {g : Gh} {H : Hp} {e te : Env} {σ : L2.St} {ts : List (Option V)} {i : Nat} {s : SV} {x : V} {q : PV} {fr : Bool} {y : V} (hl : e.length = σ.length) (hi : i < e.length) (hs : ∀ p, s = .own p → x ≠ y) (r : Res D.T n g H (e ++ te) (σ ++ ts) q fr y) :
    Res D.T n g H (e.set i s ++ te) (σ.set i (some x) ++ ts) q fr y := by
  cases fr with
  | false => cases q <;> exact r
  | true =>
    cases q with
    | lst xs =>
      obtain ⟨a, rfl, o, ap⟩ := r
      refine ⟨a, rfl, o, fun k p hk hw => ?_⟩
      rw [← List.set_append_left _ _ hi] at hk
      rw [← List.set_append_left _ _ (by rw [← hl]; exact hi)] at hw
      rcases getElem?_set_or hk with ⟨rfl, h2⟩ | ⟨hne, hk'⟩
      · rw [List.getElem?_set_self (by rw [List.length_append, ← hl]; omega)] at hw
        cases hw
        exact hs p h2.symm rfl
      · rw [List.getElem?_set_ne (Ne.symm hne)] at hw
        exact ap k p hk' hw
    | _ => exact r
theorem Res.unpush {n : En} {g : Gh} {H : Hp} {e te : Env} {σ : L2.St} {ts : List (Option V)} {s : SV} {x : V} {q : PV} {fr : Bool} {y : V} (hl : (e ++ te).length = (σ ++ ts).length) (r : Res D.T n g H (e ++ (te ++ [s])) (σ ++ (ts ++ [some x])) q fr y) :
    Res D.T n g H (e ++ te) (σ ++ ts) q fr y ∧ ∀ p xs, s = .own p → q = .lst xs → fr = true → x ≠ y := by
  rw [← List.append_assoc, ← List.append_assoc] at r
  cases fr with
  | false => exact ⟨by cases q <;> exact r, fun _ _ _ _ h => by cases h⟩
  | true =>
    cases q with
    | lst xs =>
      obtain ⟨a, rfl, o, ap⟩ := r
      refine ⟨⟨a, rfl, o, fun k p hk hw => ?_⟩, fun p xs hs _ _ => ?_⟩
      · have hlt := (List.getElem?_eq_some_iff.mp hk).1
        exact ap k p (by rw [List.getElem?_append_left hlt]; exact hk) (by rw [List.getElem?_append_left (by rw [← hl]; exact hlt)]; exact hw)
      · subst hs
        intro hx
        subst hx
        refine ap (e ++ te).length p ?_ ?_
        · rw [List.getElem?_append_right (Nat.le_refl _)]; simp
        · rw [hl, List.getElem?_append_right (Nat.le_refl _)]; simp
    | _ => exact ⟨r, fun _ _ _ h => by cases h⟩
theorem snd_par {e1 e2 : Expr} {x y : Str} {px py pt pt2 : Pos} {kt k2 : Nat} {i j : Nat} {ea eb : Ex} {pos : Pos} (h : PS X (.Assign [.Tuple [.Name x px, .Name y py] kt pt] (.Tuple [e1, e2] k2 pt2) pos) (tPar i j (tCons (tA D ea) (tCons (tA D eb) tNil)))) :
    PS X (.Assign [.Tuple [.Name x px, .Name y py] kt pt] (.Tuple [e1, e2] k2 pt2) pos) (tS D (.par i j ea eb)) :=
  PS.of h fun Dn σ H ⟨n, g, e, te, h, ts, S', w⟩ => by
    simp only [evS] at w
    refine ⟨n, g, e, te, h, ts, S', WS.bindA w fun r e1 h1 g1 H1 x _ E1 S1 r1 w1 => ?_⟩
    cases q : PL.esc r e1 with
    | none => rw [q] at w1; exact w1.elim
    | some z =>
      obtain ⟨p, fr, e2⟩ := z
      rw [q] at w1
      simp only at w1
      obtain ⟨g2, E2, S2, r2⟩ := S1.esc r1 q
      have w2 := w1.mono E2
      have plain : Tr D.T g2 H1 p x → PL.mk p fr = .val p → tCons (tA D eb) tNil σ H1 fun xs H2 => ∃ v w, x :: xs = [v, w] ∧ Dn.nx ((σ.set i (some v)).set j (some w)) H2 := fun t hmk => by
        refine ⟨n, g2, e2, te, h1, ts, S2, WS.bindA w2 fun r3 e3 h3 g3 H3 y _ E3 S3 r3 w3 => ?_⟩
        cases q3 : PL.esc ‹Rs› e3 with
        | none => rw [q3] at w3; exact w3.elim
        | some z =>
          obtain ⟨p4, fr4, e4⟩ := z
          rw [q3] at w3
          simp only at w3
          split at w3
          · rename_i hc
            obtain ⟨g4, E4, S4, r4⟩ := S3.esc r3 q3
            rw [hmk] at w3
            refine ⟨_, _, rfl, w3 g4 H3 _ E4 ?_⟩
            exact (S4.setVal hc.1 ((t.ext E3).ext E4)).setRes (by simpa using hc.2) (Res.reset S4.l1 hc.1 (fun _ h => by cases h) r4)
          · exact w3.elim
      cases fr with
      | false => exact plain (by cases p <;> exact r2) (by cases p <;> rfl)
      | true =>
        cases p with
        | lst xs =>
          obtain ⟨a, rfl, o, ap⟩ := r2
          have S2' := S2.push o ap
          refine ⟨n, g2, e2, te ++ [.own (.lst xs)], h1, ts ++ [some (.ref a)], S2', ?_⟩
          cases qb : evA D.C eb e2 h1 with
          | stuck => rw [qb] at w2; exact w2.elim
          | exc c fs e3 h3 => rw [qb] at w2 ⊢; exact fun g' H' cls d E' S3 xx => w2 g' H' cls d σ E' S3.pop xx
          | ok r3 e3 h3 =>
            rw [qb] at w2 ⊢
            intro g3 H3 y E3 S3 r3'
            simp only [Out.bind] at w2
            cases q3 : PL.esc r3 e3 with
            | none => rw [q3] at w2; exact w2.elim
            | some z =>
              obtain ⟨p4, fr4, e4⟩ := z
              rw [q3] at w2
              simp only at w2
              split at w2
              · rename_i hc
                obtain ⟨g4, E4, S4, r4⟩ := S3.esc r3' q3
                obtain ⟨a', ea', o4, ap4⟩ := S4.top
                cases ea'
                have S5 := S4.pop
                obtain ⟨r5, hne⟩ := Res.unpush (by rw [List.length_append, List.length_append, S5.l1, S5.l2]) r4
                have S6 := S5.setOwn hc.1 o4 ap4
                refine ⟨_, _, rfl, w2 g4 H3 _ (E3.trans E4) ?_⟩
                show SimT D.T n g4 ((e4.set i (SV.own (.lst xs))).set j (PL.mk p4 fr4)) te h3 ((σ.set i (some (.ref a))).set j (some y)) ts H3
                refine S6.setRes (by simpa using hc.2) ?_
                by_cases hf : fr4 = true ∧ ∃ ys, p4 = .lst ys
                · obtain ⟨hf, ys, hp⟩ := hf
                  exact Res.reset S5.l1 hc.1 (fun p hp' => hne _ ys rfl hp hf) r5
                · cases fr4 with
                  | false => cases p4 <;> exact r5
                  | true =>
                    cases p4 with
                    | lst ys => exact absurd ⟨rfl, ys, rfl⟩ hf
                    | _ => exact r5
              · exact w2.elim
        | _ => exact plain r2 rfl
theorem snd_seti {o i e : Expr} {eo ei ex : Ex} {tpos pos : Pos} (h : PS X (.Assign [.Subscript o i tpos] e pos) (tAsg (tA D ex) (gSub (tA D eo) (tA D ei) rSetL))) : PS X (.Assign [.Subscript o i tpos] e pos) (tS D (.seti eo ei ex)) :=
  PS.of h fun Dn σ H ⟨n, g, e, te, h, ts, S', w⟩ => by
    simp only [evS] at w
    refine ⟨n, g, e, te, h, ts, S', WS.bindA w fun r e1 h1 g1 H1 x _ E1 S1 r1 w1 => ?_⟩
    cases q : PL.esc r e1 with
    | none => rw [q] at w1; exact w1.elim
    | some z =>
      obtain ⟨p, fr, e2⟩ := z
      rw [q] at w1
      simp only at w1
      obtain ⟨g2, E2, S2, t2⟩ := S1.escF r1 q
      have w2 := w1.mono E2
      refine ⟨n, g2, e2, te, h1, ts, S2, WS.bindA w2 fun ro e3 h3 g3 H3 xo _ E3 S3 r3 w3 => ?_⟩
      obtain ⟨g3', E3', S3', f3⟩ := S3.keep r3
      have w3' := w3.mono E3'
      refine ⟨n, g3', e3, te, h3, ts, S3', WS.bindA w3' fun ri e4 h4 g4 H4 xi _ E4 S4 r4 w4 => ?_⟩
      obtain ⟨g4', E4', S4', f4⟩ := S4.keep r4
      have w4' := w4.mono E4'
      cases q1 : mut? ro e4 h4 with
      | none => rw [q1] at w4'; exact w4'.elim
      | some xs =>
        cases q2 : PL.rd ri e4 h4 with
        | none => rw [q1, q2] at w4'; exact w4'.elim
        | some pi =>
          rw [q1, q2] at w4'
          cases pi with
          | int kk =>
            simp only at w4'
            cases q3 : PL.ixN xs.length kk with
            | none => rw [q3] at w4'; exact w4'.elim
            | some j =>
              rw [q3] at w4'
              have Eo := (E3'.trans E4).trans E4'
              obtain ⟨a, ws, rfl, ha, hl, tx, hput⟩ := S4'.mut ((f3.ext E4).ext E4') q1
              have hi : xi = .int kk := by have := S4'.rd f4 q2; cases this; rfl
              subst hi
              have E24 : Ext g2 H1 g4' H4 := ((E3.trans E3').trans E4).trans E4'
              obtain ⟨E5, S5⟩ := hput (xs.set j p) (ws.set j x) (by simpa using hl) (TrL.set (t2.ext E24) j tx)
              have hs := seq_of q3
              rw [tx.length] at q3 hs
              exact ⟨a, ws, kk, j, rfl, rfl, ha, by first | exact hs | exact q3, w4' g4' _ σ E5 S5⟩
          | _ => exact w4'.elim
theorem snd_exprS {e : Expr} {ex : Ex} {pos : Pos} (h : PS X (.Expr e pos) (tDrop (tA D ex))) : PS X (.Expr e pos) (tS D (.expr ex)) :=
  PS.of h fun Dn σ H ⟨n, g, e, te, h, ts, S', w⟩ => by
    simp only [evS] at w
    exact ⟨n, g, e, te, h, ts, S', WS.bindA w fun r e1 h1 g1 H1 x _ E1 S1 r1 w1 => w1 g1 H1 σ (Ext.refl _ _) S1⟩
theorem snd_if {c : Expr} {a b : List Stmt} {ec : Ex} {sa sb : Sm} {pos : Pos} (hc : PT X c (tT D ec)) (ha : PSs X a (tS D sa)) (hb : PSs X b (tS D sb)) : PS X (.If c a b pos) (tS D (.ite ec sa sb)) :=
  PS.of (ps_if hc ha hb) fun Dn σ H ⟨n, g, e, te, h, ts, S', w⟩ => by
    simp only [evS] at w
    refine ⟨n, g, e, te, h, ts, S', WS.bindA w fun r e1 h1 g1 H1 x _ E1 S1 r1 w1 => ?_⟩
    cases r1
    cases r with
    | true => rw [if_pos rfl] at w1 ⊢; exact ⟨n, g1, e1, te, h1, ts, S1, w1⟩
    | false => rw [if_neg Bool.false_ne_true] at w1 ⊢; exact ⟨n, g1, e1, te, h1, ts, S1, w1⟩
theorem snd_seq {st : Stmt} {r : List Stmt} {sa sb : Sm} (ha : PS X st (tS D sa)) (hb : PSs X r (tS D sb)) : PSs X (st :: r) (tS D (.seq sa sb)) :=
  ⟨fun pins s σ H Dn I ⟨n, g, e, te, h, ts, S', w⟩ => by
    simp only [evS] at w
    refine (pss_cons ha hb).run pins s σ H Dn I ⟨n, g, e, te, h, ts, S', WS.bindS w fun fl e1 h1 g1 H1 σ1 _ E1 S1 w1 => ?_⟩
    cases fl with
    | next => exact ⟨n, g1, e1, te, h1, ts, S1, w1⟩
    | brk => exact w1 g1 H1 σ1 (Ext.refl _ _) S1
    | cont => exact w1 g1 H1 σ1 (Ext.refl _ _) S1
    | ret p fr => exact w1 g1 H1 σ1 (Ext.refl _ _) S1⟩
theorem snd_cSeq {f : Stmt → Sm} : ∀ {sts : List Stmt}, (∀ st ∈ sts, PS X st (tS D (f st))) → PSs X sts (tS D (cSeq (sts.map f)))
  | [], _ => ⟨fun pins s σ H Dn I ⟨n, g, e, te, h, ts, S', w⟩ => pss_nil.run pins s σ H Dn I (by
      simp only [List.map, cSeq, evS] at w
      exact w g H σ (Ext.refl _ _) S')⟩
  | [st], h => ⟨fun pins s σ H Dn I ⟨n, g, e, te, h', ts, S', w⟩ => by
      refine (pss_cons (h st List.mem_cons_self) pss_nil).run pins s σ H Dn I ⟨n, g, e, te, h', ts, S', ?_⟩
      simp only [List.map, cSeq] at w
      exact w⟩
  | st :: b :: r, h => snd_seq (h st List.mem_cons_self) (snd_cSeq (sts := b :: r) fun z hz => h z (List.mem_cons_of_mem _ hz))
theorem snd_retN {pos : Pos} : PS X (.Return none pos) (tS D (.ret (.con .non))) :=
  PS.of ps_retN fun Dn σ H ⟨n, g, e, te, h, ts, S', w⟩ => by
    simp only [evS, evA, Out.bind] at w
    exact w g H σ (Ext.refl _ _) S' .non .non
theorem snd_ret {e : Expr} {ex : Ex} {pos : Pos} (he : PE X e (tA D ex)) : PS X (.Return (some e) pos) (tS D (.ret ex)) :=
  PS.of (ps_ret he) fun Dn σ H ⟨n, g, e, te, h, ts, S', w⟩ => by
    simp only [evS] at w
    refine ⟨n, g, e, te, h, ts, S', WS.bindA w fun r e1 h1 g1 H1 x _ E1 S1 r1 w1 => ?_⟩
    cases r with
    | v p fr => exact w1 g1 H1 σ (Ext.refl _ _) S1 x r1
    | slot i =>
      simp only at w1
      have r1' : (σ ++ ts)[i]? = some (some x) := r1
      cases q : e1[i]? with
      | none => rw [q] at w1; exact w1.elim
      | some s =>
        rw [q] at w1
        have hi : i < e1.length := (List.getElem?_eq_some_iff.mp q).1
        have q' : (e1 ++ te)[i]? = some s := by rw [List.getElem?_append_left hi]; exact q
        cases s with
        | no => exact w1.elim
        | val p =>
          obtain ⟨w', e2, t⟩ := S1.sim.sl i _ q'
          rw [r1'] at e2
          cases e2
          exact w1 g1 H1 σ (Ext.refl _ _) S1 x (Res.old t)
        | own p =>
          obtain ⟨a, e2, o⟩ := S1.sim.sl i _ q'
          rw [r1'] at e2
          cases e2
          have l1 : (e1.set i SV.no).length = σ.length := by simpa using S1.l1
          have e3 : (e1.set i SV.no) ++ te = (e1 ++ te).set i SV.no := (List.set_append_left _ _ hi).symm
          have S2 : SimT D.T n g1 (e1.set i SV.no) te h1 σ ts H1 := ⟨l1, S1.l2, S1.sim.re (by rw [List.length_append, List.length_append, l1, S1.l2]) fun j s hj => by
            rw [e3] at hj
            rcases getElem?_set_or hj with ⟨_, rfl⟩ | ⟨_, hj'⟩
            · exact .inl rfl
            · exact .inr (.inr ⟨hj', rfl⟩)⟩
          refine w1 g1 H1 σ (Ext.refl _ _) S2 (.ref a) ?_
          cases p with
          | lst xs =>
            refine ⟨a, rfl, o, fun j qq hj hw => ?_⟩
            rw [e3] at hj
            rcases getElem?_set_or hj with ⟨_, hh⟩ | ⟨hne, hj'⟩
            · cases hh
            · exact hne (S1.sim.od j i _ _ _ hj' q' hw r1')
          | _ => exact o.at_.elim
/-! loops -/
theorem forLoop_cons {gd : Gd} {f : PV → Env → Hs → Out Fl} {x : PV} {xs : List PV} {e : Env} {h : Hs} (hg : gdOk gd h = true) : forLoop gd f (x :: xs) e h = (f x e h).bind fun r e1 h1 => match r with
    | .next => forLoop gd f xs e1 h1
    | .cont => forLoop gd f xs e1 h1
    | .brk => .ok .next e1 h1
    | .ret p fr => .ok (.ret p fr) e1 h1 := by
  first | (rw [forLoop, if_pos hg]; done) | (rw [forLoop, if_pos hg]; rfl)
theorem forLoop_gd {D : Wd} {n : En} {te : Env} {ts : List (Option V)} {Dn : Ends} {g : Gh} {H : Hp} {gd : Gd} {f : PV → Env → Hs → Out Fl} {xs : List PV} {e : Env} {h : Hs} (w : WS D n te ts Dn (forLoop gd f xs e h) g H) : gdOk gd h = true := by
  cases xs <;> unfold forLoop at w <;> split at w <;> first | assumption | exact w.elim
def ForInv (D : Wd) (n : En) (te : Env) (ts : List (Option V)) (gd : Gd) (f : PV → Env → Hs → Out Fl) (xs : List PV) (Dn : Ends) (g0 : Gh) (H0 : Hp) (i m : Nat) (σ : L2.St) (H : Hp) : Prop :=
  m = xs.length - i ∧ ∃ g e h, Ext g0 H0 g H ∧ SimT D.T n g e te h σ ts H ∧ WS D n te ts Dn (forLoop gd f (xs.drop i) e h) g H
theorem snd_for {tg it : Expr} {body : List Stmt} {t : Tg} {eit : Ex} {sb : Sm} {pos : Pos} (po : PassesOwn (model X.prog X.w) X.A X.env X.xe) (hc : X.calm = true) (hset : isSetE it = false) (hi : PI X tg it (tI D eit)) (hg : PG X tg (tG D t)) (hb : PSs X body (tS D sb)) :
    PS X (.For tg it body [] pos) (tS D (.for_ t eit sb)) :=
  PS.of (ps_for po hc hi hg hb (fun x => foldSet hset _ x)) fun Dn σ H ⟨n, g, e, te, h, ts, S', w⟩ => by
    simp only [evS] at w
    refine ⟨n, g, e, te, h, ts, S', WS.bindA w fun z e1 h1 g1 H1 J _ E1 S1 rJ w1 => ?_⟩
    obtain ⟨xs, gd⟩ := z
    replace rJ : ItRel D.T g1 H1 J xs gd := rJ
    generalize hf : (fun (x : PV) (e : Env) (h : Hs) => match bindT t x e with
      | some e' => evS D.C sb e' h
      | none => Out.stuck) = f at w1
    refine ⟨ForInv D n te ts gd f xs Dn g1 H1, ⟨xs.length, rfl, g1, e1, h1, Ext.refl _ _, S1, w1⟩, ?_⟩
    rintro i m σ4 H4 ⟨hm, g4, e4, h4, E4, S4, w4⟩
    have hgd := forLoop_gd w4
    have G4 := gd_of S4.sim hgd
    by_cases hlt : i < xs.length
    · refine .inr ⟨((rJ g4 H4 E4 S4.sim.fin G4 i).1 xs[i] (List.getElem?_eq_getElem hlt)).1, ForInv D n te ts gd f xs Dn g1 H1 (i + 1) (xs.length - (i + 1)), fun σ' H' hN => ⟨_, by omega, hN⟩, ?_⟩
      intro x H5 hy
      obtain ⟨Dn1, k1, k2, tx⟩ := ((rJ g4 H4 E4 S4.sim.fin G4 i).1 xs[i] (List.getElem?_eq_getElem hlt)).2 x H5 hy
      obtain ⟨E5, S5⟩ := S4.grow k1 k2
      rw [drop_cons hlt, forLoop_cons hgd] at w4
      have w5 := w4.mono E5
      have hfx : f xs[i] e4 h4 = (match bindT t xs[i] e4 with
        | some e' => evS D.C sb e' h4
        | none => Out.stuck) := by rw [← hf]
      rw [hfx] at w5
      cases q : bindT t xs[i] e4 with
      | none => rw [q] at w5; exact w5.elim
      | some e' =>
        rw [q] at w5
        refine ⟨n, _, e4, te, h4, ts, S5, xs[i], e', tx, q, fun σ6 S6 _ => ?_⟩
        refine ⟨n, _, e', te, h4, ts, S6, WS.bindS w5 fun fl e7 h7 g7 H7 σ7 _ E7 S7 w7 => ?_⟩
        have E17 := (E4.trans E5).trans E7
        cases fl with
        | next => exact ⟨rfl, g7, e7, h7, E17, S7, w7⟩
        | cont => exact ⟨rfl, g7, e7, h7, E17, S7, w7⟩
        | brk => exact w7 g7 H7 σ7 (Ext.refl _ _) S7
        | ret p fr => exact w7 g7 H7 σ7 (Ext.refl _ _) S7
    · refine .inl ⟨(rJ g4 H4 E4 S4.sim.fin G4 i).2 (by omega), ?_⟩
      rw [List.drop_eq_nil_of_le (by omega), forLoop, if_pos hgd] at w4
      exact w4 g4 H4 σ4 (Ext.refl _ _) S4
theorem snd_while {c : Expr} {body : List Stmt} {ec : Ex} {sb : Sm} {pos : Pos} (po : PassesOwn (model X.prog X.w) X.A X.env X.xe) (hc : PT X c (tT D ec)) (hb : PSs X body (tS D sb)) :
    PS X (.While c body [] pos) (tS D (.while_ ec sb)) :=
  PS.of (ps_while po hc hb) fun Dn σ H ⟨n, g, e, te, h, ts, S', w⟩ => by
    simp only [evS] at w
    refine ⟨fun m σ H => ∃ n g e te h ts, SimT D.T n g e te h σ ts H ∧ WS D n te ts Dn (whLoop (fun e h => evT D.C ec e h) (fun e h => evS D.C sb e h) m e h) g H, ⟨LF, n, g, e, te, h, ts, S', w⟩, ?_⟩
    rintro m σ1 H1 ⟨n, g1, e1, te, h1, ts, S1, w1⟩
    cases m with
    | zero => exact w1.elim
    | succ m =>
      unfold whLoop at w1
      refine ⟨n, g1, e1, te, h1, ts, S1, WS.bindA w1 fun r e2 h2 g2 H2 x _ E2 S2 r2 w2 => ?_⟩
      cases r2
      cases r with
      | false => rw [if_neg Bool.false_ne_true] at w2 ⊢; exact w2 g2 H2 σ1 (Ext.refl _ _) S2
      | true =>
        rw [if_pos rfl] at w2 ⊢
        refine ⟨fun σ' H' => ∃ n g e te h ts, SimT D.T n g e te h σ' ts H' ∧ WS D n te ts Dn (whLoop (fun e h => evT D.C ec e h) (fun e h => evS D.C sb e h) m e h) g H', fun σ' H' hN => ⟨m, by omega, hN⟩, n, g2, e2, te, h2, ts, S2, WS.bindS w2 fun fl e3 h3 g3 H3 σ3 _ E3 S3 w3 => ?_⟩
        cases fl with
        | next => exact ⟨n, g3, e3, te, h3, ts, S3, w3⟩
        | cont => exact ⟨n, g3, e3, te, h3, ts, S3, w3⟩
        | brk => exact w3 g3 H3 σ3 (Ext.refl _ _) S3
        | ret p fr => exact w3 g3 H3 σ3 (Ext.refl _ _) S3
theorem par_none (hs : X.env.scope = S.sc) {x y : Str} {px py pt pt2 : Pos} {kt k2 : Nat} {a b : Expr} (h : (!(S.sc.names.lookup x == some .local) || !(S.sc.names.lookup y == some .local)) = true) :
    swappedStores [.Tuple [.Name x px, .Name y py] kt pt] (.Tuple [a, b] k2 pt2) X.env = pure none := by
  have hx : (X.env.kindOf x == some .local) = (S.sc.names.lookup x == some .local) := by show (X.env.scope.names.lookup x == _) = _; rw [hs]
  have hy : (X.env.kindOf y == some .local) = (S.sc.names.lookup y == some .local) := by show (X.env.scope.names.lookup y == _) = _; rw [hs]
  unfold swappedStores
  simp only
  split
  · rfl
  · split
    · rfl
    · rw [if_pos]
      simp only [List.filterMap_cons, List.filterMap_nil, hx, hy]
      cases q1 : (S.sc.names.lookup x == some .local) <;> cases q2 : (S.sc.names.lookup y == some .local)
      · rfl
      · generalize (py.line == (Option.map (fun x : Expr => x.pos.line) [Expr.Name x px, Expr.Name y py].head?).getD 0) = bb
        cases bb <;> rfl
      · generalize (px.line == (Option.map (fun x : Expr => x.pos.line) [Expr.Name x px, Expr.Name y py].head?).getD 0) = bb
        cases bb <;> rfl
      · rw [q1, q2] at h; cases h
theorem par_sw (hk : X.env.scope.kind = .function) (hs : X.env.scope = S.sc) {x y : Str} {px py pt pt2 : Pos} {kt k2 : Nat} {a b : Expr} (h : parFits S x y px py a b = true) :
    swappedStores [.Tuple [.Name x px, .Name y py] kt pt] (.Tuple [a, b] k2 pt2) X.env = pure (some [x, y]) := by
  simp only [parFits, Bool.and_eq_true, beq_iff_eq, Bool.not_eq_true', decide_eq_true_eq] at h
  obtain ⟨⟨⟨⟨⟨⟨⟨h1, h2⟩, h3⟩, h4⟩, h5⟩, h6⟩, h7⟩, h8⟩ := h
  have ky : X.env.kindOf y = some .local := by show X.env.scope.names.lookup y = _; rw [hs]; exact h2
  have kx : X.env.kindOf x = some .local := by show X.env.scope.names.lookup x = _; rw [hs]; exact h1
  have hb : X.env.blockKind = .function := by unfold Env.blockKind; rw [hk]; rfl
  have hyx : (y == x) = false := by simp; exact fun z => h4 z.symm
  unfold swappedStores
  simp only [hb, kx, ky, List.all_cons, List.all_nil, Bool.and_true, h7, h8, List.any_cons, List.any_nil, Bool.or_false]
  refine (if_neg (by simp)).trans ?_
  refine (if_neg ?_).trans ?_
  · rw [Bool.or_eq_true, not_or]
    constructor
    · cases a <;> first | (simp [isStarE] at h5; done) | exact Bool.false_ne_true
    · cases b <;> first | (simp [isStarE] at h6; done) | exact Bool.false_ne_true
  · simp [h3, Expr.pos, List.eraseDups, List.eraseDupsBy, List.eraseDupsBy.loop, hyx, hb, kx, ky]
end
end PL

/-! Bodies; the defs of the module. -/
namespace PL
open PySem PySem.Spec PyProof.Rows L2
section
variable {k : Nat} {X : Cx}
theorem snd_assign {D : Wd} {S : Sc} (hk : S.sc.kind = .function) (xg : XG D S.N S.sc S.asg k X) (so : ScOk D S) (F : FnsOk D k) (kw : ∀ z ∈ S.kws, z ∈ D.kw) {tg e : Expr} {pos : Pos} : PS X (.Assign [tg] e pos) (tS D (cAssign 60 S tg e)) := by
  have ih := snd_E 60 D S X xg so F kw
  have ok := xg.toXOk
  have hkX : X.env.scope.kind = .function := by rw [xg.hsc]; exact hk
  have tup : ∀ {ts : List Expr} {kt : Nat} {pt : Pos}, (∀ es k2 p2, e ≠ .Tuple es k2 p2) → PS X (.Assign [.Tuple ts kt pt] e pos) (tS D (if isLC e then .stuck else (match cTg S 8 (.Tuple ts kt pt) with | some t => .tasg t (cE 60 S e) | none => .stuck))) := fun {ts kt pt} hne => by
    split
    · exact ps_stuck
    · rename_i hlc
      split
      · rename_i t ht
        refine snd_tasg (ps_asg (ih e).1 (snd_tg xg rfl rfl rfl 8 _ t ht) ?_ ?_)
        · cases e <;> first | rfl | (simp [isLC] at hlc)
        · cases e <;> first | rfl | (exact absurd rfl (hne _ _ _))
      · exact ps_stuck
  unfold cAssign
  split
  · rename_i x px
    split
    · rename_i hc
      simp only [Bool.and_eq_true] at hc
      obtain ⟨⟨⟨h1, h2⟩, h3⟩, h4⟩ := hc
      split
      · rename_i i hi
        have hN : X.N[i]? = some x := by rw [xg.hN]; exact idxOf_get hi
        have hl : L2.Loc X.env.scope x := by rw [xg.hsc]; exact locB_loc h2
        refine snd_asg ?_
        rcases lcFits_sw (S := S) hkX xg.hsc (l := pos.line) h4 with hsw | ⟨elt, gs, scope, p2, rfl, hloc, hsw⟩ | ⟨kx, vx, gs, scope, p2, rfl, hloc, hsw⟩
        · exact ps_set (by rw [xg.hN]; exact xg.nd) hN hl (ih e).1 hsw (xg.fn x h3)
        · have ih' := snd_E 59 D S X xg so F kw
          exact PS.of ((snd_comp xg so (fun e => (ih' e).1) fun scope X' xg' => snd_E 59 D.calm (inBlk S scope) X' xg' (so.blk scope) F.calm kw).2 hN hloc hsw) fun _ _ _ q => imp_celIf q
        · have ih' := snd_E 59 D S X xg so F kw
          exact (snd_dcomp xg so (fun e => (ih' e).1) fun scope X' xg' => snd_E 59 D.calm (inBlk S scope) X' xg' (so.blk scope) F.calm kw).2 hN hloc hsw
      · exact ps_stuck
    · exact ps_stuck
  · rename_i o i tpos
    split
    · exact ps_stuck
    · rename_i hc
      simp only [Bool.or_eq_true, not_or, Bool.not_eq_true] at hc
      refine snd_seti (ps_asg (ih e).1 (pg_sub (ih o).1 (ih i).1 set_list ?_) ?_ ?_ ?_)
      · intro v
        cases i <;> first | rfl | (simp [isSliceE] at hc)
      · cases e <;> first | rfl | (simp [isLC] at hc)
      · rfl
      · rfl
  · rename_i x px y py kt pt
    split
    · rename_i a b k2 p2
      split
      · split
        · rename_i hnl
          split
          · rename_i t ht
            exact snd_tasg (ps_asg (ih _).1 (snd_tg xg rfl rfl rfl 8 _ t ht) rfl (par_none (S := S) xg.hsc hnl))
          · exact ps_stuck
        · exact ps_stuck
      · rename_i hp
        simp only [Bool.not_eq_true', Bool.not_eq_false] at hp
        split
        · rename_i i j hi hj
          split
          · exact ps_stuck
          · rename_i hij
            have hp' := hp
            simp only [parFits, Bool.and_eq_true, beq_iff_eq, Bool.not_eq_true', decide_eq_true_eq] at hp'
            obtain ⟨⟨⟨⟨⟨⟨⟨q1, q2⟩, q3⟩, q4⟩, q5⟩, q6⟩, q7⟩, q8⟩ := hp'
            refine snd_par (ps_par xg.calm (by rw [xg.hN]; exact xg.nd) (by rw [xg.hN]; exact idxOf_get hi) (by rw [xg.hN]; exact idxOf_get hj) hij (by rw [xg.hsc]; exact q1) (by rw [xg.hsc]; exact q2) ?_ (par_sw (S := S) hkX xg.hsc hp))
            exact pa_cons (ih a).1 (pa_cons (ih b).1 pa_nil (starEach_cons q6)) (starEach_cons q5)
        · exact ps_stuck
    · exact ps_stuck
    · rename_i hne hne2
      exact tup fun es k2 p2 he => hne2 es k2 p2 he
  · rename_i ts kt pt hnn
    split
    · exact ps_stuck
    · rename_i hne
      exact tup fun es k2 p2 he => hne es k2 p2 he
  · exact ps_stuck
theorem snd_S {D : Wd} {S : Sc} (hk : S.sc.kind = .function) (xg : XG D S.N S.sc S.asg k X) (so : ScOk D S) (F : FnsOk D k) (kw : ∀ z ∈ S.kws, z ∈ D.kw) : ∀ (m : Nat) (st : Stmt), PS X st (tS D (cS m S st))
  | 0, _ => ps_stuck
  | m + 1, st => by
    have ih := snd_S hk xg so F kw m
    have ihE := snd_E 60 D S X xg so F kw
    unfold cS
    split
    · exact PS.of ps_pass fun Dn σ H ⟨n, g, e, te, h, ts, S', w⟩ => by simp only [evS] at w; exact w g H σ (Ext.refl _ _) S'
    · exact PS.of ps_break fun Dn σ H ⟨n, g, e, te, h, ts, S', w⟩ => by simp only [evS] at w; exact w g H σ (Ext.refl _ _) S'
    · exact PS.of ps_continue fun Dn σ H ⟨n, g, e, te, h, ts, S', w⟩ => by simp only [evS] at w; exact w g H σ (Ext.refl _ _) S'
    · exact PS.of ps_doc fun Dn σ H ⟨n, g, e, te, h, ts, S', w⟩ => by simp only [evS] at w; exact w g H σ (Ext.refl _ _) S'
    · rename_i e pos _
      split
      · exact ps_stuck
      · rename_i hlc
        refine snd_exprS (ps_expr (ihE e).1 ?_)
        cases e <;> first | rfl | (simp [isLC] at hlc)
    · exact snd_assign hk xg so F kw
    · exact snd_if (ihE _).2 (snd_cSeq fun st _ => ih st) (snd_cSeq fun st _ => ih st)
    · split
      · exact ps_stuck
      · rename_i hset
        simp only [Bool.not_eq_true] at hset
        split
        · rename_i t ht
          exact snd_for xg.po xg.calm hset (snd_it xg.toXOk so rfl fun e => (ihE e).1) (snd_tg xg rfl rfl rfl 8 _ t ht) (snd_cSeq fun st _ => ih st)
        · exact ps_stuck
    · exact snd_while xg.po (ihE _).2 (snd_cSeq fun st _ => ih st)
    · exact snd_retN
    · exact snd_ret (ihE _).1
    · exact ps_stuck
end

/-! the defs -/
/-- what is known of a def: its parts -/
structure DefOk (T : Tx) (d : DefT) (fn : Fn) (mk : List Str → Scope → Sc) : Prop where
  ex : ∃ (name qual : Str) (params : Arguments) (body : List Stmt) (scope : Scope) (dV kV doc pm cdv ct oc : Value) (an od : Option Addr) (osl : Array (Option Value)) (N : List Str),
    d.fd = PySem.W.fnOf name qual params body scope dV kV doc pm an cdv ct ∧ T.K.lookup d.f = some ⟨oc, od, .func d.fd, osl⟩ ∧ PySem.W.codeIn T.K cdv qual = true ∧ FnScope N d.ps scope ∧ fn = ⟨d.ps.length, N.length, cBody (mk N scope) body⟩
theorem start_sim {D : Wd} {g : Gh} {h : Hs} {H : Hp} {ps : List PV} {vs : List V} {m : Nat} (S : Sim D.T (en0 H g) g [] h [] H) (r : TrL D.T g H ps vs) :
    SimT D.T (en0 H g) g (ps.map .val ++ List.replicate m .no) [] h (vs.map some ++ List.replicate m none) [] H := by
  have hl := r.length
  refine ⟨by simp [hl], rfl, S.re (by simp [hl]) fun i s hi => ?_⟩
  rw [List.append_nil] at hi ⊢
  by_cases hlt : i < ps.length
  · rw [List.getElem?_append_left (by simpa using hlt), List.getElem?_map, List.getElem?_eq_getElem hlt] at hi
    cases hi
    obtain ⟨v, h1, h2⟩ := r.get (List.getElem?_eq_getElem hlt)
    refine .inr (.inl ⟨_, v, rfl, ?_, h2⟩)
    rw [List.getElem?_append_left (by simp; omega), List.getElem?_map, h1]; rfl
  · rw [List.getElem?_append_right (by simpa using hlt), List.getElem?_replicate] at hi
    split at hi
    · cases hi; exact .inl rfl
    · cases hi
theorem Sim.drop {T : Tx} {n : En} {g : Gh} {e : Env} {h : Hs} {σ : List (Option V)} {H : Hp} (S : Sim T n g e h σ H) : Sim T n g [] h [] H := S.re rfl fun i s hi => by simp at hi
theorem Res.drop {T : Tx} {n : En} {g : Gh} {e : Env} {σ : List (Option V)} {H : Hp} {p : PV} {fr : Bool} {w : V} (r : Res T n g H e σ p fr w) : Res T n g H [] [] p fr w := by
  cases fr with
  | false => cases p <;> exact r
  | true =>
    cases p with
    | lst xs => obtain ⟨a, rfl, o, ap⟩ := r; exact ⟨a, rfl, o, fun i q hi => by simp at hi⟩
    | _ => exact r
theorem def_step {D : Wd} {G : List Fn} {mk : List Str → Scope → Sc} {k i : Nat} {d : DefT} {fn : Fn} (hmk : ∀ N sc, (mk N sc).N = N ∧ (mk N sc).sc = sc ∧ (mk N sc).asg = fun _ => true) (hs : ∀ N sc, ScOk D (mk N sc)) (hkw : ∀ N sc, ∀ z ∈ (mk N sc).kws, z ∈ D.kw)
    (F : FnsOk { D with C := callN G k } k) (hG : G[i]? = some fn) (dk : DefOk D.T d fn mk) :
    FnOk D.T.P D.T.w D.T.K D.T.mg D.T.base (L2.CX D.T.P D.T.w) (k + 1 + 2) d.f d.fd d.ps (spF { D with C := callN G (k + 1) } i d.ps.length) := by
  obtain ⟨name, qual, params, body, scope, dV, kV, doc, pm, cdv, ct, oc, an, od, osl, N, e1, lk, hcd, fs, efn⟩ := dk.ex
  have e1' := e1
  rw [e1] at lk
  rw [e1']
  refine fn_of (k := k + 2) lk hcd fs (fun vs H Q E q => q.1) fun A outer s H vs Q E hr q => ?_
  obtain ⟨hlen, g, h, ps, r, S0, w⟩ := q
  let D' : Wd := { D with C := callN G k, W := fun cls d _ H => E cls d H }
  have xg : XG D' N scope (fun _ => true) k (cxOf (L2.CX D.T.P D.T.w) D.T.P D.T.w D.T.K D.T.mg D.T.base N qual scope d.f cdv A outer s H E) :=
    { P := rfl, w := rfl, K := rfl, mg := rfl, base := rfl, hN := rfl, hsc := rfl, calm := rfl, nd := fs.nd, hr := hr, tk := takes_of rfl rfl rfl rfl, po := passes_of rfl, fn := fun x _ => .inl rfl }
  have F' : FnsOk D' k := ⟨F.fn, F.bi, F.kwb⟩
  obtain ⟨m1, m2, m3⟩ := hmk N scope
  have so : ScOk D' (mk N scope) := ⟨(hs N scope).defs, (hs N scope).fnA, (hs N scope).mgd, (hs N scope).free⟩
  have xg' : XG D' (mk N scope).N (mk N scope).sc (mk N scope).asg k (cxOf (L2.CX D.T.P D.T.w) D.T.P D.T.w D.T.K D.T.mg D.T.base N qual scope d.f cdv A outer s H E) := by rw [m1, m2, m3]; exact xg
  have body_ok := snd_cSeq (D := D') (f := cS 60 (mk N scope)) (sts := body) fun st _ => snd_S (by rw [m2]; exact fs.kind) xg' so F' (hkw N scope) 60 st
  refine ⟨_, body_ok, ?_⟩
  have hpl : ps.length = d.ps.length := by rw [r.length]; exact hlen
  have hst : L2.start N vs = vs.map some ++ List.replicate (N.length - d.ps.length) none := by unfold L2.start; rw [hlen]
  rw [hst]
  refine ⟨en0 H g, g, _, [], h, [], start_sim (D := D') (m := N.length - d.ps.length) S0 r, ?_⟩
  have hc : callN G (k + 1) i ps h = finish (evS (callN G k) fn.body (ps.map .val ++ List.replicate (N.length - d.ps.length) .no) h) := by
    show (match G[i]? with
      | some d => if ps.length = d.np then finish (evS (callN G k) d.body (envOf d ps) h) else Ret.stuck
      | none => Ret.stuck) = _
    rw [hG]
    subst efn
    simp only [envOf]
    rw [if_pos hpl]
  have hb : fn.body = cSeq (body.map (cS 60 (mk N scope))) := by subst efn; rfl
  rw [hb] at hc
  simp only at w
  rw [hc] at w
  show WS D' (en0 H g) [] [] _ (evS (callN G k) (cSeq (body.map (cS 60 (mk N scope)))) (ps.map .val ++ List.replicate (N.length - d.ps.length) .no) h) g H
  cases q : evS (callN G k) (cSeq (body.map (cS 60 (mk N scope)))) (ps.map .val ++ List.replicate (N.length - d.ps.length) .no) h with
  | stuck => rw [q] at w; exact w
  | exc c fs e h' => rw [q] at w; exact fun g' H' cls dd σ' E' S' x => w g' H' cls dd E' S'.sim.drop x
  | ok fl e h' =>
    rw [q] at w
    intro g' H' σ' E' S'
    cases fl with
    | next => exact w g' H' .non E' S'.sim.drop .non
    | brk => exact w
    | cont => exact w
    | ret p fr => exact fun v rv => w g' H' v E' S'.sim.drop rv.drop
theorem fns_ok {D : Wd} {G : List Fn} {mk : List Nat → List Str → Scope → Sc} (hmk : ∀ c N sc, (mk c N sc).N = N ∧ (mk c N sc).sc = sc ∧ (mk c N sc).asg = fun _ => true) (hs : ∀ c N sc, ScOk D (mk c N sc)) (hkw : ∀ c N sc, ∀ z ∈ (mk c N sc).kws, z ∈ D.kw)
    (bi : ∀ (i : Nat) (d : DefT), D.ds[i]? = some d → Binds D.T.K d.fd d.ps [])
    (kwb : ∀ z ∈ D.kw, ∀ d, D.ds[z.1]? = some d → ∀ (s : Shared) (us ws : List Value), us.length = z.2.1 → ws.length = z.2.2.1.length → BindsTo s d.fd ⟨us, z.2.2.1.zip ws⟩ (d.ps.zip (permL .none z.2.2.2 (us ++ ws))))
    (dk : ∀ (i : Nat) (d : DefT), D.ds[i]? = some d → ∃ fn, G[i]? = some fn ∧ ∃ c, DefOk D.T d fn (mk c)) : ∀ k, FnsOk { D with C := callN G k } k
  | 0 => ⟨fun i d hd => ⟨fun vs H Q E q => q.1, fun A outer s H args us vs Q E _ _ _ _ q => by
      obtain ⟨_, g, h, ps, _, _, w⟩ := q
      exact w.elim⟩, bi, kwb⟩
  | k + 1 => ⟨fun i d hd => by
      obtain ⟨fn, h1, c, h2⟩ := dk i d hd
      exact def_step (D := D) (hmk c) (hs c) (hkw c) (fns_ok hmk hs hkw bi kwb dk k) h1 h2, bi, kwb⟩
end PL

/-! The end: from a run of the small language to the promise of the law's def. -/
namespace PL
open PySem PySem.Spec PyProof.Rows L2
/-- a def of the text -/
structure FD where
  x : Str
  st : Stmt
  N : List Str
  ps : List Str
  cel : List Nat
instance : Inhabited FD := ⟨⟨"", .Pass ⟨0, 0, 0, 0⟩, [], [], []⟩⟩
def FD.d (z : FD) : He.DefD := ⟨(z.x, none), z.x, z.x, defArgs z.st, defBody z.st, defScope z.st, [], []⟩
def mkSc (defs : List (Str × List Str)) (free : List Str) (kws : List (Nat × Nat × List Str × List Nat)) (cel : List Nat) (N : List Str) (sc : Scope) : Sc :=
  { N := N, sc := sc, blk := false, asg := fun _ => true, defs := defs, clss := [], free := free, cel := cel, kws := kws }
def defsOf (zs : List FD) : List (Str × List Str) := zs.map fun z => (z.x, z.ps)
def FD.fn (defs : List (Str × List Str)) (free : List Str) (kws : List (Nat × Nat × List Str × List Nat)) (z : FD) : Fn :=
  ⟨z.ps.length, z.N.length, cBody (mkSc defs free kws z.cel z.N (defScope z.st)) (defBody z.st)⟩
def progOf (zs : List FD) (free : List Str) (kws : List (Nat × Nat × List Str × List Nat)) : List Fn := zs.map (FD.fn (defsOf zs) free kws)
/-- every parameter by its place -/
def BindN (z : FD) : Prop := ∀ (kV doc pm : Value) (an : Option Addr) (cdv ct : Value) (us : List Value), us.length = z.ps.length →
  bindArgs (PySem.W.fnOf z.x z.x (defArgs z.st) (defBody z.st) (defScope z.st) .none kV doc pm an cdv ct) ⟨us, []⟩ = pure (z.ps.zip us)
/-- some by keyword -/
def BindK (zs : List FD) (q : Nat × Nat × List Str × List Nat) : Prop := ∀ z, zs[q.1]? = some z → ∀ (kV doc pm : Value) (an : Option Addr) (cdv ct : Value) (us ws : List Value), us.length = q.2.1 → ws.length = q.2.2.1.length →
  bindArgs (PySem.W.fnOf z.x z.x (defArgs z.st) (defBody z.st) (defScope z.st) .none kV doc pm an cdv ct) ⟨us, q.2.2.1.zip ws⟩ = pure (z.ps.zip (permL .none q.2.2.2 (us ++ ws)))
def fdOf (K : PySem.W.Frag) (f : Addr) : FuncData := match K.lookup f with
  | some ⟨_, _, .func fd, _⟩ => fd
  | _ => PySem.W.fnOf "" "" ⟨[], [], none, [], [], none, []⟩ [] ⟨.function, [], false, false, []⟩ .none .none .none .none none .none .none
def FD.t (K : PySem.W.Frag) (z : FD) : DefT := ⟨z.x, z.ps, He.fAd K (z.x, none), fdOf K (He.fAd K (z.x, none))⟩
def spLaw (n : Nat) (K : PySem.W.Frag) : Sp := fun vs H Q _ => ∃ (a : Addr) (ns : List Int), vs = [.ref a] ∧ ns.length ≤ n ∧ Only H ∧ SqL K H a (ns.map V.int) ∧ ∀ H', Q (.bl true) H'
theorem FnOk.top {P : Program} {w : World} {K : PySem.W.Frag} {mg : Str → Option Value} {base : Heap} {k : Nat} {f : Addr} {fd : FuncData} {ps : List Str} {sp sp' : Sp} (F : FnOk P w K mg base (L2.CX P w) k f fd ps sp')
    (h : ∀ vs H Q E, sp vs H Q E → sp' vs H Q fun _ _ _ => False) : FnOk P w K mg base CX0 k f fd ps sp :=
  ⟨fun vs H Q E q => F.len vs H Q _ (h _ _ _ _ q), fun A outer s H args us vs Q E hr e0 hb hv hs => codeAny_mono (F.run A outer s H args us vs Q (fun _ _ _ => False) hr e0 hb hv (h _ _ _ _ hs)) fun r s' c => by
    cases r with
    | ok v => cases v <;> exact c
    | error e => obtain ⟨_, _, _, _, _, _, _, _, _, _, _, _, z⟩ := c; exact z⟩
theorem ints_tr {T : Tx} {g : Gh} {H : Hp} : ∀ ns : List Int, TrL T g H (ns.map PV.int) (ns.map V.int)
  | [] => .nil
  | n :: ns => .cons (.int n) (ints_tr ns)
theorem top_gen {P : Program} {w : World} {K : PySem.W.Frag} {h : Heap} {mg : Str → Option Value} {f : Addr} {zs : List FD} {free : List Str} {kws : List (Nat × Nat × List Str × List Nat)} {j n k : Nat} {zl : FD}
    (X : K.In h) (G : h.Ns mainGlobals mg) (c : He.SaysD (zs.map (fun z => He.Fa.glo z.x) ++ free.map He.Fa.free) (zs.map FD.d) K) (hz : zs[j]? = some zl) (hps : zl.ps = (["script"] : List Str)) (hfa : mg zl.x = some (.ref f)) (hn : n ≤ sizeLine)
    (hsc : zs.all (fun z => C8.scC z.N z.ps (defScope z.st)) = true) (hbi : ∀ z ∈ zs, BindN z) (hbk : ∀ q ∈ kws, BindK zs q)
    (law : ∀ ns : List Int, ns.length ≤ n → ∃ fr hh, callN (progOf zs free kws) k j [.scr (ns.map .int)] [] = .ret (.bl true) fr hh) :
    ∃ fd : FuncData, (∀ (s : Shared) (v : Value), BindsTo s fd ⟨[v], []⟩ [("script", v)]) ∧ ∀ base : Heap, K.In base → base.Ns mainGlobals mg → FnOk P w K mg base CX0 (k + 2) f fd ["script"] (spLaw n K) := by
  have fun_ : ∀ z ∈ zs, FunD K z.x z.x (defArgs z.st) (defBody z.st) (defScope z.st) [] [] (He.fAd K (z.x, none)) (fdOf K (He.fAd K (z.x, none))) := fun z hz => by
    obtain ⟨fd, F⟩ := c.defs (d := z.d) (List.mem_map.mpr ⟨z, hz, rfl⟩)
    have F' : FunD K z.x z.x (defArgs z.st) (defBody z.st) (defScope z.st) [] [] (He.fAd K (z.x, none)) fd := F
    obtain ⟨oc, od, dV, kV, doc, pm, an, cdv, ct, osl, e1, lk, hcd, hD, hK⟩ := F'.ex
    have e : fdOf K (He.fAd K (z.x, none)) = fd := by unfold fdOf; rw [lk]
    rw [e]
    exact F'
  have glo : ∀ z ∈ zs, mg z.x = some (.ref (He.fAd K (z.x, none))) := fun z hz => He.glo_ok X G (c.facts (List.mem_append_left _ (List.mem_map.mpr ⟨z, hz, rfl⟩)))
  have fre : ∀ x ∈ free, mg x = none := fun x hx => He.free_ok X G (c.facts (List.mem_append_right _ (List.mem_map.mpr ⟨x, hx, rfl⟩)))
  have hzm : zl ∈ zs := List.mem_of_getElem? hz
  have bindA : ∀ (s : Shared) (us : List Value), us.length = zl.ps.length → BindsTo s (fdOf K (He.fAd K (zl.x, none))) ⟨us, []⟩ (zl.ps.zip us) := FunD.bindsA (fun_ zl hzm) (hbi zl hzm)
  refine ⟨fdOf K (He.fAd K (zl.x, none)), fun s v => by have := bindA s [v] (by rw [hps]; rfl); rw [hps] at this; exact this, fun base KB NB => ?_⟩
  let D : Wd := { T := ⟨P, w, K, mg, base, fun i => (zs[i]?).map fun z => He.fAd K (z.x, none)⟩, cs := [], ds := zs.map (FD.t K), kw := kws, C := fun _ _ _ => .stuck, W := fun _ _ _ _ => False }
  have hds : ∀ (i : Nat) (d : DefT), D.ds[i]? = some d → ∃ z, zs[i]? = some z ∧ d = z.t K := fun i d hd => by
    have hd' : (zs.map (FD.t K))[i]? = some d := hd
    rw [List.getElem?_map, Option.map_eq_some_iff] at hd'
    obtain ⟨z, h1, h2⟩ := hd'
    exact ⟨z, h1, h2.symm⟩
  have so : ∀ (cel : List Nat) (N : List Str) (sc : Scope), ScOk D (mkSc (defsOf zs) free kws cel N sc) := fun cel N sc =>
    { defs := by show defsOf zs = (zs.map (FD.t K)).map _; rw [List.map_map]; rfl
      fnA := fun i d hd => by obtain ⟨z, h1, rfl⟩ := hds i d hd; show (zs[i]?).map _ = _; rw [h1]; rfl
      mgd := fun i d hd => by obtain ⟨z, h1, rfl⟩ := hds i d hd; exact ⟨glo z (List.mem_of_getElem? h1), (fun_ z (List.mem_of_getElem? h1)).kp⟩
      free := fre }
  have key := fns_ok (D := D) (G := progOf zs free kws) (mk := mkSc (defsOf zs) free kws) (fun _ _ _ => ⟨rfl, rfl, rfl⟩) so (fun _ _ _ _ h => h)
    (fun i d hd => by
      obtain ⟨z, h1, rfl⟩ := hds i d hd
      have hm := List.mem_of_getElem? h1
      exact FunD.bindsN (fun_ z hm) (hbi z hm))
    (fun q hq d hd s us ws h1 h2 => by
      obtain ⟨z, h3, rfl⟩ := hds q.1 d hd
      have hm := List.mem_of_getElem? h3
      obtain ⟨oc, od, dV, kV, doc, pm, an, cdv, ct, osl, e1, lk, hcd, hD, hK⟩ := (fun_ z hm).ex
      show BindsTo s (fdOf K (He.fAd K (z.x, none))) _ _
      rw [e1]
      rcases hD with ⟨_, rfl⟩ | ⟨e, _⟩
      · exact .of_eq (hbk q hq z h3 kV doc pm an cdv ct us ws h1 h2)
      · exact absurd rfl e)
    (fun i d hd => by
      obtain ⟨z, h1, rfl⟩ := hds i d hd
      have hm := List.mem_of_getElem? h1
      refine ⟨z.fn (defsOf zs) free kws, by unfold progOf; rw [List.getElem?_map, h1]; rfl, z.cel, ?_⟩
      obtain ⟨oc, od, dV, kV, doc, pm, an, cdv, ct, osl, e1, lk, hcd, hD, hK⟩ := (fun_ z hm).ex
      exact ⟨z.x, z.x, defArgs z.st, defBody z.st, defScope z.st, dV, kV, doc, pm, cdv, ct, oc, an, od, osl, z.N, e1, lk, hcd, C8.fnScope_by (List.all_eq_true.mp hsc z hm), rfl⟩)
    k
  have hfl : f = He.fAd K (zl.x, none) := by
    have := hfa.symm.trans (glo zl hzm)
    cases this
    rfl
  subst hfl
  have F := key.fn j (zl.t K) (by show (zs.map (FD.t K))[j]? = _; rw [List.getElem?_map, hz]; rfl)
  have F' : FnOk P w K mg base (L2.CX P w) (k + 2) (He.fAd K (zl.x, none)) (fdOf K (He.fAd K (zl.x, none))) ["script"] (spF { D with C := callN (progOf zs free kws) k } j (["script"] : List Str).length) := by
    rw [← hps]; exact F
  refine FnOk.top F' fun vs H Q E ⟨a, ns, e1, hl, hO, hS, hQ⟩ => ?_
  subst e1
  refine ⟨rfl, ⟨fun b => H b ≠ none, []⟩, [], [.scr (ns.map .int)], ?_, ?_, ?_⟩
  · refine .cons ?_ .nil
    have hlen : (ns.map V.int).length ≤ sizeLine := by rw [List.length_map]; omega
    rcases hS with (e | ⟨o, e⟩) | e
    · rcases hO a with e2 | ⟨o, xs, e2⟩
      · rw [e] at e2; cases e2
      · rw [e] at e2; cases e2
    · exact .scr (show H a ≠ none by rw [e]; exact fun z => nomatch z) e hlen (ints_tr ns)
    · exact .scrK e hlen (ints_tr ns)
  · exact ⟨rfl, fun _ h => h, fun _ h => h, fun _ h => .inl h, ⟨[], rfl, fun _ h => by simp at h⟩, fun _ h => by simp at h, List.nodup_nil, rfl, fun i c a h => by simp at h, fun _ _ _ => rfl, fun i s h => by simp at h, fun i j p q w h => by simp at h⟩
  · obtain ⟨fr, hh, e⟩ := law ns hl
    show match callN (progOf zs free kws) k j [.scr (ns.map .int)] [] with
      | .ret p fr h' => _
      | .exc c fs h' => _
      | .stuck => _
    rw [e]
    intro g' H' v E' S' r
    have : v = .bl true := by cases fr <;> (cases r; rfl)
    subst this
    exact hQ H'
end PL

namespace K02
open PL
open PySem (Str)
/-- is_list -/
def b_is_list : Sm := (.ret (.isi (.var 0) ["list", "tuple"]))
abbrev i_is_list : Nat := 0
/-- is_whole -/
def b_is_whole : Sm := (.ret (.and (.isi (.var 0) ["int"]) (.not (.isi (.var 0) ["bool"]))))
abbrev i_is_whole : Nat := 1
/-- is_number -/
def b_is_number : Sm := (.ret (.and (.call 1 [] (.cons (.var 0) .nil)) (.cmp .ge (.var 0) (.con (.int (0))))))
abbrev i_is_number : Nat := 2
/-- is_below -/
def b_is_below : Sm := (.ret (.and (.call 2 [] (.cons (.var 0) .nil)) (.cmp .lt (.var 0) (.var 1))))
abbrev i_is_below : Nat := 3
/-- is_row -/
def b_is_row : Sm := (.ret (.and (.call 0 [] (.cons (.var 0) .nil)) (.cmp .eq (.bcall .len (.cons (.var 0) .nil)) (.var 1))))
abbrev i_is_row : Nat := 4
/-- check_many -/
def b_check_many : Sm := (.ite (.or (.not (.call 1 [] (.cons (.var 0) .nil))) (.cmp .lt (.var 0) (.con (.int (1))))) .stuck .skip)
abbrev i_check_many : Nat := 5
/-- kept_numbers -/
def b_kept_numbers : Sm := (.seq (.ite (.or (.not (.call 4 [] (.cons (.var 1) (.cons (.var 0) .nil)))) (.not (.bcall .all (.cons (.lc [2, 3] (.nm 3) (.iseq (.var 1)) .nil (.one (.call 1 [] (.cons (.var 3) .nil)))) .nil)))) (.ret (.con .non)) .skip) (.ret (.bcall .tuple (.cons (.var 1) .nil))))
abbrev i_kept_numbers : Nat := 6
/-- kept_line -/
def b_kept_line : Sm := (.seq (.ite (.or (.not (.call 4 [] (.cons (.var 1) (.cons (.con (.int (3))) .nil)))) (.or (.not (.call 1 [] (.cons (.idx (.var 1) (.con (.int (2)))) .nil))) (.not (.isi (.idx (.var 1) (.con (.int (1)))) ["str"])))) (.ret (.con .non)) .skip) (.seq (.asg 2 (.call 6 [] (.cons (.var 0) (.cons (.idx (.var 1) (.con (.int (0)))) .nil)))) (.ret (.ite (.or (.cmp .is_ (.var 2) (.con .non)) (.cmp .notin (.idx (.var 1) (.con (.int (1)))) (.tup (.cons (.con (.str "=")) (.cons (.con (.str ">=")) .nil))))) (.con .non) (.tup (.cons (.var 2) (.cons (.idx (.var 1) (.con (.int (1)))) (.cons (.idx (.var 1) (.con (.int (2)))) .nil))))))))
abbrev i_kept_line : Nat := 7
/-- kept_system -/
def b_kept_system : Sm := (.seq (.ite (.not (.call 0 [] (.cons (.var 1) .nil))) (.ret (.con .non)) .skip) (.seq (.asg 2 (.lc [3, 4] (.nm 4) (.iseq (.var 1)) .nil (.one (.call 7 [] (.cons (.var 0) (.cons (.var 4) .nil)))))) (.ret (.ite (.cmp .in_ (.con .non) (.var 2)) (.con .non) (.bcall .tuple (.cons (.var 2) .nil))))))
abbrev i_kept_system : Nat := 8
/-- need_system -/
def b_need_system : Sm := (.seq (.expr (.call 5 [] (.cons (.var 0) .nil))) (.seq (.asg 2 (.call 8 [] (.cons (.var 0) (.cons (.var 1) .nil)))) (.seq (.ite (.cmp .is_ (.var 2) (.con .non)) .stuck .skip) (.ret (.var 2)))))
abbrev i_need_system : Nat := 9
/-- need_point -/
def b_need_point : Sm := (.seq (.asg 2 (.call 6 [] (.cons (.var 0) (.cons (.var 1) .nil)))) (.seq (.ite (.cmp .is_ (.var 2) (.con .non)) .stuck .skip) (.ret (.var 2))))
abbrev i_need_point : Nat := 10
/-- sum_at -/
def b_sum_at : Sm := (.ret (.bcall .sum (.cons (.lc [2, 3, 4] (.tp (.cons (.nm 3) (.cons (.nm 4) .nil))) (.izip (.var 0) (.var 1)) .nil (.one (.bin .mul (.var 3) (.var 4)))) .nil)))
abbrev i_sum_at : Nat := 11
/-- told_line -/
def b_told_line : Sm := (.ret (.tup (.cons (.cell (.bcall .list (.cons (.idx (.var 0) (.con (.int (0)))) .nil))) (.cons (.idx (.var 0) (.con (.int (1)))) (.cons (.idx (.var 0) (.con (.int (2)))) .nil)))))
abbrev i_told_line : Nat := 12
/-- told_system -/
def b_told_system : Sm := (.ret (.cell (.lc [1, 2] (.nm 2) (.iseq (.var 0)) .nil (.one (.call 12 [] (.cons (.var 2) .nil))))))
abbrev i_told_system : Nat := 13
/-- moved_by -/
def b_moved_by : Sm := (.ret (.bcall .tuple (.cons (.lc [2, 3, 4, 5] (.tp (.cons (.nm 3) (.cons (.nm 4) (.cons (.nm 5) .nil)))) (.iseq (.var 0)) .nil (.one (.tup (.cons (.var 3) (.cons (.var 4) (.cons (.bin .sub (.var 5) (.call 11 [] (.cons (.var 3) (.cons (.var 1) .nil)))) .nil)))))) .nil)))
abbrev i_moved_by : Nat := 14
/-- shifted -/
def b_shifted : Sm := (.seq (.asg 3 (.call 9 [] (.cons (.var 0) (.cons (.var 1) .nil)))) (.ret (.call 13 [] (.cons (.call 14 [] (.cons (.var 3) (.cons (.call 10 [] (.cons (.var 0) (.cons (.var 2) .nil))) .nil))) .nil))))
abbrev i_shifted : Nat := 15
/-- renamed -/
def b_renamed : Sm := (.seq (.asg 3 (.call 9 [] (.cons (.var 0) (.cons (.var 1) .nil)))) (.seq (.ite (.or (.not (.call 4 [] (.cons (.var 2) (.cons (.var 0) .nil)))) (.not (.bcall .all (.cons (.lc [5, 6] (.nm 6) (.iseq (.var 2)) .nil (.one (.call 3 [] (.cons (.var 6) (.cons (.var 0) .nil))))) .nil)))) .stuck .skip) (.seq (.asg 4 (.dc [5, 7, 8] (.tp (.cons (.nm 7) (.cons (.nm 8) .nil))) (.ienum (.var 2)) .nil (.kv (.var 8) (.var 7)))) (.seq (.ite (.cmp .ne (.bcall .len (.cons (.var 4) .nil)) (.var 0)) .stuck .skip) (.ret (.cell (.lc [5, 9, 10, 11] (.tp (.cons (.nm 9) (.cons (.nm 10) (.cons (.nm 11) .nil)))) (.iseq (.var 3)) .nil (.one (.tup (.cons (.cell (.lc [5, 8] (.nm 8) (.irng1 (.var 0)) .nil (.one (.idx (.var 9) (.idx (.var 4) (.var 8)))))) (.cons (.var 10) (.cons (.var 11) .nil))))))))))))
abbrev i_renamed : Nat := 16
/-- with_number -/
def b_with_number : Sm := (.seq (.asg 3 (.lst .nil)) (.seq (.for_ (.tp (.cons (.nm 4) (.cons (.nm 5) (.cons (.nm 6) .nil)))) (.iseq (.var 0)) (.expr (.meth .append (.var 3) (.cons (.tup (.cons (.bin .add (.sli (.var 4) .nil (.var 1)) (.sli (.var 4) (.bin .add (.var 1) (.con (.int (1)))) .nil)) (.cons (.var 5) (.cons (.bin .sub (.var 6) (.bin .mul (.idx (.var 4) (.var 1)) (.var 2))) .nil)))) .nil)))) (.ret (.bcall .tuple (.cons (.var 3) .nil)))))
abbrev i_with_number : Nat := 17
/-- put_number -/
def b_put_number : Sm := (.seq (.expr (.call 5 [] (.cons (.var 0) .nil))) (.seq (.ite (.cmp .eq (.var 0) (.con (.int (1)))) .stuck .skip) (.seq (.asg 4 (.call 9 [] (.cons (.var 0) (.cons (.var 1) .nil)))) (.seq (.ite (.not (.call 3 [] (.cons (.var 2) (.cons (.var 0) .nil)))) .stuck .skip) (.seq (.ite (.not (.call 1 [] (.cons (.var 3) .nil))) .stuck .skip) (.ret (.call 13 [] (.cons (.call 17 [] (.cons (.var 4) (.cons (.var 2) (.cons (.var 3) .nil)))) .nil))))))))
abbrev i_put_number : Nat := 18
/-- _law_stream -/
def b__law_stream : Sm := (.ret (.cell (.lst (.cons (.cell (.bcall .list (.cons (.var 0) .nil))) (.cons (.con (.int (0))) (.cons (.con (.int (0))) (.cons (.con (.int (17))) .nil)))))))
abbrev i__law_stream : Nat := 19
/-- _law_draw -/
def b__law_draw : Sm := (.seq (.seti (.var 0) (.con (.int (2))) (.bin .add (.idx (.var 0) (.con (.int (2)))) (.con (.int (1))))) (.seq (.while_ (.and (.cmp .eq (.idx (.var 0) (.con (.int (1)))) (.con (.int (0)))) (.cmp .ne (.idx (.var 0) (.con (.int (0)))) (.lst .nil))) (.seq (.asg 2 (.bcall .abs (.cons (.meth .popAt (.idx (.var 0) (.con (.int (0)))) (.cons (.con (.int (0))) .nil)) .nil))) (.seq (.seti (.var 0) (.con (.int (3))) (.bin .mod (.bcall .int (.cons (.bin .add (.bin .add (.bin .mul (.idx (.var 0) (.con (.int (3)))) (.con (.int (8191)))) (.var 2)) (.con (.int (3)))) .nil)) (.con (.int (2147483647))))) (.seti (.var 0) (.con (.int (1))) (.ite (.cmp .ge (.var 2) (.bin .pow (.con (.int (10))) (.con (.int (18))))) (.var 2) (.con (.int (0)))))))) (.seq (.ite (.cmp .gt (.idx (.var 0) (.con (.int (1)))) (.con (.int (0)))) (.seq (.asg 3 (.bin .mod (.bcall .int (.cons (.idx (.var 0) (.con (.int (1)))) .nil)) (.var 1))) (.seq (.seti (.var 0) (.con (.int (1))) (.bin .fdiv (.idx (.var 0) (.con (.int (1)))) (.var 1))) (.ret (.var 3)))) .skip) (.seq (.asg 4 (.bin .mod (.bcall .int (.cons (.bin .pow (.bin .add (.bin .add (.idx (.var 0) (.con (.int (3)))) (.bin .mul (.con (.int (7919))) (.idx (.var 0) (.con (.int (2)))))) (.con (.int (104729)))) (.con (.int (5)))) .nil)) (.con (.int (2147483629))))) (.ret (.bin .mod (.bin .mod (.bcall .int (.cons (.bin .pow (.bin .add (.bin .add (.bin .mul (.var 4) (.con (.int (48271)))) (.bin .mul (.con (.int (30011))) (.idx (.var 0) (.con (.int (2)))))) (.con (.int (29)))) (.con (.int (3)))) .nil)) (.con (.int (1000000007)))) (.var 1)))))))
abbrev i__law_draw : Nat := 20
/-- _law_pick -/
def b__law_pick : Sm := (.ret (.idx (.var 1) (.call 20 [] (.cons (.var 0) (.cons (.bcall .len (.cons (.var 1) .nil)) .nil)))))
abbrev i__law_pick : Nat := 21
/-- _law_mixed -/
def b__law_mixed : Sm := (.seq (.par 2 3 (.bcall .list (.cons (.var 1) .nil)) (.lst .nil)) (.seq (.for_ (.nm 4) (.irng1 (.bcall .len (.cons (.var 2) .nil))) (.expr (.meth .append (.var 3) (.cons (.meth .popAt (.var 2) (.cons (.call 20 [] (.cons (.var 0) (.cons (.bcall .len (.cons (.var 2) .nil)) .nil))) .nil)) .nil)))) (.ret (.var 3))))
abbrev i__law_mixed : Nat := 22
/-- _law_same -/
def b__law_same : Sm := (.seq (.ite (.isi (.var 1) ["list", "tuple"]) (.seq (.ite (.or (.cmp .ne (.isi (.var 0) ["list"]) (.isi (.var 1) ["list"])) (.cmp .ne (.isi (.var 0) ["tuple"]) (.isi (.var 1) ["tuple"]))) (.ret (.con (.bl false))) .skip) (.ret (.and (.cmp .eq (.bcall .len (.cons (.var 0) .nil)) (.bcall .len (.cons (.var 1) .nil))) (.bcall .all (.cons (.lc [2, 3, 4] (.tp (.cons (.nm 3) (.cons (.nm 4) .nil))) (.izip (.var 0) (.var 1)) .nil (.one (.call 23 [] (.cons (.var 3) (.cons (.var 4) .nil))))) .nil))))) .skip) (.seq (.ite (.isi (.var 1) ["dict"]) (.ret (.and (.isi (.var 0) ["dict"]) (.call 23 [] (.cons (.bcall .list (.cons .stuck .nil)) (.cons (.bcall .list (.cons .stuck .nil)) .nil))))) .skip) (.seq (.ite (.or (.isi (.var 1) ["bool"]) (.isi (.var 0) ["bool"])) (.ret (.and (.isi (.var 1) ["bool"]) (.and (.isi (.var 0) ["bool"]) (.cmp .eq (.var 0) (.var 1))))) .skip) (.seq (.ite (.or (.cmp .is_ (.var 1) (.con .non)) (.cmp .is_ (.var 0) (.con .non))) (.ret (.and (.cmp .is_ (.var 1) (.con .non)) (.cmp .is_ (.var 0) (.con .non)))) .skip) (.seq (.ite (.or (.cmp .ne (.isi (.var 1) ["int"]) (.isi (.var 0) ["int"])) (.cmp .ne (.isi (.var 1) ["str"]) (.isi (.var 0) ["str"]))) (.ret (.con (.bl false))) .skip) (.ret (.and (.not (.isi (.var 0) ["list", "tuple", "dict"])) (.cmp .eq (.var 0) (.var 1)))))))))
abbrev i__law_same : Nat := 23
/-- _law_spoilt -/
def b__law_spoilt : Sm := (.seq (.ite (.isi (.var 0) ["list", "tuple"]) (.for_ (.nm 1) (.iseq (.var 0)) (.expr (.call 24 [] (.cons (.var 1) .nil)))) .skip) (.ite (.isi (.var 0) ["list"]) (.expr (.meth .append (.var 0) (.cons (.con (.str "late")) .nil))) .skip))
abbrev i__law_spoilt : Nat := 24
/-- _law_copied -/
def b__law_copied : Sm := (.seq (.ite (.isi (.var 0) ["dict"]) (.ret .stuck) .skip) (.seq (.asg 1 (.ite (.isi (.var 0) ["list", "tuple"]) (.lc [2, 4] (.nm 4) (.iseq (.var 0)) .nil (.one (.call 25 [] (.cons (.var 4) .nil)))) (.var 0))) (.ret (.ite (.isi (.var 0) ["tuple"]) (.bcall .tuple (.cons (.var 1) .nil)) (.var 1)))))
abbrev i__law_copied : Nat := 25
/-- _law_loose -/
def b__law_loose : Sm := (.seq (.ite (.not (.isi (.var 1) ["list", "tuple"])) (.ret (.var 1)) .skip) (.seq (.asg 2 (.lc [3, 4] (.nm 4) (.iseq (.var 1)) .nil (.one (.call 26 [] (.cons (.var 0) (.cons (.var 4) .nil)))))) (.ret (.ite (.cmp .eq (.call 20 [] (.cons (.var 0) (.cons (.con (.int (2))) .nil))) (.con (.int (0)))) (.bcall .tuple (.cons (.var 2) .nil)) (.var 2)))))
abbrev i__law_loose : Nat := 26
/-- _law_integer -/
def b__law_integer : Sm := (.ret (.bin .sub (.call 20 [] (.cons (.var 0) (.cons (.bin .add (.bin .mul (.con (.int (2))) (.var 1)) (.con (.int (1)))) .nil))) (.var 1)))
abbrev i__law_integer : Nat := 27
/-- _law_value -/
def b__law_value : Sm := (.ret (.bcall .sum (.cons (.lc [2, 3, 4] (.tp (.cons (.nm 3) (.cons (.nm 4) .nil))) (.izip (.var 0) (.var 1)) .nil (.one (.bcall .int (.cons (.bin .mul (.var 3) (.var 4)) .nil)))) .nil)))
abbrev i__law_value : Nat := 28
/-- _law_row_holds -/
def b__law_row_holds : Sm := (.seq (.asg 2 (.call 28 [] (.cons (.idx (.var 0) (.con (.int (0)))) (.cons (.var 1) .nil)))) (.ret (.ite (.cmp .eq (.idx (.var 0) (.con (.int (1)))) (.con (.str "="))) (.cmp .eq (.var 2) (.idx (.var 0) (.con (.int (2))))) (.cmp .ge (.var 2) (.idx (.var 0) (.con (.int (2))))))))
abbrev i__law_row_holds : Nat := 29
/-- _law_holds -/
def b__law_holds : Sm := (.ret (.bcall .all (.cons (.lc [2, 3] (.nm 3) (.iseq (.var 0)) .nil (.one (.call 29 [] (.cons (.var 3) (.cons (.var 1) .nil))))) .nil)))
abbrev i__law_holds : Nat := 30
/-- _law_row -/
def b__law_row : Sm := (.ret (.tup (.cons (.lc [4, 5] (.nm 5) (.irng1 (.var 1)) .nil (.one (.call 27 [] (.cons (.var 0) (.cons (.var 2) .nil))))) (.cons (.call 21 [] (.cons (.var 0) (.cons (.lst (.cons (.con (.str ">=")) (.cons (.con (.str ">=")) (.cons (.con (.str "=")) .nil)))) .nil))) (.cons (.call 27 [] (.cons (.var 0) (.cons (.var 3) .nil))) .nil)))))
abbrev i__law_row : Nat := 31
/-- _law_system -/
def b__law_system : Sm := (.seq (.par 5 6 (.lst .nil) (.lc [11, 12] (.nm 12) (.irng1 (.var 1)) .nil (.one (.call 27 [] (.cons (.var 0) (.cons (.con (.int (3))) .nil)))))) (.seq (.for_ (.nm 7) (.irng1 (.var 2)) (.seq (.tasg (.tp (.cons (.nm 8) (.cons (.nm 9) (.cons (.nm 10) .nil)))) (.call 31 [] (.cons (.var 0) (.cons (.var 1) (.cons (.var 3) (.cons (.var 4) .nil)))))) (.seq (.ite (.cmp .gt (.call 20 [] (.cons (.var 0) (.cons (.con (.int (3))) .nil))) (.con (.int (0)))) (.asg 10 (.bin .sub (.call 28 [] (.cons (.var 8) (.cons (.var 6) .nil))) (.ite (.cmp .eq (.var 9) (.con (.str ">="))) (.call 20 [] (.cons (.var 0) (.cons (.con (.int (3))) .nil))) (.con (.int (0)))))) .skip) (.expr (.meth .append (.var 5) (.cons (.tup (.cons (.var 8) (.cons (.var 9) (.cons (.var 10) .nil)))) .nil)))))) (.ret (.var 5))))
abbrev i__law_system : Nat := 32
/-- law -/
def b_law : Sm := (.seq (.asg 1 (.call 19 [] (.cons (.var 0) .nil))) (.seq (.for_ (.nm 2) (.irng1 (.con (.int (5)))) (.seq (.asg 3 (.bin .add (.con (.int (1))) (.call 20 [] (.cons (.var 1) (.cons (.con (.int (5))) .nil))))) (.seq (.asg 4 (.call 32 [] (.cons (.var 1) (.cons (.var 3) (.cons (.call 20 [] (.cons (.var 1) (.cons (.con (.int (6))) .nil))) (.cons (.con (.int (9))) (.cons (.con (.int (20))) .nil))))))) (.seq (.tasg (.tp (.cons (.nm 6) (.cons (.nm 7) .nil))) (.tup (.cons (.lc [18, 5] (.nm 5) (.irng1 (.var 3)) .nil (.one (.call 27 [] (.cons (.var 1) (.cons (.con (.int (5))) .nil))))) (.cons (.call 22 [] (.cons (.var 1) (.cons (.lrng (.var 3)) .nil))) .nil)))) (.seq (.asg 8 (.call 26 [] (.cons (.var 1) (.cons (.lst (.cons (.var 4) (.cons (.var 6) (.cons (.var 7) .nil)))) .nil)))) (.seq (.asg 9 (.call 25 [] (.cons (.var 8) .nil))) (.seq (.asg 10 (.lc [18, 19, 20, 21] (.tp (.cons (.nm 19) (.cons (.nm 20) (.cons (.nm 21) .nil)))) (.iseq (.var 4)) .nil (.one (.tup (.cons (.bcall .list (.cons (.var 19) .nil)) (.cons (.var 20) (.cons (.bin .sub (.var 21) (.call 28 [] (.cons (.var 19) (.cons (.var 6) .nil)))) .nil))))))) (.seq (.asg 11 (.lc [18, 19, 20, 21] (.tp (.cons (.nm 19) (.cons (.nm 20) (.cons (.nm 21) .nil)))) (.iseq (.var 4)) .nil (.one (.tup (.cons (.lc [18, 22] (.nm 22) (.irng1 (.var 3)) .nil (.one (.idx (.var 19) (.midx (.var 7) (.cons (.var 22) .nil))))) (.cons (.var 20) (.cons (.var 21) .nil))))))) (.seq (.asg 12 (.cell (.lst (.cons (.call 15 [] (.cons (.var 3) (.cons (.idx (.var 8) (.con (.int (0)))) (.cons (.idx (.var 8) (.con (.int (1)))) .nil)))) (.cons (.call 16 [] (.cons (.var 3) (.cons (.idx (.var 8) (.con (.int (0)))) (.cons (.idx (.var 8) (.con (.int (2)))) .nil)))) .nil))))) (.seq (.asg 13 (.lst (.cons (.call 15 [2, 1, 0] (.cons (.bcall .list (.cons (.var 6) .nil)) (.cons (.call 25 [] (.cons (.var 4) .nil)) (.cons (.var 3) .nil)))) (.cons (.call 16 [2, 1, 0] (.cons (.bcall .list (.cons (.var 7) .nil)) (.cons (.call 25 [] (.cons (.var 4) .nil)) (.cons (.var 3) .nil)))) .nil)))) (.seq (.ite (.or (.not (.call 23 [] (.cons (.var 12) (.cons (.lst (.cons (.var 10) (.cons (.var 11) .nil))) .nil)))) (.or (.not (.call 23 [] (.cons (.var 13) (.cons (.lst (.cons (.var 10) (.cons (.var 11) .nil))) .nil)))) (.not (.call 23 [] (.cons (.var 8) (.cons (.var 9) .nil)))))) (.ret (.con (.bl false))) .skip) (.seq (.for_ (.nm 14) (.irng1 (.con (.int (3)))) (.seq (.asg 15 (.lc [18, 5] (.nm 5) (.irng1 (.var 3)) .nil (.one (.call 27 [] (.cons (.var 1) (.cons (.con (.int (4))) .nil)))))) (.seq (.ite (.cmp .ne (.call 30 [] (.cons (.var 10) (.cons (.var 15) .nil))) (.call 30 [] (.cons (.var 4) (.cons (.lc [18, 23, 24] (.tp (.cons (.nm 23) (.cons (.nm 24) .nil))) (.izip (.var 15) (.var 6)) .nil (.one (.bin .add (.var 23) (.var 24)))) .nil)))) (.ret (.con (.bl false))) .skip) (.ite (.cmp .ne (.call 30 [] (.cons (.var 11) (.cons (.var 15) .nil))) (.call 30 [] (.cons (.var 4) (.cons (.lc [18, 5] (.nm 5) (.irng1 (.var 3)) .nil (.one (.idx (.var 15) (.idx (.var 7) (.var 5))))) .nil)))) (.ret (.con (.bl false))) .skip)))) (.seq (.expr (.call 24 [] (.cons (.var 12) .nil))) (.seq (.ite (.cmp .gt (.var 3) (.con (.int (1)))) (.seq (.tasg (.tp (.cons (.nm 5) (.cons (.nm 16) .nil))) (.tup (.cons (.call 20 [] (.cons (.var 1) (.cons (.var 3) .nil))) (.cons (.call 27 [] (.cons (.var 1) (.cons (.con (.int (9))) .nil))) .nil)))) (.seq (.asg 17 (.lc [18, 19, 20, 21] (.tp (.cons (.nm 19) (.cons (.nm 20) (.cons (.nm 21) .nil)))) (.iseq (.var 4)) .nil (.one (.tup (.cons (.bin .add (.bcall .list (.cons (.sli (.var 19) .nil (.var 5)) .nil)) (.bcall .list (.cons (.sli (.var 19) (.bin .add (.var 5) (.con (.int (1)))) .nil) .nil))) (.cons (.var 20) (.cons (.bin .sub (.var 21) (.bin .mul (.idx (.var 19) (.var 5)) (.var 16))) .nil))))))) (.seq (.asg 12 (.cell (.lst (.cons (.call 18 [] (.cons (.var 3) (.cons (.idx (.var 8) (.con (.int (0)))) (.cons (.var 5) (.cons (.var 16) .nil))))) (.cons (.call 18 [3, 2, 1, 0] (.cons (.var 16) (.cons (.var 5) (.cons (.call 25 [] (.cons (.var 4) .nil)) (.cons (.var 3) .nil))))) .nil))))) (.seq (.ite (.not (.call 23 [] (.cons (.var 12) (.cons (.lst (.cons (.var 17) (.cons (.var 17) .nil))) .nil)))) (.ret (.con (.bl false))) .skip) (.seq (.expr (.call 24 [] (.cons (.var 12) .nil))) (.ite (.not (.call 23 [] (.cons (.call 18 [] (.cons (.var 3) (.cons (.call 25 [] (.cons (.var 4) .nil)) (.cons (.var 5) (.cons (.var 16) .nil))))) (.cons (.var 17) .nil)))) (.ret (.con (.bl false))) .skip)))))) .skip) (.ite (.or (.not (.call 23 [] (.cons (.lst (.cons (.call 15 [] (.cons (.var 3) (.cons (.call 25 [] (.cons (.var 4) .nil)) (.cons (.bcall .list (.cons (.var 6) .nil)) .nil)))) (.cons (.call 16 [] (.cons (.var 3) (.cons (.call 25 [] (.cons (.var 4) .nil)) (.cons (.bcall .list (.cons (.var 7) .nil)) .nil)))) .nil))) (.cons (.lst (.cons (.var 10) (.cons (.var 11) .nil))) .nil)))) (.not (.call 23 [] (.cons (.var 8) (.cons (.var 9) .nil))))) (.ret (.con (.bl false))) .skip))))))))))))))) (.ret (.call 23 [] (.cons (.call 18 [] (.cons (.con (.int (2))) (.cons (.lst (.cons (.tup (.cons (.lst (.cons (.con (.int (1))) (.cons (.con (.int (1))) .nil))) (.cons (.con (.str ">=")) (.cons (.con (.int (2))) .nil)))) .nil)) (.cons (.con (.int (0))) (.cons (.con (.int (5))) .nil))))) (.cons (.lst (.cons (.tup (.cons (.lst (.cons (.con (.int (1))) .nil)) (.cons (.con (.str ">=")) (.cons (.neg (.con (.int (3)))) .nil)))) .nil)) .nil))))))
abbrev i_law : Nat := 33
def G : List Fn := [⟨1, 1, b_is_list⟩, ⟨1, 1, b_is_whole⟩, ⟨1, 1, b_is_number⟩, ⟨2, 2, b_is_below⟩, ⟨2, 2, b_is_row⟩, ⟨1, 1, b_check_many⟩, ⟨2, 4, b_kept_numbers⟩, ⟨2, 3, b_kept_line⟩, ⟨2, 5, b_kept_system⟩, ⟨2, 3, b_need_system⟩, ⟨2, 3, b_need_point⟩, ⟨2, 5, b_sum_at⟩, ⟨1, 1, b_told_line⟩, ⟨1, 3, b_told_system⟩, ⟨2, 6, b_moved_by⟩, ⟨3, 4, b_shifted⟩, ⟨3, 12, b_renamed⟩, ⟨3, 7, b_with_number⟩, ⟨4, 5, b_put_number⟩, ⟨1, 1, b__law_stream⟩, ⟨2, 5, b__law_draw⟩, ⟨2, 2, b__law_pick⟩, ⟨2, 5, b__law_mixed⟩, ⟨2, 5, b__law_same⟩, ⟨1, 2, b__law_spoilt⟩, ⟨1, 5, b__law_copied⟩, ⟨2, 5, b__law_loose⟩, ⟨2, 2, b__law_integer⟩, ⟨2, 5, b__law_value⟩, ⟨2, 3, b__law_row_holds⟩, ⟨2, 4, b__law_holds⟩, ⟨4, 6, b__law_row⟩, ⟨5, 13, b__law_system⟩, ⟨1, 25, b_law⟩]

end K02

/-! Rules of the evaluator. -/
namespace PL
open PySem (Str)
theorem v_non (h : Hs) : view h .non = .non := rfl
theorem v_bl (h : Hs) (b : Bool) : view h (.bl b) = .bl b := rfl
theorem v_int (h : Hs) (b : Int) : view h (.int b) = .int b := rfl
theorem v_str (h : Hs) (b : Str) : view h (.str b) = .str b := rfl
theorem v_lst (h : Hs) (b : List PV) : view h (.lst b) = .lst b := rfl
theorem v_tup (h : Hs) (b : List PV) : view h (.tup b) = .tup b := rfl
theorem v_dic (h : Hs) (a : List (Int ⊕ Str)) (b : List PV) : view h (.dic a b) = .dic a b := rfl
theorem i_lst (h : Hs) (b : List PV) : seqOf h (.lst b) = some (b, []) := rfl
theorem i_tup (h : Hs) (b : List PV) : seqOf h (.tup b) = some (b, []) := rfl
theorem lo_lst (h : Hs) (b : List PV) : lstOf h (.lst b) = some (b, []) := rfl
theorem gdOk_nil (h : Hs) : gdOk [] h = true := rfl
theorem bind_okE {α β : Type} {a : α} {e : Env} {h : Hs} {f : α → Env → Hs → Out β} : (Out.ok a e h).bind f = f a e h := rfl
theorem lcLoop_run {gd : Gd} {f : PV → Env → Hs → Out (List PV)} {xs : List PV} (P : Nat → List PV → Env → Hs → Prop)
    (step : ∀ i x e h acc, xs[i]? = some x → P i acc e h → ∃ r e' h', f x e h = .ok r e' h' ∧ P (i + 1) (acc ++ r) e' h') (hgd : ∀ i acc e h, P i acc e h → gdOk gd h = true) {e : Env} {h : Hs} (h0 : P 0 [] e h) :
    ∃ ps e' h', lcLoop gd f xs e h = .ok ps e' h' ∧ P xs.length ps e' h' := by
  have key : ∀ (ys : List PV) (i : Nat) (acc : List PV) (e : Env) (h : Hs), xs.drop i = ys → P i acc e h → ∃ ps e' h', lcLoop gd f ys e h = .ok ps e' h' ∧ P (i + ys.length) (acc ++ ps) e' h' := by
    intro ys
    induction ys with
    | nil => intro i acc e h _ hp; exact ⟨[], e, h, by rw [lcLoop, if_pos (hgd _ _ _ _ hp)], by simpa using hp⟩
    | cons y ys ih =>
      intro i acc e h hd hp
      have hlt : i < xs.length := by
        by_cases hl : i < xs.length
        · exact hl
        · rw [List.drop_eq_nil_of_le (by omega)] at hd; cases hd
      rw [List.drop_eq_getElem_cons hlt] at hd
      injection hd with h1 h2
      obtain ⟨r, e1, h1', q1, p1⟩ := step i y e h acc (by rw [List.getElem?_eq_getElem hlt, h1]) hp
      obtain ⟨ps, e2, h2', q2, p2⟩ := ih (i + 1) (acc ++ r) e1 h1' h2 p1
      refine ⟨r ++ ps, e2, h2', ?_, ?_⟩
      · rw [lcLoop, if_pos (hgd _ _ _ _ hp), q1, bind_okE, q2, bind_okE]
      · have : i + (ys.length + 1) = i + 1 + ys.length := by omega
        rw [List.length_cons, this, ← List.append_assoc]; exact p2
  obtain ⟨ps, e', h', q, p⟩ := key xs 0 [] e h rfl h0
  exact ⟨ps, e', h', q, by simpa using p⟩
theorem forLoop_run {gd : Gd} {f : PV → Env → Hs → Out Fl} {xs : List PV} (P : Nat → Env → Hs → Prop)
    (step : ∀ i x e h, xs[i]? = some x → P i e h → ∃ r e' h', f x e h = .ok r e' h' ∧ (r = .next ∨ r = .cont) ∧ P (i + 1) e' h') (hgd : ∀ i e h, P i e h → gdOk gd h = true) {e : Env} {h : Hs} (h0 : P 0 e h) :
    ∃ e' h', forLoop gd f xs e h = .ok .next e' h' ∧ P xs.length e' h' := by
  have key : ∀ (ys : List PV) (i : Nat) (e : Env) (h : Hs), xs.drop i = ys → P i e h → ∃ e' h', forLoop gd f ys e h = .ok .next e' h' ∧ P (i + ys.length) e' h' := by
    intro ys
    induction ys with
    | nil => intro i e h _ hp; exact ⟨e, h, by rw [forLoop, if_pos (hgd _ _ _ hp)], by simpa using hp⟩
    | cons y ys ih =>
      intro i e h hd hp
      have hlt : i < xs.length := by
        by_cases hl : i < xs.length
        · exact hl
        · rw [List.drop_eq_nil_of_le (by omega)] at hd; cases hd
      rw [List.drop_eq_getElem_cons hlt] at hd
      injection hd with h1 h2
      obtain ⟨r, e1, h1', q1, hr, p1⟩ := step i y e h (by rw [List.getElem?_eq_getElem hlt, h1]) hp
      obtain ⟨e2, h2', q2, p2⟩ := ih (i + 1) e1 h1' h2 p1
      refine ⟨e2, h2', ?_, ?_⟩
      · rw [forLoop, if_pos (hgd _ _ _ hp), q1, bind_okE]
        rcases hr with rfl | rfl <;> exact q2
      · have : i + (ys.length + 1) = i + 1 + ys.length := by omega
        rw [List.length_cons, this]; exact p2
  obtain ⟨e', h', q, p⟩ := key xs 0 e h rfl h0
  exact ⟨e', h', q, by simpa using p⟩
theorem whLoop_run {c : Env → Hs → Out Bool} {b : Env → Hs → Out Fl} (P : Nat → Env → Hs → Prop) (Q : Env → Hs → Prop)
    (step : ∀ m e h, P m e h → (∃ e1 h1, c e h = .ok false e1 h1 ∧ Q e1 h1) ∨ (∃ e1 h1 e2 h2 m', c e h = .ok true e1 h1 ∧ b e1 h1 = .ok .next e2 h2 ∧ m' < m ∧ P m' e2 h2)) :
    ∀ (m n : Nat) (e : Env) (h : Hs), m < n → P m e h → ∃ e' h', whLoop c b n e h = .ok .next e' h' ∧ Q e' h' := by
  intro m
  induction m using Nat.strongRecOn with
  | ind m ih =>
    intro n e h hn hp
    cases n with
    | zero => omega
    | succ n =>
      unfold whLoop
      rcases step m e h hp with ⟨e1, h1, q, hq⟩ | ⟨e1, h1, e2, h2, m', q, qb, hm, hp'⟩
      · rw [q, bind_okE, if_neg Bool.false_ne_true]; exact ⟨e1, h1, rfl, hq⟩
      · rw [q, bind_okE, if_pos rfl, qb, bind_okE]
        exact ih m' hm n e2 h2 (by omega) hp'
theorem wipeE_idem (own : List Nat) (e : Env) : wipeE own (wipeE own e) = wipeE own e := wipeE_sub fun _ h => h
theorem lcStep_wipe {C : Calls} {tg : Tg} {ifs body : Ex} {own : List Nat} {x : PV} {e : Env} {h : Hs} : lcStep C tg ifs body own x e h = lcStep C tg ifs body own x (wipeE own e) h := by
  unfold lcStep; rw [wipeE_idem]
theorem backE_wipe (own : List Nat) (e0 e : Env) : backE own e0 e = backE own e0 (wipeE own e) := by
  refine List.ext_getElem? fun i => ?_
  rw [backE_get, backE_get, wipeE_get]
  by_cases hv : i ∈ own
  · rw [if_pos hv, if_pos hv, if_pos hv]; cases e[i]? <;> rfl
  · rw [if_neg hv, if_neg hv, if_neg hv]
/-- a comprehension of one clause -/
theorem lc_gen {C : Calls} {own : List Nat} {tg : Tg} {it ifs body : Ex} {e e1 : Env} {h h1 : Hs} {xs : List PV} {gd : Gd} (hi : evI C it e h = .ok (xs, gd) e1 h1) (P : Nat → List PV → Hs → Prop) (E : Nat → Env) (hE : wipeE own (frzAt own e1) = E 0)
    (step : ∀ i x h acc, xs[i]? = some x → P i acc h → ∃ r h' e', lcStep C tg ifs body own x (E i) h = .ok r e' h' ∧ wipeE own e' = E (i + 1) ∧ P (i + 1) (acc ++ r) h')
    (hgd : ∀ i acc h, P i acc h → gdOk gd h = true) (h0 : P 0 [] h1) (hlen : ∀ ps h', P xs.length ps h' → ps.length ≤ line) :
    ∃ ps h', evA C (.lc own tg it ifs body) e h = .ok (.v (.lst ps) true) (backE own (frzAt own e1) (E xs.length)) h' ∧ P xs.length ps h' := by
  obtain ⟨ps, eF, hF, q, w, p⟩ := lcLoop_run (gd := gd) (f := lcStep C tg ifs body own) (xs := xs) (fun i acc e h => wipeE own e = E i ∧ P i acc h) (e := frzAt own e1) (h := h1) (fun i x e h acc hx ⟨he, hp⟩ => by
    obtain ⟨r, h', e', q, w, p⟩ := step i x h acc hx hp
    exact ⟨r, e', h', by rw [lcStep_wipe, he]; exact q, w, p⟩) (fun i acc e h ⟨_, hp⟩ => hgd i acc h hp) ⟨hE, h0⟩
  refine ⟨ps, hF, ?_, p⟩
  simp only [evA, hi, bind_okE]
  change (match (lcLoop gd (lcStep C tg ifs body own) xs (frzAt own e1) h1).noex with
      | Out.ok ps e2 h2 => if ps.length ≤ line then Out.ok (Rs.v (PV.lst ps) true) (backE own (frzAt own e1) e2) h2 else Out.stuck
      | _ => Out.stuck) = _
  rw [q]
  simp only [Out.noex]
  rw [if_pos (hlen ps hF p), backE_wipe, w]
/-- .. that asks the heap nothing -/
theorem lc_map {C : Calls} {own : List Nat} {tg : Tg} {it body : Ex} {e e1 : Env} {h h1 : Hs} {xs : List PV} {gd : Gd} (hi : evI C it e h = .ok (xs, gd) e1 h1) (hgd : gdOk gd h1 = true) (g : PV → PV) (E0 : Env) (hE : wipeE own (frzAt own e1) = E0) (hl : xs.length ≤ line)
    (step : ∀ x, x ∈ xs → ∃ e', lcStep C tg .nil body own x E0 h1 = .ok [g x] e' h1 ∧ wipeE own e' = E0) :
    evA C (.lc own tg it .nil body) e h = .ok (.v (.lst (xs.map g)) true) (backE own (frzAt own e1) E0) h1 := by
  obtain ⟨ps, h', q, p1, p2⟩ := lc_gen (own := own) (tg := tg) (ifs := .nil) (body := body) hi (fun i acc h => acc = (xs.take i).map g ∧ h = h1) (fun _ => E0) hE (fun i x h acc hx ⟨ha, hh⟩ => by
    subst hh
    obtain ⟨e', q, w⟩ := step x (List.mem_of_getElem? hx)
    refine ⟨[g x], _, e', q, w, ?_, rfl⟩
    rw [ha, List.take_succ, hx]; simp) (fun _ _ h ⟨_, hh⟩ => by rw [hh]; exact hgd) ⟨rfl, rfl⟩ (fun ps h' ⟨hp, _⟩ => by rw [hp]; simp; exact hl)
  rw [q, p1, p2, List.take_length]
/-- one turn, its test let go -/
theorem lcStep_nil {C : Calls} {tg : Tg} {body : Ex} {own : List Nat} {x : PV} {e e' : Env} {h : Hs} (hb : bindT tg x (wipeE own e) = some e') : lcStep C tg .nil body own x e h = evM C body e' h := by
  unfold lcStep
  rw [hb]
  simp only [evT, bind_okE, if_true]
theorem evS_seq {C : Calls} {a b : Sm} {e : Env} {h : Hs} : evS C (.seq a b) e h = (evS C a e h).bind fun r e1 h1 => match r with
      | .next => evS C b e1 h1
      | r => .ok r e1 h1 := by first | (simp only [evS]; done) | (simp only [evS]; rfl)
theorem evS_while {C : Calls} {c : Ex} {b : Sm} {e : Env} {h : Hs} : evS C (.while_ c b) e h = whLoop (fun e h => evT C c e h) (fun e h => evS C b e h) LF e h := by simp only [evS]
theorem seq_next {C : Calls} {a b : Sm} {e e1 : Env} {h h1 : Hs} (q : evS C a e h = .ok .next e1 h1) : evS C (.seq a b) e h = evS C b e1 h1 := by rw [evS_seq, q, bind_okE]
theorem seq_ret {C : Calls} {a b : Sm} {e e1 : Env} {h h1 : Hs} {p : PV} {fr : Bool} (q : evS C a e h = .ok (.ret p fr) e1 h1) : evS C (.seq a b) e h = .ok (.ret p fr) e1 h1 := by rw [evS_seq, q, bind_okE]
def forStep (C : Calls) (t : Tg) (b : Sm) : PV → Env → Hs → Out Fl := fun x e h => match bindT t x e with
      | some e' => evS C b e' h
      | none => .stuck
theorem evS_for {C : Calls} {t : Tg} {it : Ex} {b : Sm} {e : Env} {h : Hs} : evS C (.for_ t it b) e h = (evI C it e h).bind fun xs e1 h1 => forLoop xs.2 (forStep C t b) xs.1 e1 h1 := by simp only [evS]; rfl
theorem asg_of {C : Calls} {i : Nat} {a : Ex} {e e1 e2 : Env} {h h1 : Hs} {r : Rs} {p : PV} {fr : Bool} (q : evA C a e h = .ok r e1 h1) (q2 : esc r e1 = some (p, fr, e2)) (hi : i < e2.length) : evS C (.asg i a) e h = .ok .next (e2.set i (mk p fr)) h1 := by
  simp only [evS, q, bind_okE, q2, hi, if_true]
end PL

namespace K02
open PL
open PySem (Str)
theorem c_is_list (k : Nat) (a0 : PV) (h : Hs) : callN G (k + 1) 0 [a0] h = finish (evS (callN G k) b_is_list [.val a0] h) := rfl
theorem c_is_whole (k : Nat) (a0 : PV) (h : Hs) : callN G (k + 1) 1 [a0] h = finish (evS (callN G k) b_is_whole [.val a0] h) := rfl
theorem c_is_number (k : Nat) (a0 : PV) (h : Hs) : callN G (k + 1) 2 [a0] h = finish (evS (callN G k) b_is_number [.val a0] h) := rfl
theorem c_is_below (k : Nat) (a0 a1 : PV) (h : Hs) : callN G (k + 1) 3 [a0, a1] h = finish (evS (callN G k) b_is_below [.val a0, .val a1] h) := rfl
theorem c_is_row (k : Nat) (a0 a1 : PV) (h : Hs) : callN G (k + 1) 4 [a0, a1] h = finish (evS (callN G k) b_is_row [.val a0, .val a1] h) := rfl
theorem c_check_many (k : Nat) (a0 : PV) (h : Hs) : callN G (k + 1) 5 [a0] h = finish (evS (callN G k) b_check_many [.val a0] h) := rfl
theorem c_kept_numbers (k : Nat) (a0 a1 : PV) (h : Hs) : callN G (k + 1) 6 [a0, a1] h = finish (evS (callN G k) b_kept_numbers [.val a0, .val a1, .no, .no] h) := rfl
theorem c_kept_line (k : Nat) (a0 a1 : PV) (h : Hs) : callN G (k + 1) 7 [a0, a1] h = finish (evS (callN G k) b_kept_line [.val a0, .val a1, .no] h) := rfl
theorem c_kept_system (k : Nat) (a0 a1 : PV) (h : Hs) : callN G (k + 1) 8 [a0, a1] h = finish (evS (callN G k) b_kept_system [.val a0, .val a1, .no, .no, .no] h) := rfl
theorem c_need_system (k : Nat) (a0 a1 : PV) (h : Hs) : callN G (k + 1) 9 [a0, a1] h = finish (evS (callN G k) b_need_system [.val a0, .val a1, .no] h) := rfl
theorem c_need_point (k : Nat) (a0 a1 : PV) (h : Hs) : callN G (k + 1) 10 [a0, a1] h = finish (evS (callN G k) b_need_point [.val a0, .val a1, .no] h) := rfl
theorem c_sum_at (k : Nat) (a0 a1 : PV) (h : Hs) : callN G (k + 1) 11 [a0, a1] h = finish (evS (callN G k) b_sum_at [.val a0, .val a1, .no, .no, .no] h) := rfl
theorem c_told_line (k : Nat) (a0 : PV) (h : Hs) : callN G (k + 1) 12 [a0] h = finish (evS (callN G k) b_told_line [.val a0] h) := rfl
theorem c_told_system (k : Nat) (a0 : PV) (h : Hs) : callN G (k + 1) 13 [a0] h = finish (evS (callN G k) b_told_system [.val a0, .no, .no] h) := rfl
theorem c_moved_by (k : Nat) (a0 a1 : PV) (h : Hs) : callN G (k + 1) 14 [a0, a1] h = finish (evS (callN G k) b_moved_by [.val a0, .val a1, .no, .no, .no, .no] h) := rfl
theorem c_shifted (k : Nat) (a0 a1 a2 : PV) (h : Hs) : callN G (k + 1) 15 [a0, a1, a2] h = finish (evS (callN G k) b_shifted [.val a0, .val a1, .val a2, .no] h) := rfl
theorem c_renamed (k : Nat) (a0 a1 a2 : PV) (h : Hs) : callN G (k + 1) 16 [a0, a1, a2] h = finish (evS (callN G k) b_renamed [.val a0, .val a1, .val a2, .no, .no, .no, .no, .no, .no, .no, .no, .no] h) := rfl
theorem c_with_number (k : Nat) (a0 a1 a2 : PV) (h : Hs) : callN G (k + 1) 17 [a0, a1, a2] h = finish (evS (callN G k) b_with_number [.val a0, .val a1, .val a2, .no, .no, .no, .no] h) := rfl
theorem c_put_number (k : Nat) (a0 a1 a2 a3 : PV) (h : Hs) : callN G (k + 1) 18 [a0, a1, a2, a3] h = finish (evS (callN G k) b_put_number [.val a0, .val a1, .val a2, .val a3, .no] h) := rfl
theorem c__law_stream (k : Nat) (a0 : PV) (h : Hs) : callN G (k + 1) 19 [a0] h = finish (evS (callN G k) b__law_stream [.val a0] h) := rfl
theorem c__law_draw (k : Nat) (a0 a1 : PV) (h : Hs) : callN G (k + 1) 20 [a0, a1] h = finish (evS (callN G k) b__law_draw [.val a0, .val a1, .no, .no, .no] h) := rfl
theorem c__law_pick (k : Nat) (a0 a1 : PV) (h : Hs) : callN G (k + 1) 21 [a0, a1] h = finish (evS (callN G k) b__law_pick [.val a0, .val a1] h) := rfl
theorem c__law_mixed (k : Nat) (a0 a1 : PV) (h : Hs) : callN G (k + 1) 22 [a0, a1] h = finish (evS (callN G k) b__law_mixed [.val a0, .val a1, .no, .no, .no] h) := rfl
theorem c__law_same (k : Nat) (a0 a1 : PV) (h : Hs) : callN G (k + 1) 23 [a0, a1] h = finish (evS (callN G k) b__law_same [.val a0, .val a1, .no, .no, .no] h) := rfl
theorem c__law_spoilt (k : Nat) (a0 : PV) (h : Hs) : callN G (k + 1) 24 [a0] h = finish (evS (callN G k) b__law_spoilt [.val a0, .no] h) := rfl
theorem c__law_copied (k : Nat) (a0 : PV) (h : Hs) : callN G (k + 1) 25 [a0] h = finish (evS (callN G k) b__law_copied [.val a0, .no, .no, .no, .no] h) := rfl
theorem c__law_loose (k : Nat) (a0 a1 : PV) (h : Hs) : callN G (k + 1) 26 [a0, a1] h = finish (evS (callN G k) b__law_loose [.val a0, .val a1, .no, .no, .no] h) := rfl
theorem c__law_integer (k : Nat) (a0 a1 : PV) (h : Hs) : callN G (k + 1) 27 [a0, a1] h = finish (evS (callN G k) b__law_integer [.val a0, .val a1] h) := rfl
theorem c__law_value (k : Nat) (a0 a1 : PV) (h : Hs) : callN G (k + 1) 28 [a0, a1] h = finish (evS (callN G k) b__law_value [.val a0, .val a1, .no, .no, .no] h) := rfl
theorem c__law_row_holds (k : Nat) (a0 a1 : PV) (h : Hs) : callN G (k + 1) 29 [a0, a1] h = finish (evS (callN G k) b__law_row_holds [.val a0, .val a1, .no] h) := rfl
theorem c__law_holds (k : Nat) (a0 a1 : PV) (h : Hs) : callN G (k + 1) 30 [a0, a1] h = finish (evS (callN G k) b__law_holds [.val a0, .val a1, .no, .no] h) := rfl
theorem c__law_row (k : Nat) (a0 a1 a2 a3 : PV) (h : Hs) : callN G (k + 1) 31 [a0, a1, a2, a3] h = finish (evS (callN G k) b__law_row [.val a0, .val a1, .val a2, .val a3, .no, .no] h) := rfl
theorem c__law_system (k : Nat) (a0 a1 a2 a3 a4 : PV) (h : Hs) : callN G (k + 1) 32 [a0, a1, a2, a3, a4] h = finish (evS (callN G k) b__law_system [.val a0, .val a1, .val a2, .val a3, .val a4, .no, .no, .no, .no, .no, .no, .no, .no] h) := rfl
theorem c_law (k : Nat) (a0 : PV) (h : Hs) : callN G (k + 1) 33 [a0] h = finish (evS (callN G k) b_law [.val a0, .no, .no, .no, .no, .no, .no, .no, .no, .no, .no, .no, .no, .no, .no, .no, .no, .no, .no, .no, .no, .no, .no, .no, .no] h) := rfl
end K02

namespace K02
open PL
open PySem (Str)
theorem eqi (a b : Int) : opEq (.int a) (.int b) = some (a == b) := by simp [opEq, okD, dep, eqv]
/-- the stream: so many numbers drawn at most -/
def SI (c : Nat) (rest : Hs) (h : Hs) : Prop := ∃ (cells : List Int) (a n m : Int), h = .lst (cells.map .int) :: .lst [.ref 0, .int a, .int n, .int m] :: rest ∧ 0 ≤ a ∧ 0 ≤ n ∧ n ≤ c ∧ 0 ≤ m ∧ m < 2147483647 ∧ cells.length ≤ 63
variable {rest : Hs}
theorem SI.mono {c d : Nat} {h : Hs} (s : SI c rest h) (hcd : c ≤ d) : SI d rest h := by
  obtain ⟨cells, a, n, m, e, h1, h2, h3, h4⟩ := s
  exact ⟨cells, a, n, m, e, h1, h2, by omega, h4⟩
theorem mulOk_of (i j : Int) (hi : i.natAbs < 2 ^ 200) (hj : j.natAbs < 2 ^ 200) : mulOk i j = true := by
  have lg : ∀ n : Nat, n < 2 ^ 200 → n.log2 < 200 := fun n hn => by
    by_cases h0 : n = 0
    · subst h0; decide
    · exact (Nat.log2_lt h0).mpr hn
  have := lg _ hi
  have := lg _ hj
  unfold mulOk
  simp; omega
theorem nat_pow_lt {x : Int} {b : Nat} (h0 : 0 ≤ x) (h1 : x < (b : Int)) : x.natAbs < b := by omega
def wc : Ex := (.and (.cmp .eq (.idx (.var 0) (.con (.int (1)))) (.con (.int (0)))) (.cmp .ne (.idx (.var 0) (.con (.int (0)))) (.lst .nil)))
def wb : Sm := (.seq (.asg 2 (.bcall .abs (.cons (.meth .popAt (.idx (.var 0) (.con (.int (0)))) (.cons (.con (.int (0))) .nil)) .nil))) (.seq (.seti (.var 0) (.con (.int (3))) (.bin .mod (.bcall .int (.cons (.bin .add (.bin .add (.bin .mul (.idx (.var 0) (.con (.int (3)))) (.con (.int (8191)))) (.var 2)) (.con (.int (3)))) .nil)) (.con (.int (2147483647))))) (.seti (.var 0) (.con (.int (1))) (.ite (.cmp .ge (.var 2) (.bin .pow (.con (.int (10))) (.con (.int (18))))) (.var 2) (.con (.int (0)))))))
def wr : Sm := (.seq (.ite (.cmp .gt (.idx (.var 0) (.con (.int (1)))) (.con (.int (0)))) (.seq (.asg 3 (.bin .mod (.bcall .int (.cons (.idx (.var 0) (.con (.int (1)))) .nil)) (.var 1))) (.seq (.seti (.var 0) (.con (.int (1))) (.bin .fdiv (.idx (.var 0) (.con (.int (1)))) (.var 1))) (.ret (.var 3)))) .skip) (.seq (.asg 4 (.bin .mod (.bcall .int (.cons (.bin .pow (.bin .add (.bin .add (.idx (.var 0) (.con (.int (3)))) (.bin .mul (.con (.int (7919))) (.idx (.var 0) (.con (.int (2)))))) (.con (.int (104729)))) (.con (.int (5)))) .nil)) (.con (.int (2147483629))))) (.ret (.bin .mod (.bin .mod (.bcall .int (.cons (.bin .pow (.bin .add (.bin .add (.bin .mul (.var 4) (.con (.int (48271)))) (.bin .mul (.con (.int (30011))) (.idx (.var 0) (.con (.int (2)))))) (.con (.int (29)))) (.con (.int (3)))) .nil)) (.con (.int (1000000007)))) (.var 1)))))
theorem draw_body : b__law_draw = .seq (.seti (.var 0) (.con (.int (2))) (.bin .add (.idx (.var 0) (.con (.int (2)))) (.con (.int (1))))) (.seq (.while_ wc wb) wr) := rfl
section
variable (C : Calls) (cells : List Int) (a n m : Int) (many : Int) (x2 x3 x4 : SV)
def hh (rest : Hs) (cells : List Int) (a n m : Int) : Hs := .lst (cells.map .int) :: .lst [.ref 0, .int a, .int n, .int m] :: rest
theorem ix0 : PL.ixN 4 0 = some 0 := rfl
theorem ix1 : PL.ixN 4 1 = some 1 := rfl
theorem ix2 : PL.ixN 4 2 = some 2 := rfl
theorem ix3 : PL.ixN 4 3 = some 3 := rfl
theorem vr1 : view (hh rest cells a n m) (.ref 1) = .lst [.ref 0, .int a, .int n, .int m] := rfl
theorem vr0 : view (hh rest cells a n m) (.ref 0) = .lst (cells.map .int) := rfl
theorem hg1 : (hh rest cells a n m)[1]? = some (.lst [.ref 0, .int a, .int n, .int m]) := rfl
theorem hg0 : (hh rest cells a n m)[0]? = some (.lst (cells.map .int)) := rfl
theorem hs1 (a' n' m' : Int) : (hh rest cells a n m).set 1 (.lst [.ref 0, .int a', .int n', .int m']) = hh rest cells a' n' m' := rfl
theorem hs0 (cs : List Int) : (hh rest cells a n m).set 0 (.lst (cs.map .int)) = hh rest cs a n m := rfl
theorem bAdd (i j : Int) : opBin .add (.int i) (.int j) = some (.int (i + j), false) := rfl
theorem bSub (i j : Int) : opBin .sub (.int i) (.int j) = some (.int (i - j), false) := rfl
theorem bMul {i j : Int} (h : mulOk i j = true) : opBin .mul (.int i) (.int j) = some (.int (i * j), false) := by simp [opBin, h]
theorem bMod {i j : Int} (h : j ≠ 0) : opBin .mod (.int i) (.int j) = some (.int (i.fmod j), false) := by simp [opBin, h]
theorem bDiv {i j : Int} (h : j ≠ 0) (h2 : j.natAbs < 1073741824) : opBin .fdiv (.int i) (.int j) = some (.int (i.fdiv j), false) := by simp [opBin, h, h2]
theorem bPow {i : Int} {j : Nat} (h : i.natAbs < 2 ^ 64) (hj : j ≤ 1000000) : opBin .pow (.int i) (.int j) = some (.int (i ^ j), false) := by
  have : (j : Int) ≤ 1000000 := by omega
  simp [opBin, h, this]
theorem draw_1 : evS C (.seti (.var 0) (.con (.int (2))) (.bin .add (.idx (.var 0) (.con (.int (2)))) (.con (.int (1))))) [.val (.ref 1), .val (.int many), x2, x3, x4] (hh rest cells a n m) = .ok .next [.val (.ref 1), .val (.int many), x2, x3, x4] (hh rest cells a (n + 1) m) := by
  simp only [evS, evA, evM, evT, evL, evR, evO, evI, Out.bind, Out.noex, lift, rd, v_non, v_bl, v_int, v_str, v_lst, v_tup, v_dic, esc, finish, mk, permute, bindT, bindTs, i_lst, i_tup, lo_lst, List.append_nil, Option.bind_some, Option.bind_none, Option.map_some, Option.map_none, Option.bind_eq_bind, List.getElem?_cons_zero, List.getElem?_cons_succ, List.getElem?_nil, List.set_cons_zero, List.set_cons_succ, List.length_cons, List.length_nil, List.mapM_cons, List.mapM_nil, Option.pure_def, Option.getD_some, and_self, Bool.not_true, Bool.not_false, if_true, if_false, Bool.false_eq_true, Bool.true_eq_false, reduceIte, Nat.reduceAdd, Nat.reduceLT, Nat.reduceSub, vr1, opIdx, ix2, bAdd, mut?, put, hg1, hs1]
theorem eqs_int : ∀ l : List Int, okDs (l.map .int) = true ∧ deps (l.map .int) = 0
  | [] => ⟨rfl, rfl⟩
  | x :: l => by simp [okDs, deps, okD, dep, eqs_int l]
theorem draw_c : evT C wc [.val (.ref 1), .val (.int many), x2, x3, x4] (hh rest cells a n m) = .ok ((a == 0) && !cells.isEmpty) [.val (.ref 1), .val (.int many), x2, x3, x4] (hh rest cells a n m) := by
  have e1 : opEq (.lst (cells.map .int)) (.lst []) = some cells.isEmpty := by
    unfold opEq
    simp only [okD, okDs, dep, deps, eqs_int]
    cases cells <;> simp [eqv, eqvs]
  unfold wc
  simp only [evS, evA, evM, evT, evL, evR, evO, evI, Out.bind, Out.noex, lift, rd, v_non, v_bl, v_int, v_str, v_lst, v_tup, v_dic, esc, finish, mk, permute, bindT, bindTs, i_lst, i_tup, lo_lst, List.append_nil, Option.bind_some, Option.bind_none, Option.map_some, Option.map_none, Option.bind_eq_bind, List.getElem?_cons_zero, List.getElem?_cons_succ, List.getElem?_nil, List.set_cons_zero, List.set_cons_succ, List.length_cons, List.length_nil, List.mapM_cons, List.mapM_nil, Option.pure_def, Option.getD_some, and_self, Bool.not_true, Bool.not_false, if_true, if_false, Bool.false_eq_true, Bool.true_eq_false, reduceIte, Nat.reduceAdd, Nat.reduceLT, Nat.reduceSub, vr1, vr0, opIdx, ix1, ix0, opCmp, eqi, e1, truthy]
  cases a == 0 <;> simp
theorem draw_b (c : Int) (h0 : 0 ≤ m) (h1 : m < 2147483647) : ∃ y a' m', evS C wb [.val (.ref 1), .val (.int many), x2, x3, x4] (hh rest (c :: cells) a n m) = .ok .next [.val (.ref 1), .val (.int many), y, x3, x4] (hh rest cells a' n m') ∧ 0 ≤ a' ∧ 0 ≤ m' ∧ m' < 2147483647 := by
  have m1 : mulOk m 8191 = true := mulOk_of _ _ (Nat.lt_trans (show m.natAbs < 2147483647 by omega) (by decide)) (by decide)
  have p1 : opM .popAt ((c :: cells).map .int) [.int 0] = some (.int c, cells.map .int) := by
    simp [opM, PL.ixN]
  have p10 : opBin .pow (.int 10) (.int 18) = some (.int 1000000000000000000, false) := by simp [opBin]
  have fm : ∀ x : Int, 0 ≤ x.fmod 2147483647 ∧ x.fmod 2147483647 < 2147483647 := fun x => ⟨Int.fmod_nonneg_of_pos x (by decide), Int.fmod_lt_of_pos x (by decide)⟩
  have md : ∀ x : Int, opBin .mod (.int x) (.int 2147483647) = some (.int (x.fmod 2147483647), false) := fun x => bMod (by decide)
  unfold wb
  by_cases hc : (1000000000000000000 : Int) ≤ (if c < 0 then -c else c)
  · simp only [evS, evA, evM, evT, evL, evR, evO, evI, Out.bind, Out.noex, lift, rd, v_non, v_bl, v_int, v_str, v_lst, v_tup, v_dic, esc, finish, mk, permute, bindT, bindTs, i_lst, i_tup, lo_lst, List.append_nil, Option.bind_some, Option.bind_none, Option.map_some, Option.map_none, Option.bind_eq_bind, List.getElem?_cons_zero, List.getElem?_cons_succ, List.getElem?_nil, List.set_cons_zero, List.set_cons_succ, List.length_cons, List.length_nil, List.mapM_cons, List.mapM_nil, Option.pure_def, Option.getD_some, and_self, Bool.not_true, Bool.not_false, if_true, if_false, Bool.false_eq_true, Bool.true_eq_false, reduceIte, Nat.reduceAdd, Nat.reduceLT, Nat.reduceSub, vr1, vr0, opIdx, ix1, ix0, ix3, opCmp, opB, p1, p10, mut?, put, hg1, hg0, hs1, hs0, truthy, bAdd, bMul m1, md, hc, decide_true]
    exact ⟨_, _, _, rfl, by omega, (fm _).1, (fm _).2⟩
  · simp only [evS, evA, evM, evT, evL, evR, evO, evI, Out.bind, Out.noex, lift, rd, v_non, v_bl, v_int, v_str, v_lst, v_tup, v_dic, esc, finish, mk, permute, bindT, bindTs, i_lst, i_tup, lo_lst, List.append_nil, Option.bind_some, Option.bind_none, Option.map_some, Option.map_none, Option.bind_eq_bind, List.getElem?_cons_zero, List.getElem?_cons_succ, List.getElem?_nil, List.set_cons_zero, List.set_cons_succ, List.length_cons, List.length_nil, List.mapM_cons, List.mapM_nil, Option.pure_def, Option.getD_some, and_self, Bool.not_true, Bool.not_false, if_true, if_false, Bool.false_eq_true, Bool.true_eq_false, reduceIte, Nat.reduceAdd, Nat.reduceLT, Nat.reduceSub, vr1, vr0, opIdx, ix1, ix0, ix3, opCmp, opB, p1, p10, mut?, put, hg1, hg0, hs1, hs0, truthy, bAdd, bMul m1, md, hc, decide_false]
    exact ⟨_, _, _, rfl, by omega, (fm _).1, (fm _).2⟩
theorem draw_r (ha : 0 ≤ a) (hn : 0 ≤ n) (hn2 : n ≤ 1000000) (h0 : 0 ≤ m) (h1 : m < 2147483647) (hm : 0 < many) (hm2 : many < 1000000) : ∃ d a' e', evS C wr [.val (.ref 1), .val (.int many), x2, x3, x4] (hh rest cells a n m) = .ok (.ret (.int d) false) e' (hh rest cells a' n m) ∧ 0 ≤ a' ∧ 0 ≤ d ∧ d < many := by
  have hm0 : many ≠ 0 := by omega
  have fm : ∀ x : Int, 0 ≤ x.fmod many ∧ x.fmod many < many := fun x => ⟨Int.fmod_nonneg_of_pos x hm, Int.fmod_lt_of_pos x hm⟩
  have md : ∀ x : Int, opBin .mod (.int x) (.int many) = some (.int (x.fmod many), false) := fun x => bMod hm0
  have md2 : ∀ x : Int, opBin .mod (.int x) (.int 2147483629) = some (.int (x.fmod 2147483629), false) := fun x => bMod (by decide)
  have md3 : ∀ x : Int, opBin .mod (.int x) (.int 1000000007) = some (.int (x.fmod 1000000007), false) := fun x => bMod (by decide)
  have dv : opBin .fdiv (.int a) (.int many) = some (.int (a.fdiv many), false) := bDiv hm0 (by omega)
  unfold wr
  by_cases hc : 0 < a
  · simp only [evS, evA, evM, evT, evL, evR, evO, evI, Out.bind, Out.noex, lift, rd, v_non, v_bl, v_int, v_str, v_lst, v_tup, v_dic, esc, finish, mk, permute, bindT, bindTs, i_lst, i_tup, lo_lst, List.append_nil, Option.bind_some, Option.bind_none, Option.map_some, Option.map_none, Option.bind_eq_bind, List.getElem?_cons_zero, List.getElem?_cons_succ, List.getElem?_nil, List.set_cons_zero, List.set_cons_succ, List.length_cons, List.length_nil, List.mapM_cons, List.mapM_nil, Option.pure_def, Option.getD_some, and_self, Bool.not_true, Bool.not_false, if_true, if_false, Bool.false_eq_true, Bool.true_eq_false, reduceIte, Nat.reduceAdd, Nat.reduceLT, Nat.reduceSub, vr1, vr0, opIdx, ix1, ix0, ix3, opCmp, opB, mut?, put, hg1, hg0, hs1, hs0, truthy, md, dv, hc, decide_true]
    exact ⟨_, _, _, rfl, Int.fdiv_nonneg ha (by omega), (fm _).1, (fm _).2⟩
  · have mu1 : opBin .mul (.int 7919) (.int n) = some (.int (7919 * n), false) := bMul (mulOk_of _ _ (by decide) (Nat.lt_trans (show n.natAbs < 2147483647 by omega) (by decide)))
    have pw1 : opBin .pow (.int (m + 7919 * n + 104729)) (.int 5) = some (.int ((m + 7919 * n + 104729) ^ 5), false) := bPow (j := 5) (by omega) (by decide)
    generalize hmx : ((m + 7919 * n + 104729) ^ 5).fmod 2147483629 = mx at *
    have hx0 : 0 ≤ mx := by rw [← hmx]; exact Int.fmod_nonneg_of_pos _ (by decide)
    have hx1 : mx < 2147483629 := by rw [← hmx]; exact Int.fmod_lt_of_pos _ (by decide)
    have mu2 : opBin .mul (.int mx) (.int 48271) = some (.int (mx * 48271), false) := bMul (mulOk_of _ _ (Nat.lt_trans (show mx.natAbs < 2147483647 by omega) (by decide)) (by decide))
    have mu3 : opBin .mul (.int 30011) (.int n) = some (.int (30011 * n), false) := bMul (mulOk_of _ _ (by decide) (Nat.lt_trans (show n.natAbs < 2147483647 by omega) (by decide)))
    have pw2 : opBin .pow (.int (mx * 48271 + 30011 * n + 29)) (.int 3) = some (.int ((mx * 48271 + 30011 * n + 29) ^ 3), false) := bPow (j := 3) (by omega) (by decide)
    simp only [evS, evA, evM, evT, evL, evR, evO, evI, Out.bind, Out.noex, lift, rd, v_non, v_bl, v_int, v_str, v_lst, v_tup, v_dic, esc, finish, mk, permute, bindT, bindTs, i_lst, i_tup, lo_lst, List.append_nil, Option.bind_some, Option.bind_none, Option.map_some, Option.map_none, Option.bind_eq_bind, List.getElem?_cons_zero, List.getElem?_cons_succ, List.getElem?_nil, List.set_cons_zero, List.set_cons_succ, List.length_cons, List.length_nil, List.mapM_cons, List.mapM_nil, Option.pure_def, Option.getD_some, and_self, Bool.not_true, Bool.not_false, if_true, if_false, Bool.false_eq_true, Bool.true_eq_false, reduceIte, Nat.reduceAdd, Nat.reduceLT, Nat.reduceSub, vr1, vr0, opIdx, ix1, ix2, ix0, ix3, opCmp, opB, mut?, put, hg1, hg0, hs1, hs0, truthy, md, md2, md3, bAdd, mu1, pw1, hmx, mu2, mu3, pw2, hc, decide_false]
    exact ⟨_, _, _, rfl, ha, (fm _).1, (fm _).2⟩
end
theorem s_draw (k c : Nat) (h : Hs) (s : SI c rest h) (hc : c < 1000000) (many : Int) (hm : 0 < many) (hm2 : many < 1000000) : ∃ d h', callN G (k + 1) 20 [.ref 1, .int many] h = .ret (.int d) false h' ∧ SI (c + 1) rest h' ∧ 0 ≤ d ∧ d < many := by
  obtain ⟨cells, a, n, m, e, ha, hn, hnc, h0, h1, hl⟩ := s
  have e' : h = hh rest cells a n m := e
  subst e'
  rw [c__law_draw, draw_body]
  have w := whLoop_run (c := fun e h => evT (callN G k) wc e h) (b := fun e h => evS (callN G k) wb e h)
    (fun j e h => ∃ cells a m x2, j = cells.length ∧ cells.length ≤ 63 ∧ 0 ≤ a ∧ 0 ≤ m ∧ m < 2147483647 ∧ e = [.val (.ref 1), .val (.int many), x2, .no, .no] ∧ h = hh rest cells a (n + 1) m)
    (fun e h => ∃ cells a m x2, cells.length ≤ 63 ∧ 0 ≤ a ∧ 0 ≤ m ∧ m < 2147483647 ∧ e = [.val (.ref 1), .val (.int many), x2, .no, .no] ∧ h = hh rest cells a (n + 1) m)
    (fun j e h ⟨cells, a, m, x2, hj, hl, ha, h0, h1, he, hh'⟩ => by
      subst he; subst hh'
      rw [draw_c]
      cases cells with
      | nil => exact .inl ⟨_, _, by simp, [], a, m, x2, hl, ha, h0, h1, rfl, rfl⟩
      | cons c cs =>
        by_cases hz : a = 0
        · subst hz
          obtain ⟨y, a', m', q, q1, q2, q3⟩ := draw_b (callN G k) cs 0 (n + 1) m many x2 .no .no c h0 h1
          exact .inr ⟨_, _, _, _, cs.length, by simp, q, by rw [hj]; simp, cs, a', m', y, rfl, by simp at hl; omega, q1, q2, q3, rfl, rfl⟩
        · exact .inl ⟨_, _, by simp [hz], c :: cs, a, m, x2, hl, ha, h0, h1, rfl, rfl⟩)
    cells.length LF [.val (.ref 1), .val (.int many), .no, .no, .no] (hh rest cells a (n + 1) m) (by unfold LF; omega) ⟨cells, a, m, .no, rfl, hl, ha, h0, h1, rfl, rfl⟩
  obtain ⟨e1, h1', q, cells', a1, m1, x2, g1, g2, g3, g4, rfl, rfl⟩ := w
  obtain ⟨d, a2, e2, r, r1, r2, r3⟩ := draw_r (callN G k) cells' a1 (n + 1) m1 many x2 .no .no g2 (by omega) (by omega) g3 g4 hm hm2
  refine ⟨d, _, ?_, ⟨cells', a2, n + 1, m1, rfl, r1, by omega, by omega, g3, g4, g1⟩, r2, r3⟩
  rw [seq_next (draw_1 _ _ _ _ _ _ _ _ _), seq_next (by rw [evS_while]; exact q), r]
  rfl
end K02

namespace K02
open PL
open PySem (Str)
variable {rest : Hs}
theorem i1 : isAny "int" ["int"] = true := by decide
theorem i2 : isAny "int" ["bool"] = false := by decide
theorem i3 : isAny "list" ["list", "tuple"] = true := by decide
theorem i4 : isAny "tuple" ["list", "tuple"] = true := by decide
theorem i5 : isAny "str" ["str"] = true := by decide
theorem i6 : isAny "list" ["list"] = true := by decide
theorem i7 : isAny "tuple" ["list"] = false := by decide
theorem i8 : isAny "tuple" ["tuple"] = true := by decide
theorem i9 : isAny "list" ["tuple"] = false := by decide
theorem eqb (a b : Bool) : opEq (.bl a) (.bl b) = some (a == b) := by simp [opEq, okD, dep, eqv]
theorem s_is_list (k : Nat) (x : PV) (h : Hs) (n : String) (hn : typeName x = some n) : callN G (k + 1) 0 [x] h = .ret (.bl (isAny n ["list", "tuple"])) false h := by
  rw [c_is_list, b_is_list]
  cases x <;> simp [typeName] at hn <;> subst hn <;> simp only [evS, evA, evM, evT, evL, evR, evO, evI, Out.bind, Out.noex, lift, rd, v_non, v_bl, v_int, v_str, v_lst, v_tup, v_dic, esc, finish, mk, permute, bindT, bindTs, i_lst, i_tup, lo_lst, List.append_nil, Option.bind_some, Option.bind_none, Option.map_some, Option.map_none, Option.bind_eq_bind, List.getElem?_cons_zero, List.getElem?_cons_succ, List.getElem?_nil, List.set_cons_zero, List.set_cons_succ, List.length_cons, List.length_nil, List.mapM_cons, List.mapM_nil, Option.pure_def, Option.getD_some, and_self, Bool.not_true, Bool.not_false, if_true, if_false, Bool.false_eq_true, Bool.true_eq_false, reduceIte, Nat.reduceAdd, Nat.reduceLT, Nat.reduceSub, typeName]
def sq (s : Bool) (xs : List PV) : PV := if s then .lst xs else .tup xs
theorem sq_ty (s : Bool) (xs : List PV) : typeName (sq s xs) = some (if s then "list" else "tuple") := by cases s <;> rfl
theorem s_is_list_sq (k : Nat) (s : Bool) (xs : List PV) (h : Hs) : callN G (k + 1) 0 [sq s xs] h = .ret (.bl true) false h := by
  rw [s_is_list k _ h _ (sq_ty s xs)]; cases s <;> simp [i3, i4]
theorem s_is_whole_int (k : Nat) (x : Int) (h : Hs) : callN G (k + 1) 1 [.int x] h = .ret (.bl true) false h := by
  rw [c_is_whole, b_is_whole]
  simp only [evS, evA, evM, evT, evL, evR, evO, evI, Out.bind, Out.noex, lift, rd, v_non, v_bl, v_int, v_str, v_lst, v_tup, v_dic, esc, finish, mk, permute, bindT, bindTs, i_lst, i_tup, lo_lst, List.append_nil, Option.bind_some, Option.bind_none, Option.map_some, Option.map_none, Option.bind_eq_bind, List.getElem?_cons_zero, List.getElem?_cons_succ, List.getElem?_nil, List.set_cons_zero, List.set_cons_succ, List.length_cons, List.length_nil, List.mapM_cons, List.mapM_nil, Option.pure_def, Option.getD_some, and_self, Bool.not_true, Bool.not_false, if_true, if_false, Bool.false_eq_true, Bool.true_eq_false, reduceIte, Nat.reduceAdd, Nat.reduceLT, Nat.reduceSub, typeName, i1, truthy, i2, Bool.not_false]
theorem len_sq (s : Bool) (xs : List PV) : opB .len [sq s xs] = some (.int xs.length, false) := by cases s <;> rfl
theorem view_sq (h : Hs) (s : Bool) (xs : List PV) : view h (sq s xs) = sq s xs := by cases s <;> rfl
theorem items_sq (h : Hs) (s : Bool) (xs : List PV) : seqOf h (sq s xs) = some (xs, []) := by cases s <;> rfl
theorem idx_sq (s : Bool) (xs : List PV) (i : Int) : opIdx (sq s xs) (.int i) = (PL.ixN xs.length i).bind fun j => xs[j]? := by cases s <;> rfl
theorem tup_sq (s : Bool) (xs : List PV) : opB .tuple [sq s xs] = some (.tup xs, false) := by cases s <;> rfl
theorem lst_sq (s : Bool) (xs : List PV) : opB .list [sq s xs] = some (.lst xs, true) := by cases s <;> rfl
theorem s_is_row (k : Nat) (s : Bool) (xs : List PV) (m : Int) (h : Hs) : callN G (k + 2) 4 [sq s xs, .int m] h = .ret (.bl ((xs.length : Int) == m)) false h := by
  rw [c_is_row, b_is_row]
  simp only [evS, evA, evM, evT, evL, evR, evO, evI, Out.bind, Out.noex, lift, rd, v_non, v_bl, v_int, v_str, v_lst, v_tup, v_dic, esc, finish, mk, permute, bindT, bindTs, i_lst, i_tup, lo_lst, List.append_nil, Option.bind_some, Option.bind_none, Option.map_some, Option.map_none, Option.bind_eq_bind, List.getElem?_cons_zero, List.getElem?_cons_succ, List.getElem?_nil, List.set_cons_zero, List.set_cons_succ, List.length_cons, List.length_nil, List.mapM_cons, List.mapM_nil, Option.pure_def, Option.getD_some, and_self, Bool.not_true, Bool.not_false, if_true, if_false, Bool.false_eq_true, Bool.true_eq_false, reduceIte, Nat.reduceAdd, Nat.reduceLT, Nat.reduceSub, s_is_list_sq, truthy, view_sq, len_sq, opCmp, eqi]
theorem s_check_many (k : Nat) (m : Int) (hm : 1 ≤ m) (h : Hs) : callN G (k + 2) 5 [.int m] h = .ret .non false h := by
  rw [c_check_many, b_check_many]
  simp only [evS, evA, evM, evT, evL, evR, evO, evI, Out.bind, Out.noex, lift, rd, v_non, v_bl, v_int, v_str, v_lst, v_tup, v_dic, esc, finish, mk, permute, bindT, bindTs, i_lst, i_tup, lo_lst, List.append_nil, Option.bind_some, Option.bind_none, Option.map_some, Option.map_none, Option.bind_eq_bind, List.getElem?_cons_zero, List.getElem?_cons_succ, List.getElem?_nil, List.set_cons_zero, List.set_cons_succ, List.length_cons, List.length_nil, List.mapM_cons, List.mapM_nil, Option.pure_def, Option.getD_some, and_self, Bool.not_true, Bool.not_false, if_true, if_false, Bool.false_eq_true, Bool.true_eq_false, reduceIte, Nat.reduceAdd, Nat.reduceLT, Nat.reduceSub, s_is_whole_int, truthy, opCmp, Bool.not_true, show ¬ m < 1 by omega, decide_false]
theorem allBools_map {α : Type} (l : List α) (f : α → Bool) : allBools (l.map fun x => .bl (f x)) = some (l.map f) := by
  induction l with
  | nil => rfl
  | cons a l ih => simp [allBools, ih]
theorem allInts_map {α : Type} (l : List α) (f : α → Int) : allInts (l.map fun x => .int (f x)) = some (l.map f) := by
  induction l with
  | nil => rfl
  | cons a l ih => simp [allInts, ih]
theorem all_map {α : Type} (l : List α) (f : α → Bool) : opB .all [.lst (l.map fun x => .bl (f x))] = some (.bl (l.all f), false) := by
  simp [opB, allBools_map, List.all_map, Function.comp_def]
theorem s_kept_numbers (k : Nat) (s : Bool) (xs : List Int) (m : Int) (h : Hs) (hm : (xs.length : Int) = m) (hl : xs.length ≤ line) : callN G (k + 3) 6 [.int m, sq s (xs.map .int)] h = .ret (.tup (xs.map .int)) false h := by
  have lc := lc_map (gd := []) (C := callN G (k + 2)) (own := [2, 3]) (tg := .nm 3) (it := .iseq (.var 1)) (body := .one (.call 1 [] (.cons (.var 3) .nil))) (e := [.val (.int m), .val (sq s (xs.map .int)), .no, .no]) (e1 := [.val (.int m), .val (sq s (xs.map .int)), .no, .no]) (h := h) (h1 := h) (xs := xs.map .int)
    (by simp only [evS, evA, evM, evT, evL, evR, evO, evI, Out.bind, Out.noex, lift, rd, v_non, v_bl, v_int, v_str, v_lst, v_tup, v_dic, esc, finish, mk, permute, bindT, bindTs, i_lst, i_tup, lo_lst, List.append_nil, Option.bind_some, Option.bind_none, Option.map_some, Option.map_none, Option.bind_eq_bind, List.getElem?_cons_zero, List.getElem?_cons_succ, List.getElem?_nil, List.set_cons_zero, List.set_cons_succ, List.length_cons, List.length_nil, List.mapM_cons, List.mapM_nil, Option.pure_def, Option.getD_some, and_self, Bool.not_true, Bool.not_false, if_true, if_false, Bool.false_eq_true, Bool.true_eq_false, reduceIte, Nat.reduceAdd, Nat.reduceLT, Nat.reduceSub, items_sq]) rfl (fun _ => .bl true) [.val (.int m), .val (sq s (xs.map .int)), .no, .no] rfl (by simpa using hl) (fun x hx => by
      obtain ⟨y, _, rfl⟩ := List.mem_map.mp hx
      refine ⟨[.val (.int m), .val (sq s (xs.map .int)), .no, .val (.int y)], ?_, rfl⟩
      rw [lcStep_nil (e' := [.val (.int m), .val (sq s (xs.map .int)), .no, .val (.int y)]) rfl]
      simp only [evS, evA, evM, evT, evL, evR, evO, evI, Out.bind, Out.noex, lift, rd, v_non, v_bl, v_int, v_str, v_lst, v_tup, v_dic, esc, finish, mk, permute, bindT, bindTs, i_lst, i_tup, lo_lst, List.append_nil, Option.bind_some, Option.bind_none, Option.map_some, Option.map_none, Option.bind_eq_bind, List.getElem?_cons_zero, List.getElem?_cons_succ, List.getElem?_nil, List.set_cons_zero, List.set_cons_succ, List.length_cons, List.length_nil, List.mapM_cons, List.mapM_nil, Option.pure_def, Option.getD_some, and_self, Bool.not_true, Bool.not_false, if_true, if_false, Bool.false_eq_true, Bool.true_eq_false, reduceIte, Nat.reduceAdd, Nat.reduceLT, Nat.reduceSub, s_is_whole_int])
  have hz : opB .all [.lst ((xs.map PV.int).map fun _ => PV.bl true)] = some (.bl true, false) := by
    rw [List.map_map]
    have := all_map xs fun _ => true
    simp only [Function.comp_def] at this ⊢
    rw [this]; simp
  rw [c_kept_numbers, b_kept_numbers]
  simp only [backE, frzAt, frzS, List.getD_cons_zero, List.getD_cons_succ, List.set_cons_zero, List.set_cons_succ] at lc
  simp only [evS, evA, evM, evT, evL, evR, evO, evI, Out.bind, Out.noex, lift, rd, v_non, v_bl, v_int, v_str, v_lst, v_tup, v_dic, esc, finish, mk, permute, bindT, bindTs, i_lst, i_tup, lo_lst, List.append_nil, Option.bind_some, Option.bind_none, Option.map_some, Option.map_none, Option.bind_eq_bind, List.getElem?_cons_zero, List.getElem?_cons_succ, List.getElem?_nil, List.set_cons_zero, List.set_cons_succ, List.length_cons, List.length_nil, List.mapM_cons, List.mapM_nil, Option.pure_def, Option.getD_some, and_self, Bool.not_true, Bool.not_false, if_true, if_false, Bool.false_eq_true, Bool.true_eq_false, reduceIte, Nat.reduceAdd, Nat.reduceLT, Nat.reduceSub, s_is_row, truthy, view_sq, items_sq, List.length_map, hm, beq_self_eq_true, Bool.not_true, lc, hz, tup_sq]
end K02

namespace K02
open PL
open PySem (Str)
variable {rest : Hs}
structure Rw where
  ns : List Int
  eq : Bool
  b : Int
def wd (e : Bool) : Str := if e then "=" else ">="
def pvR (s t : Bool) (r : Rw) : PV := sq s [sq t (r.ns.map .int), .str (wd r.eq), .int r.b]
theorem str_ne : ((">=" : Str) == "=") = false := by decide +kernel
theorem str_ok1 : okD (.str "=") = true := by decide +kernel
theorem str_ok2 : okD (.str ">=") = true := by decide +kernel
theorem wd_ok (e : Bool) : okD (.str (wd e)) = true := by cases e <;> decide +kernel
theorem wd_eq (e : Bool) : opEq (.str (wd e)) (.str "=") = some e := by
  cases e <;> decide +kernel
theorem wd_ge (e : Bool) : opEq (.str (wd e)) (.str ">=") = some (!e) := by
  cases e <;> decide +kernel
theorem wd_in (e : Bool) : opIn (.str (wd e)) [.str "=", .str ">="] = some true := by
  cases e <;> decide +kernel
theorem r3_0 (x y z : PV) : ((PL.ixN [x, y, z].length 0).bind fun j => [x, y, z][j]?) = some x := rfl
theorem r3_1 (x y z : PV) : ((PL.ixN [x, y, z].length 1).bind fun j => [x, y, z][j]?) = some y := rfl
theorem r3_2 (x y z : PV) : ((PL.ixN [x, y, z].length 2).bind fun j => [x, y, z][j]?) = some z := rfl
theorem p0 (s t : Bool) (r : Rw) : opIdx (pvR s t r) (.int 0) = some (sq t (r.ns.map .int)) := by cases s <;> rfl
theorem p1 (s t : Bool) (r : Rw) : opIdx (pvR s t r) (.int 1) = some (.str (wd r.eq)) := by cases s <;> rfl
theorem p2 (s t : Bool) (r : Rw) : opIdx (pvR s t r) (.int 2) = some (.int r.b) := by cases s <;> rfl
theorem view_R (h : Hs) (s t : Bool) (r : Rw) : view h (pvR s t r) = pvR s t r := by cases s <;> rfl
theorem row_R (k : Nat) (s t : Bool) (r : Rw) (h : Hs) : callN G (k + 2) 4 [pvR s t r, .int 3] h = .ret (.bl true) false h := s_is_row k s _ 3 h
theorem s_kept_line (k : Nat) (s t : Bool) (r : Rw) (m : Int) (h : Hs) (hm : (r.ns.length : Int) = m) (hl : r.ns.length ≤ line) : callN G (k + 4) 7 [.int m, pvR s t r] h = .ret (pvR false false r) false h := by
  rw [c_kept_line, b_kept_line]
  simp only [evS, evA, evM, evT, evL, evR, evO, evI, Out.bind, Out.noex, lift, rd, v_non, v_bl, v_int, v_str, v_lst, v_tup, v_dic, esc, finish, mk, permute, bindT, bindTs, i_lst, i_tup, lo_lst, List.append_nil, Option.bind_some, Option.bind_none, Option.map_some, Option.map_none, Option.bind_eq_bind, List.getElem?_cons_zero, List.getElem?_cons_succ, List.getElem?_nil, List.set_cons_zero, List.set_cons_succ, List.length_cons, List.length_nil, List.mapM_cons, List.mapM_nil, Option.pure_def, Option.getD_some, and_self, Bool.not_true, Bool.not_false, if_true, if_false, Bool.false_eq_true, Bool.true_eq_false, reduceIte, Nat.reduceAdd, Nat.reduceLT, Nat.reduceSub, row_R (k + 1), truthy, view_R, view_sq, p0, p1, p2, s_is_whole_int (k + 2), typeName, i5, Bool.not_true, s_kept_numbers k _ _ _ _ hm hl, opCmp, wd_in, Option.map]
  rfl
theorem okDs_int (l : List Int) : okDs (l.map .int) = true ∧ deps (l.map .int) = 0 := eqs_int l
theorem okD_R (r : Rw) : okD (pvR false false r) = true := by
  show okDs [sq false (r.ns.map .int), .str (wd r.eq), .int r.b] = true
  simp [okDs, sq, okD, okDs_int]
  have := wd_ok r.eq
  simpa [okD] using this
theorem okDs_R : ∀ l : List Rw, okDs (l.map (pvR false false)) = true
  | [] => rfl
  | r :: l => by simp [okDs, okD_R, okDs_R l]
end K02

namespace K02
open PL
open PySem (Str)
variable {rest : Hs}
def val (ns ps : List Int) : Int := ((ns.zip ps).map fun z => z.1 * z.2).sum
def Sml (l : List Int) : Prop := ∀ x ∈ l, x.natAbs < 2 ^ 200
def rh (p : List Int) (r : Rw) : Bool := if r.eq then val r.ns p == r.b else decide (r.b ≤ val r.ns p)
theorem zip_int (ns ps : List Int) : zipItems (ns.map .int) (ps.map .int) = (ns.zip ps).map fun z => PV.tup [.int z.1, .int z.2] := by
  unfold zipItems
  rw [List.zip_map, List.map_map]
  rfl
theorem zip_len (ns ps : List Int) (hl : ns.length ≤ line) : ((ns.zip ps).map fun z => PV.tup [.int z.1, .int z.2]).length ≤ line := by
  simp; omega
def mulG : PV → PV := fun p => match p with | .tup [.int a, .int b] => .int (a * b) | _ => .non
theorem mulG_map (ns ps : List Int) : ((ns.zip ps).map fun z => PV.tup [.int z.1, .int z.2]).map mulG = (ns.zip ps).map fun z => PV.int (z.1 * z.2) := by
  rw [List.map_map]; rfl
theorem sum_ints (l : List (Int × Int)) : opB .sum [.lst (l.map fun z => PV.int (z.1 * z.2))] = some (.int ((l.map fun z => z.1 * z.2).sum), false) := by
  simp [opB, allInts_map]
theorem sml_zip {ns ps : List Int} (h1 : Sml ns) (h2 : Sml ps) : ∀ z ∈ ns.zip ps, z.1.natAbs < 2 ^ 200 ∧ z.2.natAbs < 2 ^ 200 := fun z hz => ⟨h1 _ (List.of_mem_zip (a := z.1) (b := z.2) hz).1, h2 _ (List.of_mem_zip (a := z.1) (b := z.2) hz).2⟩
theorem s_law_value (k : Nat) (ns ps : List Int) (h : Hs) (hl : ns.length ≤ line) (h1 : Sml ns) (h2 : Sml ps) : callN G (k + 1) 28 [.lst (ns.map .int), .lst (ps.map .int)] h = .ret (.int (val ns ps)) false h := by
  let E0 : Env := [.val (.lst (ns.map .int)), .val (.lst (ps.map .int)), .no, .no, .no]
  have lc := lc_map (gd := []) (C := callN G k) (own := [2, 3, 4]) (tg := .tp (.cons (.nm 3) (.cons (.nm 4) .nil))) (it := .izip (.var 0) (.var 1)) (body := .one (.bcall .int (.cons (.bin .mul (.var 3) (.var 4)) .nil))) (e := E0) (e1 := E0) (h := h) (h1 := h) (xs := (ns.zip ps).map fun z => PV.tup [.int z.1, .int z.2])
    (by simp only [evS, evA, evM, evT, evL, evR, evO, evI, Out.bind, Out.noex, lift, rd, v_non, v_bl, v_int, v_str, v_lst, v_tup, v_dic, esc, finish, mk, permute, bindT, bindTs, i_lst, i_tup, lo_lst, List.append_nil, Option.bind_some, Option.bind_none, Option.map_some, Option.map_none, Option.bind_eq_bind, List.getElem?_cons_zero, List.getElem?_cons_succ, List.getElem?_nil, List.set_cons_zero, List.set_cons_succ, List.length_cons, List.length_nil, List.mapM_cons, List.mapM_nil, Option.pure_def, Option.getD_some, and_self, Bool.not_true, Bool.not_false, if_true, if_false, Bool.false_eq_true, Bool.true_eq_false, reduceIte, Nat.reduceAdd, Nat.reduceLT, Nat.reduceSub, E0, zip_int]) rfl mulG E0 rfl (zip_len ns ps hl) (fun p hp => by
      obtain ⟨z, hz, rfl⟩ := List.mem_map.mp hp
      have hs := sml_zip h1 h2 z hz
      refine ⟨[.val (.lst (ns.map .int)), .val (.lst (ps.map .int)), .no, .val (.int z.1), .val (.int z.2)], ?_, rfl⟩
      rw [lcStep_nil (e' := [.val (.lst (ns.map .int)), .val (.lst (ps.map .int)), .no, .val (.int z.1), .val (.int z.2)]) rfl]
      simp only [evS, evA, evM, evT, evL, evR, evO, evI, Out.bind, Out.noex, lift, rd, v_non, v_bl, v_int, v_str, v_lst, v_tup, v_dic, esc, finish, mk, permute, bindT, bindTs, i_lst, i_tup, lo_lst, List.append_nil, Option.bind_some, Option.bind_none, Option.map_some, Option.map_none, Option.bind_eq_bind, List.getElem?_cons_zero, List.getElem?_cons_succ, List.getElem?_nil, List.set_cons_zero, List.set_cons_succ, List.length_cons, List.length_nil, List.mapM_cons, List.mapM_nil, Option.pure_def, Option.getD_some, and_self, Bool.not_true, Bool.not_false, if_true, if_false, Bool.false_eq_true, Bool.true_eq_false, reduceIte, Nat.reduceAdd, Nat.reduceLT, Nat.reduceSub, bMul (mulOk_of _ _ hs.1 hs.2), mulG, opB])
  rw [mulG_map] at lc
  simp only [backE, frzAt, frzS, E0, List.getD_cons_zero, List.getD_cons_succ, List.set_cons_zero, List.set_cons_succ] at lc
  rw [c__law_value, b__law_value]
  simp only [evS, evA, evM, evT, evL, evR, evO, evI, Out.bind, Out.noex, lift, rd, v_non, v_bl, v_int, v_str, v_lst, v_tup, v_dic, esc, finish, mk, permute, bindT, bindTs, i_lst, i_tup, lo_lst, List.append_nil, Option.bind_some, Option.bind_none, Option.map_some, Option.map_none, Option.bind_eq_bind, List.getElem?_cons_zero, List.getElem?_cons_succ, List.getElem?_nil, List.set_cons_zero, List.set_cons_succ, List.length_cons, List.length_nil, List.mapM_cons, List.mapM_nil, Option.pure_def, Option.getD_some, and_self, Bool.not_true, Bool.not_false, if_true, if_false, Bool.false_eq_true, Bool.true_eq_false, reduceIte, Nat.reduceAdd, Nat.reduceLT, Nat.reduceSub, lc, sum_ints, val]
theorem s_law_row_holds (k : Nat) (r : Rw) (ps : List Int) (h : Hs) (hl : r.ns.length ≤ line) (h1 : Sml r.ns) (h2 : Sml ps) : callN G (k + 2) 29 [pvR false true r, .lst (ps.map .int)] h = .ret (.bl (rh ps r)) false h := by
  rw [c__law_row_holds, b__law_row_holds]
  have q0 : opIdx (pvR false true r) (.int 0) = some (.lst (r.ns.map .int)) := rfl
  simp only [evS, evA, evM, evT, evL, evR, evO, evI, Out.bind, Out.noex, lift, rd, v_non, v_bl, v_int, v_str, v_lst, v_tup, v_dic, esc, finish, mk, permute, bindT, bindTs, i_lst, i_tup, lo_lst, List.append_nil, Option.bind_some, Option.bind_none, Option.map_some, Option.map_none, Option.bind_eq_bind, List.getElem?_cons_zero, List.getElem?_cons_succ, List.getElem?_nil, List.set_cons_zero, List.set_cons_succ, List.length_cons, List.length_nil, List.mapM_cons, List.mapM_nil, Option.pure_def, Option.getD_some, and_self, Bool.not_true, Bool.not_false, if_true, if_false, Bool.false_eq_true, Bool.true_eq_false, reduceIte, Nat.reduceAdd, Nat.reduceLT, Nat.reduceSub, view_R, q0, p1, p2, s_law_value k _ _ _ hl h1 h2, opCmp, wd_eq, truthy, eqi]
  cases hq : r.eq <;> simp [rh, hq]
theorem line100 : 100 ≤ line := by decide
end K02

namespace K02
open PL
open PySem (Str)
variable {rest : Hs}
def Dat : Nat → PV → Prop
  | _, .int _ => True
  | _, .bl _ => True
  | _, .non => True
  | _, .str s => okD (.str s) = true
  | d + 1, .lst xs => xs.length ≤ line ∧ ∀ x ∈ xs, Dat d x
  | d + 1, .tup xs => xs.length ≤ line ∧ ∀ x ∈ xs, Dat d x
  | _, _ => False
theorem y1 : isAny "int" ["list", "tuple"] = false := by decide
theorem y2 : isAny "bool" ["list", "tuple"] = false := by decide
theorem y3 : isAny "NoneType" ["list", "tuple"] = false := by decide
theorem y4 : isAny "str" ["list", "tuple"] = false := by decide
theorem y5 : isAny "int" ["dict"] = false := by decide
theorem y6 : isAny "bool" ["dict"] = false := by decide
theorem y7 : isAny "NoneType" ["dict"] = false := by decide
theorem y8 : isAny "str" ["dict"] = false := by decide
theorem y9 : isAny "bool" ["bool"] = true := by decide
theorem y10 : isAny "NoneType" ["bool"] = false := by decide
theorem y11 : isAny "str" ["bool"] = false := by decide
theorem y12 : isAny "str" ["int"] = false := by decide
theorem y13 : isAny "int" ["str"] = false := by decide
theorem y14 : isAny "int" ["list", "tuple", "dict"] = false := by decide
theorem y15 : isAny "str" ["list", "tuple", "dict"] = false := by decide
theorem y16 : isAny "list" ["dict"] = false := by decide
theorem y17 : isAny "tuple" ["dict"] = false := by decide
theorem y18 : isAny "int" ["tuple"] = false := by decide
theorem y19 : isAny "bool" ["tuple"] = false := by decide
theorem y20 : isAny "NoneType" ["tuple"] = false := by decide
theorem y21 : isAny "str" ["tuple"] = false := by decide
theorem eqs_self (s : Str) (h : okD (.str s) = true) : opEq (.str s) (.str s) = some true := by
  unfold opEq; rw [if_pos ⟨h, h, by simp [dep]⟩]; simp [eqv]
theorem zip_self (xs : List PV) : zipItems xs xs = xs.map fun x => .tup [x, x] := by
  unfold zipItems
  induction xs with
  | nil => rfl
  | cons x xs ih => simp at ih ⊢; exact ih
theorem all_true (n : Nat) : opB .all [.lst (List.replicate n (.bl true))] = some (.bl true, false) := by
  have := all_map (List.replicate n ()) fun _ => true
  simpa using this
theorem nne (b : Bool) : (Option.map (fun x => !x) (some (b == b))) = some false := by simp
theorem s_same : ∀ (d : Nat) (x : PV) (k : Nat) (h : Hs), Dat d x → callN G (k + d + 1) 23 [x, x] h = .ret (.bl true) false h := by
  intro d
  induction d with
  | zero =>
    intro x k h hd
    rw [c__law_same, b__law_same]
    cases x with
    | int i => simp only [evS, evA, evM, evT, evL, evR, evO, evI, Out.bind, Out.noex, lift, rd, v_non, v_bl, v_int, v_str, v_lst, v_tup, v_dic, esc, finish, mk, permute, i_lst, i_tup, lo_lst, List.append_nil, Option.bind_some, Option.bind_none, Option.map_some, Option.map_none, Option.bind_eq_bind, List.getElem?_cons_zero, List.getElem?_cons_succ, List.getElem?_nil, List.set_cons_zero, List.set_cons_succ, List.length_cons, List.length_nil, List.mapM_cons, List.mapM_nil, Option.pure_def, Option.getD_some, and_self, Bool.not_true, Bool.not_false, if_true, if_false, Bool.false_eq_true, Bool.true_eq_false, reduceIte, Nat.reduceAdd, Nat.reduceLT, Nat.reduceSub, typeName, y1, y5, i2, i1, y13, y14, truthy, opCmp, eqb, eqi, nne, beq_self_eq_true]
    | bl b => simp only [evS, evA, evM, evT, evL, evR, evO, evI, Out.bind, Out.noex, lift, rd, v_non, v_bl, v_int, v_str, v_lst, v_tup, v_dic, esc, finish, mk, permute, i_lst, i_tup, lo_lst, List.append_nil, Option.bind_some, Option.bind_none, Option.map_some, Option.map_none, Option.bind_eq_bind, List.getElem?_cons_zero, List.getElem?_cons_succ, List.getElem?_nil, List.set_cons_zero, List.set_cons_succ, List.length_cons, List.length_nil, List.mapM_cons, List.mapM_nil, Option.pure_def, Option.getD_some, and_self, Bool.not_true, Bool.not_false, if_true, if_false, Bool.false_eq_true, Bool.true_eq_false, reduceIte, Nat.reduceAdd, Nat.reduceLT, Nat.reduceSub, typeName, y2, y6, y9, truthy, opCmp, eqb, beq_self_eq_true]
    | non => simp only [evS, evA, evM, evT, evL, evR, evO, evI, Out.bind, Out.noex, lift, rd, v_non, v_bl, v_int, v_str, v_lst, v_tup, v_dic, esc, finish, mk, permute, i_lst, i_tup, lo_lst, List.append_nil, Option.bind_some, Option.bind_none, Option.map_some, Option.map_none, Option.bind_eq_bind, List.getElem?_cons_zero, List.getElem?_cons_succ, List.getElem?_nil, List.set_cons_zero, List.set_cons_succ, List.length_cons, List.length_nil, List.mapM_cons, List.mapM_nil, Option.pure_def, Option.getD_some, and_self, Bool.not_true, Bool.not_false, if_true, if_false, Bool.false_eq_true, Bool.true_eq_false, reduceIte, Nat.reduceAdd, Nat.reduceLT, Nat.reduceSub, typeName, y3, y7, y10, truthy, opCmp]
    | str s => simp only [evS, evA, evM, evT, evL, evR, evO, evI, Out.bind, Out.noex, lift, rd, v_non, v_bl, v_int, v_str, v_lst, v_tup, v_dic, esc, finish, mk, permute, i_lst, i_tup, lo_lst, List.append_nil, Option.bind_some, Option.bind_none, Option.map_some, Option.map_none, Option.bind_eq_bind, List.getElem?_cons_zero, List.getElem?_cons_succ, List.getElem?_nil, List.set_cons_zero, List.set_cons_succ, List.length_cons, List.length_nil, List.mapM_cons, List.mapM_nil, Option.pure_def, Option.getD_some, and_self, Bool.not_true, Bool.not_false, if_true, if_false, Bool.false_eq_true, Bool.true_eq_false, reduceIte, Nat.reduceAdd, Nat.reduceLT, Nat.reduceSub, typeName, y4, y8, y11, y12, i5, y15, truthy, opCmp, eqb, nne, eqs_self s hd, beq_self_eq_true]
    | _ => exact hd.elim
  | succ d ih =>
    intro x k h hd
    have com : ∀ (xs : List PV) (s : Bool), xs.length ≤ line → (∀ y ∈ xs, Dat d y) → evA (callN G (k + d + 1)) (.lc [2, 3, 4] (.tp (.cons (.nm 3) (.cons (.nm 4) .nil))) (.izip (.var 0) (.var 1)) .nil (.one (.call 23 [] (.cons (.var 3) (.cons (.var 4) .nil))))) [.val (sq s xs), .val (sq s xs), .no, .no, .no] h
        = .ok (.v (.lst (List.replicate xs.length (.bl true))) true) [.val (sq s xs), .val (sq s xs), .no, .no, .no] h := fun xs s hl hx => by
      have lc := lc_map (gd := []) (C := callN G (k + d + 1)) (own := [2, 3, 4]) (tg := .tp (.cons (.nm 3) (.cons (.nm 4) .nil))) (it := .izip (.var 0) (.var 1)) (body := .one (.call 23 [] (.cons (.var 3) (.cons (.var 4) .nil)))) (e := [.val (sq s xs), .val (sq s xs), .no, .no, .no]) (e1 := [.val (sq s xs), .val (sq s xs), .no, .no, .no]) (h := h) (h1 := h) (xs := xs.map fun x => .tup [x, x])
        (by cases s <;> simp only [evS, evA, evM, evT, evL, evR, evO, evI, Out.bind, Out.noex, lift, rd, v_non, v_bl, v_int, v_str, v_lst, v_tup, v_dic, esc, finish, mk, permute, bindT, bindTs, i_lst, i_tup, lo_lst, List.append_nil, Option.bind_some, Option.bind_none, Option.map_some, Option.map_none, Option.bind_eq_bind, List.getElem?_cons_zero, List.getElem?_cons_succ, List.getElem?_nil, List.set_cons_zero, List.set_cons_succ, List.length_cons, List.length_nil, List.mapM_cons, List.mapM_nil, Option.pure_def, Option.getD_some, and_self, Bool.not_true, Bool.not_false, if_true, if_false, Bool.false_eq_true, Bool.true_eq_false, reduceIte, Nat.reduceAdd, Nat.reduceLT, Nat.reduceSub, sq, zip_self]) rfl (fun _ => .bl true) [.val (sq s xs), .val (sq s xs), .no, .no, .no] rfl (by simpa using hl) (fun p hp => by
          obtain ⟨y, hy, rfl⟩ := List.mem_map.mp hp
          refine ⟨[.val (sq s xs), .val (sq s xs), .no, .val y, .val y], ?_, rfl⟩
          rw [lcStep_nil (e' := [.val (sq s xs), .val (sq s xs), .no, .val y, .val y]) rfl]
          simp only [evS, evA, evM, evT, evL, evR, evO, evI, Out.bind, Out.noex, lift, rd, v_non, v_bl, v_int, v_str, v_lst, v_tup, v_dic, esc, finish, mk, permute, bindT, bindTs, i_lst, i_tup, lo_lst, List.append_nil, Option.bind_some, Option.bind_none, Option.map_some, Option.map_none, Option.bind_eq_bind, List.getElem?_cons_zero, List.getElem?_cons_succ, List.getElem?_nil, List.set_cons_zero, List.set_cons_succ, List.length_cons, List.length_nil, List.mapM_cons, List.mapM_nil, Option.pure_def, Option.getD_some, and_self, Bool.not_true, Bool.not_false, if_true, if_false, Bool.false_eq_true, Bool.true_eq_false, reduceIte, Nat.reduceAdd, Nat.reduceLT, Nat.reduceSub, ih y k h (hx y hy)])
      rw [lc, List.map_map]
      have hm : xs.map ((fun _ => PV.bl true) ∘ fun x => PV.tup [x, x]) = List.replicate xs.length (.bl true) := by simp only [Function.comp_def]; exact List.map_const' ..
      rw [hm]
      rfl
    show callN G ((k + d + 1) + 1) 23 [x, x] h = _
    rw [c__law_same, b__law_same]
    cases x with
    | int i => simp only [evS, evA, evM, evT, evL, evR, evO, evI, Out.bind, Out.noex, lift, rd, v_non, v_bl, v_int, v_str, v_lst, v_tup, v_dic, esc, finish, mk, permute, i_lst, i_tup, lo_lst, List.append_nil, Option.bind_some, Option.bind_none, Option.map_some, Option.map_none, Option.bind_eq_bind, List.getElem?_cons_zero, List.getElem?_cons_succ, List.getElem?_nil, List.set_cons_zero, List.set_cons_succ, List.length_cons, List.length_nil, List.mapM_cons, List.mapM_nil, Option.pure_def, Option.getD_some, and_self, Bool.not_true, Bool.not_false, if_true, if_false, Bool.false_eq_true, Bool.true_eq_false, reduceIte, Nat.reduceAdd, Nat.reduceLT, Nat.reduceSub, typeName, y1, y5, i2, i1, y13, y14, truthy, opCmp, eqb, eqi, nne, beq_self_eq_true]
    | bl b => simp only [evS, evA, evM, evT, evL, evR, evO, evI, Out.bind, Out.noex, lift, rd, v_non, v_bl, v_int, v_str, v_lst, v_tup, v_dic, esc, finish, mk, permute, i_lst, i_tup, lo_lst, List.append_nil, Option.bind_some, Option.bind_none, Option.map_some, Option.map_none, Option.bind_eq_bind, List.getElem?_cons_zero, List.getElem?_cons_succ, List.getElem?_nil, List.set_cons_zero, List.set_cons_succ, List.length_cons, List.length_nil, List.mapM_cons, List.mapM_nil, Option.pure_def, Option.getD_some, and_self, Bool.not_true, Bool.not_false, if_true, if_false, Bool.false_eq_true, Bool.true_eq_false, reduceIte, Nat.reduceAdd, Nat.reduceLT, Nat.reduceSub, typeName, y2, y6, y9, truthy, opCmp, eqb, beq_self_eq_true]
    | non => simp only [evS, evA, evM, evT, evL, evR, evO, evI, Out.bind, Out.noex, lift, rd, v_non, v_bl, v_int, v_str, v_lst, v_tup, v_dic, esc, finish, mk, permute, i_lst, i_tup, lo_lst, List.append_nil, Option.bind_some, Option.bind_none, Option.map_some, Option.map_none, Option.bind_eq_bind, List.getElem?_cons_zero, List.getElem?_cons_succ, List.getElem?_nil, List.set_cons_zero, List.set_cons_succ, List.length_cons, List.length_nil, List.mapM_cons, List.mapM_nil, Option.pure_def, Option.getD_some, and_self, Bool.not_true, Bool.not_false, if_true, if_false, Bool.false_eq_true, Bool.true_eq_false, reduceIte, Nat.reduceAdd, Nat.reduceLT, Nat.reduceSub, typeName, y3, y7, y10, truthy, opCmp]
    | str s => simp only [evS, evA, evM, evT, evL, evR, evO, evI, Out.bind, Out.noex, lift, rd, v_non, v_bl, v_int, v_str, v_lst, v_tup, v_dic, esc, finish, mk, permute, i_lst, i_tup, lo_lst, List.append_nil, Option.bind_some, Option.bind_none, Option.map_some, Option.map_none, Option.bind_eq_bind, List.getElem?_cons_zero, List.getElem?_cons_succ, List.getElem?_nil, List.set_cons_zero, List.set_cons_succ, List.length_cons, List.length_nil, List.mapM_cons, List.mapM_nil, Option.pure_def, Option.getD_some, and_self, Bool.not_true, Bool.not_false, if_true, if_false, Bool.false_eq_true, Bool.true_eq_false, reduceIte, Nat.reduceAdd, Nat.reduceLT, Nat.reduceSub, typeName, y4, y8, y11, y12, i5, y15, truthy, opCmp, eqb, nne, eqs_self s hd, beq_self_eq_true]
    | lst xs =>
      have lc := com xs true hd.1 hd.2
      simp only [sq, if_true] at lc
      have ol : opB .len [.lst xs] = some (.int xs.length, false) := rfl
      simp only [evS, evA, evM, evT, evL, evR, evO, evI, Out.bind, Out.noex, lift, rd, v_non, v_bl, v_int, v_str, v_lst, v_tup, v_dic, esc, finish, mk, permute, i_lst, i_tup, lo_lst, List.append_nil, Option.bind_some, Option.bind_none, Option.map_some, Option.map_none, Option.bind_eq_bind, List.getElem?_cons_zero, List.getElem?_cons_succ, List.getElem?_nil, List.set_cons_zero, List.set_cons_succ, List.length_cons, List.length_nil, List.mapM_cons, List.mapM_nil, Option.pure_def, Option.getD_some, and_self, Bool.not_true, Bool.not_false, if_true, if_false, Bool.false_eq_true, Bool.true_eq_false, reduceIte, Nat.reduceAdd, Nat.reduceLT, Nat.reduceSub, typeName, i3, i6, i9, truthy, opCmp, eqb, nne, ol, eqi, beq_self_eq_true, lc, all_true]
    | tup xs =>
      have lc := com xs false hd.1 hd.2
      simp only [sq, Bool.false_eq_true, if_false] at lc
      have ol : opB .len [.tup xs] = some (.int xs.length, false) := rfl
      simp only [evS, evA, evM, evT, evL, evR, evO, evI, Out.bind, Out.noex, lift, rd, v_non, v_bl, v_int, v_str, v_lst, v_tup, v_dic, esc, finish, mk, permute, i_lst, i_tup, lo_lst, List.append_nil, Option.bind_some, Option.bind_none, Option.map_some, Option.map_none, Option.bind_eq_bind, List.getElem?_cons_zero, List.getElem?_cons_succ, List.getElem?_nil, List.set_cons_zero, List.set_cons_succ, List.length_cons, List.length_nil, List.mapM_cons, List.mapM_nil, Option.pure_def, Option.getD_some, and_self, Bool.not_true, Bool.not_false, if_true, if_false, Bool.false_eq_true, Bool.true_eq_false, reduceIte, Nat.reduceAdd, Nat.reduceLT, Nat.reduceSub, typeName, i4, i7, i8, truthy, opCmp, eqb, nne, ol, eqi, beq_self_eq_true, lc, all_true]
    | _ => exact hd.elim
def frOf : PV → Bool
  | .lst _ => true
  | _ => false
theorem s_copied : ∀ (d : Nat) (x : PV) (k : Nat) (h : Hs), Dat d x → callN G (k + d + 1) 25 [x] h = .ret x (frOf x) h := by
  intro d
  induction d with
  | zero =>
    intro x k h hd
    rw [c__law_copied, b__law_copied]
    cases x with
    | int i => simp only [evS, evA, evM, evT, evL, evR, evO, evI, Out.bind, Out.noex, lift, rd, v_non, v_bl, v_int, v_str, v_lst, v_tup, v_dic, esc, finish, mk, permute, i_lst, i_tup, lo_lst, List.append_nil, Option.bind_some, Option.bind_none, Option.map_some, Option.map_none, Option.bind_eq_bind, List.getElem?_cons_zero, List.getElem?_cons_succ, List.getElem?_nil, List.set_cons_zero, List.set_cons_succ, List.length_cons, List.length_nil, List.mapM_cons, List.mapM_nil, Option.pure_def, Option.getD_some, and_self, Bool.not_true, Bool.not_false, if_true, if_false, Bool.false_eq_true, Bool.true_eq_false, reduceIte, Nat.reduceAdd, Nat.reduceLT, Nat.reduceSub, typeName, y1, y5, y18, truthy, frOf]
    | bl b => simp only [evS, evA, evM, evT, evL, evR, evO, evI, Out.bind, Out.noex, lift, rd, v_non, v_bl, v_int, v_str, v_lst, v_tup, v_dic, esc, finish, mk, permute, i_lst, i_tup, lo_lst, List.append_nil, Option.bind_some, Option.bind_none, Option.map_some, Option.map_none, Option.bind_eq_bind, List.getElem?_cons_zero, List.getElem?_cons_succ, List.getElem?_nil, List.set_cons_zero, List.set_cons_succ, List.length_cons, List.length_nil, List.mapM_cons, List.mapM_nil, Option.pure_def, Option.getD_some, and_self, Bool.not_true, Bool.not_false, if_true, if_false, Bool.false_eq_true, Bool.true_eq_false, reduceIte, Nat.reduceAdd, Nat.reduceLT, Nat.reduceSub, typeName, y2, y6, y19, truthy, frOf]
    | non => simp only [evS, evA, evM, evT, evL, evR, evO, evI, Out.bind, Out.noex, lift, rd, v_non, v_bl, v_int, v_str, v_lst, v_tup, v_dic, esc, finish, mk, permute, i_lst, i_tup, lo_lst, List.append_nil, Option.bind_some, Option.bind_none, Option.map_some, Option.map_none, Option.bind_eq_bind, List.getElem?_cons_zero, List.getElem?_cons_succ, List.getElem?_nil, List.set_cons_zero, List.set_cons_succ, List.length_cons, List.length_nil, List.mapM_cons, List.mapM_nil, Option.pure_def, Option.getD_some, and_self, Bool.not_true, Bool.not_false, if_true, if_false, Bool.false_eq_true, Bool.true_eq_false, reduceIte, Nat.reduceAdd, Nat.reduceLT, Nat.reduceSub, typeName, y3, y7, y20, truthy, frOf]
    | str s => simp only [evS, evA, evM, evT, evL, evR, evO, evI, Out.bind, Out.noex, lift, rd, v_non, v_bl, v_int, v_str, v_lst, v_tup, v_dic, esc, finish, mk, permute, i_lst, i_tup, lo_lst, List.append_nil, Option.bind_some, Option.bind_none, Option.map_some, Option.map_none, Option.bind_eq_bind, List.getElem?_cons_zero, List.getElem?_cons_succ, List.getElem?_nil, List.set_cons_zero, List.set_cons_succ, List.length_cons, List.length_nil, List.mapM_cons, List.mapM_nil, Option.pure_def, Option.getD_some, and_self, Bool.not_true, Bool.not_false, if_true, if_false, Bool.false_eq_true, Bool.true_eq_false, reduceIte, Nat.reduceAdd, Nat.reduceLT, Nat.reduceSub, typeName, y4, y8, y21, truthy, frOf]
    | _ => exact hd.elim
  | succ d ih =>
    intro x k h hd
    have com : ∀ (xs : List PV) (s : Bool), xs.length ≤ line → (∀ y ∈ xs, Dat d y) → evA (callN G (k + d + 1)) (.lc [2, 4] (.nm 4) (.iseq (.var 0)) .nil (.one (.call 25 [] (.cons (.var 4) .nil)))) [.val (sq s xs), .no, .no, .no, .no] h
        = .ok (.v (.lst xs) true) [.val (sq s xs), .no, .no, .no, .no] h := fun xs s hl hx => by
      have lc := lc_map (gd := []) (C := callN G (k + d + 1)) (own := [2, 4]) (tg := .nm 4) (it := .iseq (.var 0)) (body := .one (.call 25 [] (.cons (.var 4) .nil))) (e := [.val (sq s xs), .no, .no, .no, .no]) (e1 := [.val (sq s xs), .no, .no, .no, .no]) (h := h) (h1 := h) (xs := xs)
        (by simp only [evS, evA, evM, evT, evL, evR, evO, evI, Out.bind, Out.noex, lift, rd, v_non, v_bl, v_int, v_str, v_lst, v_tup, v_dic, esc, finish, mk, permute, bindT, bindTs, i_lst, i_tup, lo_lst, List.append_nil, Option.bind_some, Option.bind_none, Option.map_some, Option.map_none, Option.bind_eq_bind, List.getElem?_cons_zero, List.getElem?_cons_succ, List.getElem?_nil, List.set_cons_zero, List.set_cons_succ, List.length_cons, List.length_nil, List.mapM_cons, List.mapM_nil, Option.pure_def, Option.getD_some, and_self, Bool.not_true, Bool.not_false, if_true, if_false, Bool.false_eq_true, Bool.true_eq_false, reduceIte, Nat.reduceAdd, Nat.reduceLT, Nat.reduceSub, items_sq]) rfl (fun y => y) [.val (sq s xs), .no, .no, .no, .no] rfl hl (fun y hy => by
          refine ⟨[.val (sq s xs), .no, .no, .no, .val y], ?_, rfl⟩
          rw [lcStep_nil (e' := [.val (sq s xs), .no, .no, .no, .val y]) rfl]
          simp only [evS, evA, evM, evT, evL, evR, evO, evI, Out.bind, Out.noex, lift, rd, v_non, v_bl, v_int, v_str, v_lst, v_tup, v_dic, esc, finish, mk, permute, bindT, bindTs, i_lst, i_tup, lo_lst, List.append_nil, Option.bind_some, Option.bind_none, Option.map_some, Option.map_none, Option.bind_eq_bind, List.getElem?_cons_zero, List.getElem?_cons_succ, List.getElem?_nil, List.set_cons_zero, List.set_cons_succ, List.length_cons, List.length_nil, List.mapM_cons, List.mapM_nil, Option.pure_def, Option.getD_some, and_self, Bool.not_true, Bool.not_false, if_true, if_false, Bool.false_eq_true, Bool.true_eq_false, reduceIte, Nat.reduceAdd, Nat.reduceLT, Nat.reduceSub, ih y k h (hx y hy)])
      rw [lc, List.map_id']
      rfl
    show callN G ((k + d + 1) + 1) 25 [x] h = _
    rw [c__law_copied, b__law_copied]
    cases x with
    | int i => simp only [evS, evA, evM, evT, evL, evR, evO, evI, Out.bind, Out.noex, lift, rd, v_non, v_bl, v_int, v_str, v_lst, v_tup, v_dic, esc, finish, mk, permute, i_lst, i_tup, lo_lst, List.append_nil, Option.bind_some, Option.bind_none, Option.map_some, Option.map_none, Option.bind_eq_bind, List.getElem?_cons_zero, List.getElem?_cons_succ, List.getElem?_nil, List.set_cons_zero, List.set_cons_succ, List.length_cons, List.length_nil, List.mapM_cons, List.mapM_nil, Option.pure_def, Option.getD_some, and_self, Bool.not_true, Bool.not_false, if_true, if_false, Bool.false_eq_true, Bool.true_eq_false, reduceIte, Nat.reduceAdd, Nat.reduceLT, Nat.reduceSub, typeName, y1, y5, y18, truthy, frOf]
    | bl b => simp only [evS, evA, evM, evT, evL, evR, evO, evI, Out.bind, Out.noex, lift, rd, v_non, v_bl, v_int, v_str, v_lst, v_tup, v_dic, esc, finish, mk, permute, i_lst, i_tup, lo_lst, List.append_nil, Option.bind_some, Option.bind_none, Option.map_some, Option.map_none, Option.bind_eq_bind, List.getElem?_cons_zero, List.getElem?_cons_succ, List.getElem?_nil, List.set_cons_zero, List.set_cons_succ, List.length_cons, List.length_nil, List.mapM_cons, List.mapM_nil, Option.pure_def, Option.getD_some, and_self, Bool.not_true, Bool.not_false, if_true, if_false, Bool.false_eq_true, Bool.true_eq_false, reduceIte, Nat.reduceAdd, Nat.reduceLT, Nat.reduceSub, typeName, y2, y6, y19, truthy, frOf]
    | non => simp only [evS, evA, evM, evT, evL, evR, evO, evI, Out.bind, Out.noex, lift, rd, v_non, v_bl, v_int, v_str, v_lst, v_tup, v_dic, esc, finish, mk, permute, i_lst, i_tup, lo_lst, List.append_nil, Option.bind_some, Option.bind_none, Option.map_some, Option.map_none, Option.bind_eq_bind, List.getElem?_cons_zero, List.getElem?_cons_succ, List.getElem?_nil, List.set_cons_zero, List.set_cons_succ, List.length_cons, List.length_nil, List.mapM_cons, List.mapM_nil, Option.pure_def, Option.getD_some, and_self, Bool.not_true, Bool.not_false, if_true, if_false, Bool.false_eq_true, Bool.true_eq_false, reduceIte, Nat.reduceAdd, Nat.reduceLT, Nat.reduceSub, typeName, y3, y7, y20, truthy, frOf]
    | str s => simp only [evS, evA, evM, evT, evL, evR, evO, evI, Out.bind, Out.noex, lift, rd, v_non, v_bl, v_int, v_str, v_lst, v_tup, v_dic, esc, finish, mk, permute, i_lst, i_tup, lo_lst, List.append_nil, Option.bind_some, Option.bind_none, Option.map_some, Option.map_none, Option.bind_eq_bind, List.getElem?_cons_zero, List.getElem?_cons_succ, List.getElem?_nil, List.set_cons_zero, List.set_cons_succ, List.length_cons, List.length_nil, List.mapM_cons, List.mapM_nil, Option.pure_def, Option.getD_some, and_self, Bool.not_true, Bool.not_false, if_true, if_false, Bool.false_eq_true, Bool.true_eq_false, reduceIte, Nat.reduceAdd, Nat.reduceLT, Nat.reduceSub, typeName, y4, y8, y21, truthy, frOf]
    | lst xs =>
      have lc := com xs true hd.1 hd.2
      simp only [sq, if_true] at lc
      simp only [evS, evA, evM, evT, evL, evR, evO, evI, Out.bind, Out.noex, lift, rd, v_non, v_bl, v_int, v_str, v_lst, v_tup, v_dic, esc, finish, mk, permute, i_lst, i_tup, lo_lst, List.append_nil, Option.bind_some, Option.bind_none, Option.map_some, Option.map_none, Option.bind_eq_bind, List.getElem?_cons_zero, List.getElem?_cons_succ, List.getElem?_nil, List.set_cons_zero, List.set_cons_succ, List.length_cons, List.length_nil, List.mapM_cons, List.mapM_nil, Option.pure_def, Option.getD_some, and_self, Bool.not_true, Bool.not_false, if_true, if_false, Bool.false_eq_true, Bool.true_eq_false, reduceIte, Nat.reduceAdd, Nat.reduceLT, Nat.reduceSub, typeName, y16, i3, i9, truthy, lc, frOf]
    | tup xs =>
      have lc := com xs false hd.1 hd.2
      simp only [sq, Bool.false_eq_true, if_false] at lc
      have ol : opB .tuple [.lst xs] = some (.tup xs, false) := rfl
      simp only [evS, evA, evM, evT, evL, evR, evO, evI, Out.bind, Out.noex, lift, rd, v_non, v_bl, v_int, v_str, v_lst, v_tup, v_dic, esc, finish, mk, permute, i_lst, i_tup, lo_lst, List.append_nil, Option.bind_some, Option.bind_none, Option.map_some, Option.map_none, Option.bind_eq_bind, List.getElem?_cons_zero, List.getElem?_cons_succ, List.getElem?_nil, List.set_cons_zero, List.set_cons_succ, List.length_cons, List.length_nil, List.mapM_cons, List.mapM_nil, Option.pure_def, Option.getD_some, and_self, Bool.not_true, Bool.not_false, if_true, if_false, Bool.false_eq_true, Bool.true_eq_false, reduceIte, Nat.reduceAdd, Nat.reduceLT, Nat.reduceSub, typeName, y17, i4, i8, truthy, lc, frOf, ol]
    | _ => exact hd.elim
theorem Dat.mono : ∀ (d : Nat) (x : PV), Dat d x → Dat (d + 1) x := by
  intro d
  induction d with
  | zero => intro x h; cases x <;> first | trivial | exact h | exact h.elim
  | succ d ih =>
    intro x h
    cases x with
    | lst xs => exact ⟨h.1, fun y hy => ih y (h.2 y hy)⟩
    | tup xs => exact ⟨h.1, fun y hy => ih y (h.2 y hy)⟩
    | _ => first | trivial | exact h | exact h.elim
theorem dat_ints (t : Bool) (l : List Int) (h : l.length ≤ line) : Dat 1 (sq t (l.map .int)) := by
  have : l.length ≤ line ∧ ∀ x ∈ l.map PV.int, Dat 0 x := ⟨h, fun x hx => by obtain ⟨y, _, rfl⟩ := List.mem_map.mp hx; trivial⟩
  cases t <;> exact ⟨by simpa using this.1, this.2⟩
theorem dat_R (s t : Bool) (r : Rw) (h : r.ns.length ≤ line) : Dat 2 (pvR s t r) := by
  have : ∀ x ∈ [sq t (r.ns.map .int), .str (wd r.eq), .int r.b], Dat 1 x := by
    intro x hx
    simp only [List.mem_cons, List.not_mem_nil, or_false] at hx
    rcases hx with rfl | rfl | rfl
    · exact dat_ints t _ h
    · exact wd_ok r.eq
    · trivial
  cases s <;> exact ⟨(by decide : 3 ≤ line), this⟩
end K02

namespace K02
open PL
open PySem (Str)
variable {rest : Hs}
theorem s_stream (k : Nat) (ns : List Int) (hl : ns.length ≤ 63) : ∃ h', callN G (k + 1) 19 [.scr (ns.map .int)] [] = .ret (.ref 1) false h' ∧ SI 0 [] h' := by
  refine ⟨hh [] ns 0 0 17, ?_, ns, 0, 0, 17, rfl, by omega, by omega, by omega, by omega, by omega, hl⟩
  rw [c__law_stream, b__law_stream]
  have e : view [] (.scr (ns.map .int)) = .scr (ns.map .int) := rfl
  have e2 : opB .list [.scr (ns.map .int)] = some (.lst (ns.map .int), true) := rfl
  simp only [evS, evA, evM, evT, evL, evR, evO, evI, Out.bind, Out.noex, lift, rd, v_non, v_bl, v_int, v_str, v_lst, v_tup, v_dic, esc, finish, mk, permute, bindT, bindTs, i_lst, i_tup, lo_lst, List.append_nil, Option.bind_some, Option.bind_none, Option.map_some, Option.map_none, Option.bind_eq_bind, List.getElem?_cons_zero, List.getElem?_cons_succ, List.getElem?_nil, List.set_cons_zero, List.set_cons_succ, List.length_cons, List.length_nil, List.mapM_cons, List.mapM_nil, Option.pure_def, Option.getD_some, and_self, Bool.not_true, Bool.not_false, if_true, if_false, Bool.false_eq_true, Bool.true_eq_false, reduceIte, Nat.reduceAdd, Nat.reduceLT, Nat.reduceSub, e, e2]
  rfl
theorem s_pick (k c : Nat) (h : Hs) (s : SI c rest h) (hc : c < 1000000) (xs : List PV) (h0 : 0 < xs.length) (h1 : xs.length < 1000000) : ∃ x h', callN G (k + 2) 21 [.ref 1, .lst xs] h = .ret x false h' ∧ SI (c + 1) rest h' ∧ x ∈ xs := by
  obtain ⟨d, h', q, s', d0, d1⟩ := s_draw k c h s hc xs.length (by omega) (by omega)
  have hd : d.toNat < xs.length := by omega
  refine ⟨xs[d.toNat], h', ?_, s', List.getElem_mem hd⟩
  rw [c__law_pick, b__law_pick]
  have ol : opB .len [.lst xs] = some (.int xs.length, false) := rfl
  have oi : opIdx (.lst xs) (.int d) = some xs[d.toNat] := by
    simp only [opIdx, PL.ixN]
    rw [if_pos d0, if_pos d1]
    simp [hd]
  simp only [evS, evA, evM, evT, evL, evR, evO, evI, Out.bind, Out.noex, lift, rd, v_non, v_bl, v_int, v_str, v_lst, v_tup, v_dic, esc, finish, mk, permute, i_lst, i_tup, lo_lst, List.append_nil, Option.bind_some, Option.bind_none, Option.map_some, Option.map_none, Option.bind_eq_bind, List.getElem?_cons_zero, List.getElem?_cons_succ, List.getElem?_nil, List.set_cons_zero, List.set_cons_succ, List.length_cons, List.length_nil, List.mapM_cons, List.mapM_nil, Option.pure_def, Option.getD_some, and_self, Bool.not_true, Bool.not_false, if_true, if_false, Bool.false_eq_true, Bool.true_eq_false, reduceIte, Nat.reduceAdd, Nat.reduceLT, Nat.reduceSub, ol, q, oi]
theorem s_integer (k c : Nat) (h : Hs) (s : SI c rest h) (hc : c < 1000000) (most : Int) (h0 : 0 ≤ most) (h1 : most < 1000) : ∃ d h', callN G (k + 2) 27 [.ref 1, .int most] h = .ret (.int d) false h' ∧ SI (c + 1) rest h' ∧ -most ≤ d ∧ d ≤ most := by
  obtain ⟨d, h', q, s', d0, d1⟩ := s_draw k c h s hc (2 * most + 1) (by omega) (by omega)
  refine ⟨d - most, h', ?_, s', by omega, by omega⟩
  rw [c__law_integer, b__law_integer]
  have mu : opBin .mul (.int 2) (.int most) = some (.int (2 * most), false) := bMul (mulOk_of _ _ (by decide) (by omega))
  simp only [evS, evA, evM, evT, evL, evR, evO, evI, Out.bind, Out.noex, lift, rd, v_non, v_bl, v_int, v_str, v_lst, v_tup, v_dic, esc, finish, mk, permute, i_lst, i_tup, lo_lst, List.append_nil, Option.bind_some, Option.bind_none, Option.map_some, Option.map_none, Option.bind_eq_bind, List.getElem?_cons_zero, List.getElem?_cons_succ, List.getElem?_nil, List.set_cons_zero, List.set_cons_succ, List.length_cons, List.length_nil, List.mapM_cons, List.mapM_nil, Option.pure_def, Option.getD_some, and_self, Bool.not_true, Bool.not_false, if_true, if_false, Bool.false_eq_true, Bool.true_eq_false, reduceIte, Nat.reduceAdd, Nat.reduceLT, Nat.reduceSub, mu, bAdd, q, bSub]
theorem rng_get (n i : Nat) (x : PV) (h : (rngItems 0 n)[i]? = some x) : i < n ∧ x = .int i := by
  unfold rngItems at h
  rw [List.getElem?_map, Option.map_eq_some_iff] at h
  obtain ⟨j, h1, h2⟩ := h
  obtain ⟨h3, h4⟩ := List.getElem?_eq_some_iff.mp h1
  simp at h3 h4
  exact ⟨by omega, by rw [← h2, ← h4]; simp⟩
theorem rng_len (n : Nat) : (rngItems 0 n).length = n := by simp [rngItems]
def Bdd (b : Int) (l : List Int) : Prop := ∀ x ∈ l, -b ≤ x ∧ x ≤ b
/-- a list of drawn integers -/
theorem ints_lc {k c : Nat} {own : List Nat} {tg arg : Ex} {t : Nat} {e : Env} {h : Hs} (most : Int) (h0 : 0 ≤ most) (h1 : most < 1000) (m : Nat) (hm : m ≤ 100) (s : SI c rest h) (hc : c + m < 1000000) (it : Ex) (b : Ex)
    (hi : evI (callN G (k + 2)) it e h = .ok (rngItems 0 m, []) e h) (he : wipeE own (frzAt own e) = wipeE own e) (hback : backE own (frzAt own e) (wipeE own e) = e)
    (hb : ∀ (i : Int) (h : Hs), ∃ e', bindT (.nm t) (.int i) (wipeE own (wipeE own e)) = some e' ∧ wipeE own e' = wipeE own e ∧ evM (callN G (k + 2)) (.one b) e' h = (match callN G (k + 2) 27 [.ref 1, .int most] h with | .ret p _ h2 => .ok [p] e' h2 | .exc c fs h2 => .exc c fs e' h2 | .stuck => .stuck)) :
    ∃ l h', evA (callN G (k + 2)) (.lc own (.nm t) it .nil (.one b)) e h = .ok (.v (.lst (l.map .int)) true) e h' ∧ l.length = m ∧ Bdd most l ∧ SI (c + m) rest h' := by
  obtain ⟨ps, h', q, l, hl, h2, h3, h4⟩ := lc_gen (gd := []) (own := own) (tg := .nm t) (ifs := .nil) (body := .one b) hi (fun i acc h => ∃ l : List Int, acc = l.map .int ∧ l.length = i ∧ Bdd most l ∧ SI (c + i) rest h) (fun _ => wipeE own e) he (fun i x h acc hx ⟨l, ha, hl, hbd, hs⟩ => by
    obtain ⟨hin, rfl⟩ := rng_get m i x hx
    obtain ⟨e', hb1, hb2, hb3⟩ := hb i h
    obtain ⟨d, h', q, s', d0, d1⟩ := s_integer k (c + i) h hs (by omega) most h0 h1
    refine ⟨[.int d], h', e', ?_, hb2, l ++ [d], by rw [ha]; simp, by simp [hl], fun x hx => ?_, s'⟩
    · rw [lcStep_nil hb1, hb3, q]
    · rcases List.mem_append.mp hx with hx | hx
      · exact hbd x hx
      · simp at hx; subst hx; exact ⟨d0, d1⟩) (fun _ _ _ _ => rfl) ⟨[], rfl, rfl, fun x hx => by simp at hx, s⟩ (fun ps h' ⟨l, hp, hl, _⟩ => by rw [hp, List.length_map, hl, rng_len]; exact Nat.le_trans hm line100)
  rw [rng_len] at h2
  refine ⟨l, h', ?_, h2, h3, by rw [rng_len] at h4; exact h4⟩
  rw [q, hl, hback]
theorem sml9 (m : Nat) : small62 (m : Int) = true ↔ (m : Int) < 4611686018427387904 := by simp [small62]
theorem s_row (k c : Nat) (h : Hs) (s : SI c rest h) (m : Nat) (hm : m ≤ 100) (hc : c + m + 2 < 1000000) (most bound : Int) (h0 : 0 ≤ most) (h1 : most < 1000) (b0 : 0 ≤ bound) (b1 : bound < 1000) :
    ∃ (l : List Int) (e : Bool) (b : Int) (h' : Hs), callN G (k + 3) 31 [.ref 1, .int m, .int most, .int bound] h = .ret (.tup [.lst (l.map .int), .str (wd e), .int b]) false h' ∧ l.length = m ∧ Bdd most l ∧ SI (c + m + 2) rest h' ∧ -bound ≤ b ∧ b ≤ bound := by
  obtain ⟨l, h1', q1, l1, l2, s1⟩ := ints_lc (k := k) (own := [4, 5]) (t := 5) (tg := .nil) (arg := .nil) (e := [.val (.ref 1), .val (.int m), .val (.int most), .val (.int bound), .no, .no]) most h0 h1 m hm s (by omega) (.irng1 (.var 1)) (.call 27 [] (.cons (.var 0) (.cons (.var 2) .nil)))
    (by simp only [evS, evA, evM, evT, evL, evR, evO, evI, Out.bind, Out.noex, lift, rd, v_non, v_bl, v_int, v_str, v_lst, v_tup, v_dic, esc, finish, mk, permute, bindT, bindTs, i_lst, i_tup, lo_lst, List.append_nil, Option.bind_some, Option.bind_none, Option.map_some, Option.map_none, Option.bind_eq_bind, List.getElem?_cons_zero, List.getElem?_cons_succ, List.getElem?_nil, List.set_cons_zero, List.set_cons_succ, List.length_cons, List.length_nil, List.mapM_cons, List.mapM_nil, Option.pure_def, Option.getD_some, and_self, Bool.not_true, Bool.not_false, if_true, if_false, Bool.false_eq_true, Bool.true_eq_false, reduceIte, Nat.reduceAdd, Nat.reduceLT, Nat.reduceSub, (sml9 m).mpr (by omega)]) rfl rfl (fun i h => ⟨[.val (.ref 1), .val (.int m), .val (.int most), .val (.int bound), .no, .val (.int i)], rfl, rfl, by
      simp only [evS, evA, evM, evT, evL, evR, evO, evI, Out.bind, Out.noex, lift, rd, v_non, v_bl, v_int, v_str, v_lst, v_tup, v_dic, esc, finish, mk, permute, bindT, bindTs, i_lst, i_tup, lo_lst, List.append_nil, Option.bind_some, Option.bind_none, Option.map_some, Option.map_none, Option.bind_eq_bind, List.getElem?_cons_zero, List.getElem?_cons_succ, List.getElem?_nil, List.set_cons_zero, List.set_cons_succ, List.length_cons, List.length_nil, List.mapM_cons, List.mapM_nil, Option.pure_def, Option.getD_some, and_self, Bool.not_true, Bool.not_false, if_true, if_false, Bool.false_eq_true, Bool.true_eq_false, reduceIte, Nat.reduceAdd, Nat.reduceLT, Nat.reduceSub]
      cases callN G (k + 2) 27 [.ref 1, .int most] h <;> rfl⟩)
  obtain ⟨x, h2', q2, s2, hx⟩ := s_pick k (c + m) h1' s1 (by omega) [.str ">=", .str ">=", .str "="] (by simp) (by simp)
  obtain ⟨d, h3', q3, s3, d0, d1⟩ := s_integer k (c + m + 1) h2' s2 (by omega) bound b0 b1
  have hw : ∃ e, x = .str (wd e) := by
    simp only [List.mem_cons, List.not_mem_nil, or_false] at hx
    rcases hx with rfl | rfl | rfl
    · exact ⟨false, rfl⟩
    · exact ⟨false, rfl⟩
    · exact ⟨true, rfl⟩
  obtain ⟨e, rfl⟩ := hw
  refine ⟨l, e, d, h3', ?_, l1, l2, s3, d0, d1⟩
  rw [c__law_row, b__law_row]
  simp only [evS, evA, evM, evT, evL, evR, evO, evI, Out.bind, Out.noex, lift, rd, v_non, v_bl, v_int, v_str, v_lst, v_tup, v_dic, esc, finish, mk, permute, i_lst, i_tup, lo_lst, List.append_nil, Option.bind_some, Option.bind_none, Option.map_some, Option.map_none, Option.bind_eq_bind, List.getElem?_cons_zero, List.getElem?_cons_succ, List.getElem?_nil, List.set_cons_zero, List.set_cons_succ, List.length_cons, List.length_nil, List.mapM_cons, List.mapM_nil, Option.pure_def, Option.getD_some, and_self, Bool.not_true, Bool.not_false, if_true, if_false, Bool.false_eq_true, Bool.true_eq_false, reduceIte, Nat.reduceAdd, Nat.reduceLT, Nat.reduceSub, q1, q2, q3]
end K02

namespace K02
open PL
open PySem (Str)
variable {rest : Hs}
theorem Bdd.sml {b : Int} {l : List Int} (h : Bdd b l) (hb : b < 1000) : Sml l := fun x hx => by
  have := h x hx
  have h2 : x.natAbs < 1000 := by omega
  exact Nat.lt_trans h2 (by decide)
inductive F2 (R : PV → PV → Prop) : List PV → List PV → Prop
  | nil : F2 R [] []
  | cons {x y : PV} {xs ys : List PV} (h : R x y) (t : F2 R xs ys) : F2 R (x :: xs) (y :: ys)
theorem F2.snoc {R : PV → PV → Prop} {x y : PV} (h : R x y) : ∀ {xs ys : List PV}, F2 R xs ys → F2 R (xs ++ [x]) (ys ++ [y])
  | _, _, .nil => .cons h .nil
  | _, _, .cons a t => .cons a (t.snoc h)
theorem F2.len {R : PV → PV → Prop} : ∀ {xs ys : List PV}, F2 R xs ys → xs.length = ys.length
  | _, _, .nil => rfl
  | _, _, .cons _ t => by simp [t.len]
theorem loose_leaf (k : Nat) (x : PV) (n : String) (hn : typeName x = some n) (hv : ∀ h, view h x = x) (hy : isAny n ["list", "tuple"] = false) (h : Hs) : callN G (k + 1) 26 [.ref 1, x] h = .ret x false h := by
  rw [c__law_loose, b__law_loose]
  simp only [evS, evA, evM, evT, evL, evR, evO, evI, Out.bind, Out.noex, lift, rd, v_non, v_bl, v_int, v_str, v_lst, v_tup, v_dic, esc, finish, mk, permute, i_lst, i_tup, lo_lst, List.append_nil, Option.bind_some, Option.bind_none, Option.map_some, Option.map_none, Option.bind_eq_bind, List.getElem?_cons_zero, List.getElem?_cons_succ, List.getElem?_nil, List.set_cons_zero, List.set_cons_succ, List.length_cons, List.length_nil, List.mapM_cons, List.mapM_nil, Option.pure_def, Option.getD_some, and_self, Bool.not_true, Bool.not_false, if_true, if_false, Bool.false_eq_true, Bool.true_eq_false, reduceIte, Nat.reduceAdd, Nat.reduceLT, Nat.reduceSub, hv, hn, hy, truthy]
theorem loose_node (k c w : Nat) (s0 : Bool) (xs : List PV) (h : Hs) (s : SI c rest h) (g : Nat) (hg : 10 ≤ g) (hc : c + xs.length * w + g < 1000000) (hl : xs.length ≤ line) (R : PV → PV → Prop)
    (hx : ∀ x ∈ xs, ∀ (c' : Nat) (h' : Hs), SI c' rest h' → c' + g < 1000000 → ∃ y fr h2, callN G (k + 1) 26 [.ref 1, x] h' = .ret y fr h2 ∧ R x y ∧ SI (c' + w) rest h2) :
    ∃ t ys h', callN G (k + 2) 26 [.ref 1, sq s0 xs] h = .ret (sq t ys) t h' ∧ F2 R xs ys ∧ SI (c + xs.length * w + 1) rest h' := by
  obtain ⟨ps, h1, q, p1, p2⟩ := lc_gen (gd := []) (C := callN G (k + 1)) (own := [3, 4]) (tg := .nm 4) (ifs := .nil) (it := .iseq (.var 1)) (body := .one (.call 26 [] (.cons (.var 0) (.cons (.var 4) .nil)))) (e := [.val (.ref 1), .val (sq s0 xs), .no, .no, .no]) (e1 := [.val (.ref 1), .val (sq s0 xs), .no, .no, .no]) (h := h) (h1 := h) (xs := xs)
    (by simp only [evS, evA, evM, evT, evL, evR, evO, evI, Out.bind, Out.noex, lift, rd, v_non, v_bl, v_int, v_str, v_lst, v_tup, v_dic, esc, finish, mk, permute, i_lst, i_tup, lo_lst, List.append_nil, Option.bind_some, Option.bind_none, Option.map_some, Option.map_none, Option.bind_eq_bind, List.getElem?_cons_zero, List.getElem?_cons_succ, List.getElem?_nil, List.set_cons_zero, List.set_cons_succ, List.length_cons, List.length_nil, List.mapM_cons, List.mapM_nil, Option.pure_def, Option.getD_some, and_self, Bool.not_true, Bool.not_false, if_true, if_false, Bool.false_eq_true, Bool.true_eq_false, reduceIte, Nat.reduceAdd, Nat.reduceLT, Nat.reduceSub, items_sq]) (fun i acc h => F2 R (xs.take i) acc ∧ SI (c + i * w) rest h) (fun _ => [.val (.ref 1), .val (sq s0 xs), .no, .no, .no]) rfl (fun i x h acc hxi ⟨ha, hs⟩ => by
      have hi : i < xs.length := (List.getElem?_eq_some_iff.mp hxi).1
      have hb : i * w + w ≤ xs.length * w := by rw [← Nat.succ_mul]; exact Nat.mul_le_mul_right w hi
      obtain ⟨y, fr, h2, q, r, s2⟩ := hx x (List.mem_of_getElem? hxi) (c + i * w) h hs (by omega)
      refine ⟨[y], h2, [.val (.ref 1), .val (sq s0 xs), .no, .no, .val x], ?_, rfl, ?_, ?_⟩
      · rw [lcStep_nil (e' := [.val (.ref 1), .val (sq s0 xs), .no, .no, .val x]) rfl]
        simp only [evS, evA, evM, evT, evL, evR, evO, evI, Out.bind, Out.noex, lift, rd, v_non, v_bl, v_int, v_str, v_lst, v_tup, v_dic, esc, finish, mk, permute, i_lst, i_tup, lo_lst, List.append_nil, Option.bind_some, Option.bind_none, Option.map_some, Option.map_none, Option.bind_eq_bind, List.getElem?_cons_zero, List.getElem?_cons_succ, List.getElem?_nil, List.set_cons_zero, List.set_cons_succ, List.length_cons, List.length_nil, List.mapM_cons, List.mapM_nil, Option.pure_def, Option.getD_some, and_self, Bool.not_true, Bool.not_false, if_true, if_false, Bool.false_eq_true, Bool.true_eq_false, reduceIte, Nat.reduceAdd, Nat.reduceLT, Nat.reduceSub, q]
      · rw [List.take_succ, hxi]; exact ha.snoc r
      · rw [Nat.succ_mul, ← Nat.add_assoc]; exact s2) (fun _ _ _ _ => rfl) ⟨.nil, by simpa using s⟩ (fun ps h' ⟨hp, _⟩ => by rw [← hp.len, List.take_length]; exact hl)
  rw [List.take_length] at p1
  simp only [backE, frzAt, frzS, List.getD_cons_zero, List.getD_cons_succ, List.set_cons_zero, List.set_cons_succ] at q
  obtain ⟨d, h2, q2, s2, d0, d1⟩ := s_draw k _ h1 p2 (by omega) 2 (by decide) (by decide)
  have hny : isAny (if s0 then "list" else "tuple") ["list", "tuple"] = true := by cases s0 <;> simp [i3, i4]
  by_cases hd : d = 0
  · refine ⟨false, ps, h2, ?_, p1, s2⟩
    have ot : opB .tuple [.lst ps] = some (.tup ps, false) := rfl
    rw [c__law_loose, b__law_loose]
    show _ = Ret.ret (.tup ps) false h2
    simp only [evS, evA, evM, evT, evL, evR, evO, evI, Out.bind, Out.noex, lift, rd, v_non, v_bl, v_int, v_str, v_lst, v_tup, v_dic, esc, finish, mk, permute, i_lst, i_tup, lo_lst, List.append_nil, Option.bind_some, Option.bind_none, Option.map_some, Option.map_none, Option.bind_eq_bind, List.getElem?_cons_zero, List.getElem?_cons_succ, List.getElem?_nil, List.set_cons_zero, List.set_cons_succ, List.length_cons, List.length_nil, List.mapM_cons, List.mapM_nil, Option.pure_def, Option.getD_some, and_self, Bool.not_true, Bool.not_false, if_true, if_false, Bool.false_eq_true, Bool.true_eq_false, reduceIte, Nat.reduceAdd, Nat.reduceLT, Nat.reduceSub, view_sq, sq_ty, hny, truthy, q, q2, opCmp, eqi, hd, beq_self_eq_true, ot]
  · refine ⟨true, ps, h2, ?_, p1, s2⟩
    have hd' : (d == 0) = false := by simpa using hd
    rw [c__law_loose, b__law_loose]
    show _ = Ret.ret (.lst ps) true h2
    simp only [evS, evA, evM, evT, evL, evR, evO, evI, Out.bind, Out.noex, lift, rd, v_non, v_bl, v_int, v_str, v_lst, v_tup, v_dic, esc, finish, mk, permute, i_lst, i_tup, lo_lst, List.append_nil, Option.bind_some, Option.bind_none, Option.map_some, Option.map_none, Option.bind_eq_bind, List.getElem?_cons_zero, List.getElem?_cons_succ, List.getElem?_nil, List.set_cons_zero, List.set_cons_succ, List.length_cons, List.length_nil, List.mapM_cons, List.mapM_nil, Option.pure_def, Option.getD_some, and_self, Bool.not_true, Bool.not_false, if_true, if_false, Bool.false_eq_true, Bool.true_eq_false, reduceIte, Nat.reduceAdd, Nat.reduceLT, Nat.reduceSub, view_sq, sq_ty, hny, truthy, q, q2, opCmp, eqi, hd']
theorem F2.eq : ∀ {xs ys : List PV}, F2 (fun x y => y = x) xs ys → ys = xs
  | _, _, .nil => rfl
  | _, _, .cons h t => by rw [h, t.eq]
theorem loose_int (k : Nat) (i : Int) (h : Hs) : callN G (k + 1) 26 [.ref 1, .int i] h = .ret (.int i) false h := loose_leaf k (.int i) "int" rfl (fun _ => rfl) y1 h
theorem loose_str (k : Nat) (i : Str) (h : Hs) : callN G (k + 1) 26 [.ref 1, .str i] h = .ret (.str i) false h := loose_leaf k (.str i) "str" rfl (fun _ => rfl) y4 h
theorem loose_ints (k c : Nat) (l : List Int) (h : Hs) (s : SI c rest h) (hc : c + 10 < 1000000) (hl : l.length ≤ line) : ∃ t h', callN G (k + 2) 26 [.ref 1, .lst (l.map .int)] h = .ret (sq t (l.map .int)) t h' ∧ SI (c + 1) rest h' := by
  obtain ⟨t, ys, h', q, f, s'⟩ := loose_node k c 0 true (l.map .int) h s 10 (by omega) (by simpa using hc) (by simpa using hl) (fun x y => y = x) (fun x hx c' h' s' _ => by
    obtain ⟨i, _, rfl⟩ := List.mem_map.mp hx
    exact ⟨_, _, _, loose_int k i h', rfl, s'⟩)
  rw [f.eq] at q
  exact ⟨t, h', q, by simpa using s'⟩
def RelC (x y : PV) : Prop := (∃ (l : List Int) (t : Bool), x = .lst (l.map .int) ∧ y = sq t (l.map .int)) ∨ ((∀ l, x ≠ .lst l) ∧ y = x)
theorem loose_row (k c : Nat) (r : Rw) (h : Hs) (s : SI c rest h) (hc : c + 50 < 1000000) (hl : r.ns.length ≤ line) : ∃ t u h', callN G (k + 3) 26 [.ref 1, pvR false true r] h = .ret (pvR t u r) t h' ∧ SI (c + 4) rest h' := by
  obtain ⟨t, ys, h', q, f, s'⟩ := loose_node (k + 1) c 1 false [.lst (r.ns.map .int), .str (wd r.eq), .int r.b] h s 10 (by omega) (by simp; omega) (by simp; decide) RelC (fun x hx c' h' s' hc' => by
    simp only [List.mem_cons, List.not_mem_nil, or_false] at hx
    rcases hx with rfl | rfl | rfl
    · obtain ⟨t, h2, q, s2⟩ := loose_ints k c' r.ns h' s' hc' hl
      exact ⟨_, _, _, q, .inl ⟨r.ns, t, rfl, rfl⟩, s2⟩
    · exact ⟨_, _, _, loose_str (k + 1) _ h', .inr ⟨fun l hh => (by cases hh), rfl⟩, s'.mono (by omega)⟩
    · exact ⟨_, _, _, loose_int (k + 1) _ h', .inr ⟨fun l hh => (by cases hh), rfl⟩, s'.mono (by omega)⟩)
  cases f with
  | cons a f => cases f with
    | cons b f => cases f with
      | cons d f =>
        cases f
        rcases b with ⟨_, _, e, _⟩ | ⟨_, rfl⟩
        · cases e
        rcases d with ⟨_, _, e, _⟩ | ⟨_, rfl⟩
        · cases e
        rcases a with ⟨l, u, e, rfl⟩ | ⟨e, _⟩
        · have : l.map PV.int = r.ns.map PV.int := (PV.lst.inj e).symm
          rw [this] at q
          exact ⟨t, u, h', q, s'⟩
        · exact absurd rfl (e _)
end K02

namespace K02
open PL
open PySem (Str)
variable {rest : Hs}
def pvS (s : Bool) (l : List (Bool × Bool × Rw)) : PV := sq s (l.map fun z => pvR z.1 z.2.1 z.2.2)
def rws (l : List (Bool × Bool × Rw)) : List Rw := l.map fun z => z.2.2
def WfR (m : Nat) (r : Rw) : Prop := r.ns.length = m
theorem none_in (l : List Rw) : opIn .non (l.map (pvR false false)) = some false := by
  unfold opIn
  rw [if_pos ⟨rfl, okDs_R l, by simp [dep]⟩]
  simp [pvR, sq, eqv]
theorem pre2 (x y : PV) : wipeE [3, 4] [.val x, .val y, .no, .no, .no] = [.val x, .val y, .no, .no, .no] := rfl
theorem s_kept_system (k : Nat) (s : Bool) (l : List (Bool × Bool × Rw)) (m : Nat) (h : Hs) (hm : ∀ z ∈ l, z.2.2.ns.length = m) (hl : m ≤ line) (hl2 : l.length ≤ line) : callN G (k + 5) 8 [.int m, pvS s l] h = .ret (.tup ((rws l).map (pvR false false))) false h := by
  let x : PV := pvS s l
  let E0 : Env := [.val (.int m), .val x, .no, .no, .no]
  have lc := lc_map (gd := []) (C := callN G (k + 4)) (own := [3, 4]) (tg := .nm 4) (it := .iseq (.var 1)) (body := .one (.call 7 [] (.cons (.var 0) (.cons (.var 4) .nil)))) (e := E0) (e1 := E0) (h := h) (h1 := h) (xs := l.map fun z => pvR z.1 z.2.1 z.2.2)
    (by simp only [evS, evA, evM, evT, evL, evR, evO, evI, Out.bind, Out.noex, lift, rd, v_non, v_bl, v_int, v_str, v_lst, v_tup, v_dic, esc, finish, mk, permute, bindT, bindTs, i_lst, i_tup, lo_lst, List.append_nil, Option.bind_some, Option.bind_none, Option.map_some, Option.map_none, Option.bind_eq_bind, List.getElem?_cons_zero, List.getElem?_cons_succ, List.getElem?_nil, List.set_cons_zero, List.set_cons_succ, List.length_cons, List.length_nil, List.mapM_cons, List.mapM_nil, Option.pure_def, Option.getD_some, and_self, Bool.not_true, Bool.not_false, if_true, if_false, Bool.false_eq_true, Bool.true_eq_false, reduceIte, Nat.reduceAdd, Nat.reduceLT, Nat.reduceSub, E0, x, pvS, items_sq]) rfl (fun p => match callN G (k + 4) 7 [.int m, p] h with | .ret q _ _ => q | _ => .non) E0 rfl (by simpa using hl2) (fun p hp => by
      obtain ⟨z, hz, rfl⟩ := List.mem_map.mp hp
      refine ⟨[.val (.int m), .val x, .no, .no, .val (pvR z.1 z.2.1 z.2.2)], ?_, rfl⟩
      rw [lcStep_nil (e' := [.val (.int m), .val x, .no, .no, .val (pvR z.1 z.2.1 z.2.2)]) rfl]
      simp only [evS, evA, evM, evT, evL, evR, evO, evI, Out.bind, Out.noex, lift, rd, v_non, v_bl, v_int, v_str, v_lst, v_tup, v_dic, esc, finish, mk, permute, bindT, bindTs, i_lst, i_tup, lo_lst, List.append_nil, Option.bind_some, Option.bind_none, Option.map_some, Option.map_none, Option.bind_eq_bind, List.getElem?_cons_zero, List.getElem?_cons_succ, List.getElem?_nil, List.set_cons_zero, List.set_cons_succ, List.length_cons, List.length_nil, List.mapM_cons, List.mapM_nil, Option.pure_def, Option.getD_some, and_self, Bool.not_true, Bool.not_false, if_true, if_false, Bool.false_eq_true, Bool.true_eq_false, reduceIte, Nat.reduceAdd, Nat.reduceLT, Nat.reduceSub, s_kept_line k _ _ z.2.2 m h (by rw [hm z hz]) (by rw [hm z hz]; exact hl)])
  have hz : ((l.map fun z => pvR z.1 z.2.1 z.2.2).map fun p => match callN G (k + 4) 7 [.int m, p] h with | .ret q _ _ => q | _ => .non) = (rws l).map (pvR false false) := by
    rw [List.map_map, rws, List.map_map]
    refine List.map_congr_left fun z hz => ?_
    simp only [Function.comp_def]
    rw [s_kept_line k _ _ z.2.2 m h (by rw [hm z hz]) (by rw [hm z hz]; exact hl)]
  rw [hz] at lc
  simp only [backE, frzAt, frzS, E0, List.getD_cons_zero, List.getD_cons_succ, List.set_cons_zero, List.set_cons_succ] at lc
  rw [c_kept_system, b_kept_system]
  have li : callN G (k + 4) 0 [x] h = .ret (.bl true) false h := s_is_list_sq (k + 3) s _ h
  have tu : opB .tuple [.lst ((rws l).map (pvR false false))] = some (.tup ((rws l).map (pvR false false)), false) := rfl
  show finish (evS (callN G (k + 4)) _ [.val (.int m), .val x, .no, .no, .no] h) = _
  simp only [evS, evA, evM, evT, evL, evR, evO, evI, Out.bind, Out.noex, lift, rd, v_non, v_bl, v_int, v_str, v_lst, v_tup, v_dic, esc, finish, mk, permute, bindT, bindTs, i_lst, i_tup, lo_lst, List.append_nil, Option.bind_some, Option.bind_none, Option.map_some, Option.map_none, Option.bind_eq_bind, List.getElem?_cons_zero, List.getElem?_cons_succ, List.getElem?_nil, List.set_cons_zero, List.set_cons_succ, List.length_cons, List.length_nil, List.mapM_cons, List.mapM_nil, Option.pure_def, Option.getD_some, and_self, Bool.not_true, Bool.not_false, if_true, if_false, Bool.false_eq_true, Bool.true_eq_false, reduceIte, Nat.reduceAdd, Nat.reduceLT, Nat.reduceSub, li, truthy, Bool.not_true, lc, opCmp, none_in, tu]
theorem s_need_system (k : Nat) (s : Bool) (l : List (Bool × Bool × Rw)) (m : Nat) (h : Hs) (hm0 : 1 ≤ m) (hm : ∀ z ∈ l, z.2.2.ns.length = m) (hl : m ≤ line) (hl2 : l.length ≤ line) : callN G (k + 6) 9 [.int m, pvS s l] h = .ret (.tup ((rws l).map (pvR false false))) false h := by
  rw [c_need_system, b_need_system]
  simp only [evS, evA, evM, evT, evL, evR, evO, evI, Out.bind, Out.noex, lift, rd, v_non, v_bl, v_int, v_str, v_lst, v_tup, v_dic, esc, finish, mk, permute, bindT, bindTs, i_lst, i_tup, lo_lst, List.append_nil, Option.bind_some, Option.bind_none, Option.map_some, Option.map_none, Option.bind_eq_bind, List.getElem?_cons_zero, List.getElem?_cons_succ, List.getElem?_nil, List.set_cons_zero, List.set_cons_succ, List.length_cons, List.length_nil, List.mapM_cons, List.mapM_nil, Option.pure_def, Option.getD_some, and_self, Bool.not_true, Bool.not_false, if_true, if_false, Bool.false_eq_true, Bool.true_eq_false, reduceIte, Nat.reduceAdd, Nat.reduceLT, Nat.reduceSub, s_check_many (k + 3) m (by omega), s_kept_system k s l m h hm hl hl2, opCmp, truthy]
theorem s_need_point (k : Nat) (s : Bool) (xs : List Int) (m : Nat) (h : Hs) (hm : xs.length = m) (hl : m ≤ line) : callN G (k + 4) 10 [.int m, sq s (xs.map .int)] h = .ret (.tup (xs.map .int)) false h := by
  rw [c_need_point, b_need_point]
  simp only [evS, evA, evM, evT, evL, evR, evO, evI, Out.bind, Out.noex, lift, rd, v_non, v_bl, v_int, v_str, v_lst, v_tup, v_dic, esc, finish, mk, permute, bindT, bindTs, i_lst, i_tup, lo_lst, List.append_nil, Option.bind_some, Option.bind_none, Option.map_some, Option.map_none, Option.bind_eq_bind, List.getElem?_cons_zero, List.getElem?_cons_succ, List.getElem?_nil, List.set_cons_zero, List.set_cons_succ, List.length_cons, List.length_nil, List.mapM_cons, List.mapM_nil, Option.pure_def, Option.getD_some, and_self, Bool.not_true, Bool.not_false, if_true, if_false, Bool.false_eq_true, Bool.true_eq_false, reduceIte, Nat.reduceAdd, Nat.reduceLT, Nat.reduceSub, s_kept_numbers k s xs m h (by rw [hm]) (by rw [hm]; exact hl), opCmp, truthy]
theorem s_sum_at (k : Nat) (ns ps : List Int) (h : Hs) (hl : ns.length ≤ line) (h1 : Sml ns) (h2 : Sml ps) : callN G (k + 1) 11 [.tup (ns.map .int), .tup (ps.map .int)] h = .ret (.int (val ns ps)) false h := by
  let E0 : Env := [.val (.tup (ns.map .int)), .val (.tup (ps.map .int)), .no, .no, .no]
  have lc := lc_map (gd := []) (C := callN G k) (own := [2, 3, 4]) (tg := .tp (.cons (.nm 3) (.cons (.nm 4) .nil))) (it := .izip (.var 0) (.var 1)) (body := .one (.bin .mul (.var 3) (.var 4))) (e := E0) (e1 := E0) (h := h) (h1 := h) (xs := (ns.zip ps).map fun z => PV.tup [.int z.1, .int z.2])
    (by simp only [evS, evA, evM, evT, evL, evR, evO, evI, Out.bind, Out.noex, lift, rd, v_non, v_bl, v_int, v_str, v_lst, v_tup, v_dic, esc, finish, mk, permute, bindT, bindTs, i_lst, i_tup, lo_lst, List.append_nil, Option.bind_some, Option.bind_none, Option.map_some, Option.map_none, Option.bind_eq_bind, List.getElem?_cons_zero, List.getElem?_cons_succ, List.getElem?_nil, List.set_cons_zero, List.set_cons_succ, List.length_cons, List.length_nil, List.mapM_cons, List.mapM_nil, Option.pure_def, Option.getD_some, and_self, Bool.not_true, Bool.not_false, if_true, if_false, Bool.false_eq_true, Bool.true_eq_false, reduceIte, Nat.reduceAdd, Nat.reduceLT, Nat.reduceSub, E0, zip_int]) rfl mulG E0 rfl (zip_len ns ps hl) (fun p hp => by
      obtain ⟨z, hz, rfl⟩ := List.mem_map.mp hp
      have hs := sml_zip h1 h2 z hz
      refine ⟨[.val (.tup (ns.map .int)), .val (.tup (ps.map .int)), .no, .val (.int z.1), .val (.int z.2)], ?_, rfl⟩
      rw [lcStep_nil (e' := [.val (.tup (ns.map .int)), .val (.tup (ps.map .int)), .no, .val (.int z.1), .val (.int z.2)]) rfl]
      simp only [evS, evA, evM, evT, evL, evR, evO, evI, Out.bind, Out.noex, lift, rd, v_non, v_bl, v_int, v_str, v_lst, v_tup, v_dic, esc, finish, mk, permute, bindT, bindTs, i_lst, i_tup, lo_lst, List.append_nil, Option.bind_some, Option.bind_none, Option.map_some, Option.map_none, Option.bind_eq_bind, List.getElem?_cons_zero, List.getElem?_cons_succ, List.getElem?_nil, List.set_cons_zero, List.set_cons_succ, List.length_cons, List.length_nil, List.mapM_cons, List.mapM_nil, Option.pure_def, Option.getD_some, and_self, Bool.not_true, Bool.not_false, if_true, if_false, Bool.false_eq_true, Bool.true_eq_false, reduceIte, Nat.reduceAdd, Nat.reduceLT, Nat.reduceSub, bMul (mulOk_of _ _ hs.1 hs.2), mulG])
  rw [mulG_map] at lc
  simp only [backE, frzAt, frzS, E0, List.getD_cons_zero, List.getD_cons_succ, List.set_cons_zero, List.set_cons_succ] at lc
  rw [c_sum_at, b_sum_at]
  simp only [evS, evA, evM, evT, evL, evR, evO, evI, Out.bind, Out.noex, lift, rd, v_non, v_bl, v_int, v_str, v_lst, v_tup, v_dic, esc, finish, mk, permute, bindT, bindTs, i_lst, i_tup, lo_lst, List.append_nil, Option.bind_some, Option.bind_none, Option.map_some, Option.map_none, Option.bind_eq_bind, List.getElem?_cons_zero, List.getElem?_cons_succ, List.getElem?_nil, List.set_cons_zero, List.set_cons_succ, List.length_cons, List.length_nil, List.mapM_cons, List.mapM_nil, Option.pure_def, Option.getD_some, and_self, Bool.not_true, Bool.not_false, if_true, if_false, Bool.false_eq_true, Bool.true_eq_false, reduceIte, Nat.reduceAdd, Nat.reduceLT, Nat.reduceSub, lc, sum_ints, val]
theorem ite_rh (p : List Int) (r : Rw) : (if r.eq = true then val r.ns p == r.b else decide (r.b ≤ val r.ns p)) = rh p r := rfl
structure Sys (m : Nat) (l : List (Bool × Bool × Rw)) : Prop where
  ln : ∀ z ∈ l, z.2.2.ns.length = m
  sm : ∀ z ∈ l, Sml z.2.2.ns
  n : l.length ≤ 100
theorem dat_S (s : Bool) (l : List (Bool × Bool × Rw)) (m : Nat) (hm : m ≤ 100) (S : Sys m l) : Dat 3 (pvS s l) := by
  have : ∀ x ∈ l.map (fun z => pvR z.1 z.2.1 z.2.2), Dat 2 x := fun x hx => by
    obtain ⟨z, hz, rfl⟩ := List.mem_map.mp hx
    exact dat_R _ _ _ (by rw [S.ln z hz]; exact Nat.le_trans hm line100)
  have hl : (l.map fun z => pvR z.1 z.2.1 z.2.2).length ≤ line := by rw [List.length_map]; exact Nat.le_trans S.n line100
  cases s <;> exact ⟨hl, this⟩
end K02

namespace K02
open PL
open PySem (Str)
variable {rest : Hs}
theorem s_append (xs : List PV) (a : PV) (h : xs.length < line) : opM .append xs [a] = some (.non, xs ++ [a]) := by simp [opM, h]
def sysB : Sm := (.seq (.tasg (.tp (.cons (.nm 8) (.cons (.nm 9) (.cons (.nm 10) .nil)))) (.call 31 [] (.cons (.var 0) (.cons (.var 1) (.cons (.var 3) (.cons (.var 4) .nil)))))) (.seq (.ite (.cmp .gt (.call 20 [] (.cons (.var 0) (.cons (.con (.int (3))) .nil))) (.con (.int (0)))) (.asg 10 (.bin .sub (.call 28 [] (.cons (.var 8) (.cons (.var 6) .nil))) (.ite (.cmp .eq (.var 9) (.con (.str ">="))) (.call 20 [] (.cons (.var 0) (.cons (.con (.int (3))) .nil))) (.con (.int (0)))))) .skip) (.expr (.meth .append (.var 5) (.cons (.tup (.cons (.var 8) (.cons (.var 9) (.cons (.var 10) .nil)))) .nil)))))
theorem sys_body : b__law_system = .seq (.par 5 6 (.lst .nil) (.lc [11, 12] (.nm 12) (.irng1 (.var 1)) .nil (.one (.call 27 [] (.cons (.var 0) (.cons (.con (.int (3))) .nil)))))) (.seq (.for_ (.nm 7) (.irng1 (.var 2)) sysB) (.ret (.var 5))) := rfl
def sEnv (mo bo : Int) (m n : Nat) (rs : List Rw) (s6 x7 x8 x9 x10 x11 x12 : SV) : Env := [.val (.ref 1), .val (.int m), .val (.int n), .val (.int mo), .val (.int bo), .own (.lst (rs.map (pvR false true))), s6, x7, x8, x9, x10, x11, x12]
def OkR (m : Nat) (r : Rw) : Prop := r.ns.length = m ∧ Bdd 9 r.ns
theorem Bdd.up {a b : Int} {l : List Int} (h : Bdd a l) (hb : a ≤ b) : Bdd b l := fun x hx => by have := h x hx; omega
theorem sys_step (mo bo : Int) (mo0 : 0 ≤ mo) (mo9 : mo ≤ 9) (bo0 : 0 ≤ bo) (bo9 : bo ≤ 900) (k c : Nat) (h : Hs) (s : SI c rest h) (hc : c + 100 < 1000000) (m n : Nat) (hm : m ≤ 6) (rs : List Rw) (hrs : rs.length ≤ 100) (pts : List Int) (hp : Bdd 3 pts) (s6 x7 x8 x9 x10 x11 x12 : SV) (h6 : s6 = .own (.lst (pts.map .int)) ∨ s6 = .val (.lst (pts.map .int))) (i : PV) :
    ∃ r h' s6' y8 y9 y10, forStep (callN G (k + 3)) (.nm 7) sysB i (sEnv mo bo m n rs s6 x7 x8 x9 x10 x11 x12) h = .ok .next (sEnv mo bo m n (rs ++ [r]) s6' (.val i) y8 y9 y10 x11 x12) h' ∧ OkR m r ∧ (s6' = .own (.lst (pts.map .int)) ∨ s6' = .val (.lst (pts.map .int))) ∧ SI (c + 10) rest h' := by
  obtain ⟨l, e, b, h1, q1, l1, l2', s1, _, _⟩ := s_row k c h s m (by omega) (by omega) mo bo mo0 (by omega) bo0 (by omega)
  have l2 := l2'.up mo9
  obtain ⟨d, h2, q2, s2, d0, d1⟩ := s_draw (k + 2) (c + m + 2) h1 s1 (by omega) 3 (by decide) (by decide)
  have hlen : (rs.map (pvR false true)).length < line := by rw [List.length_map]; exact Nat.lt_of_le_of_lt hrs (by decide)
  have ap : ∀ nb : Int, opM .append (rs.map (pvR false true)) [.tup [.lst (l.map .int), .str (wd e), .int nb]] = some (.non, (rs ++ [Rw.mk l e nb]).map (pvR false true)) := fun nb => by
    rw [s_append _ _ hlen]; simp [pvR, sq]
  by_cases hd : 0 < d
  · have v := s_law_value (k + 2) l pts h2 (by rw [l1]; exact Nat.le_trans (by omega) line100) (l2.sml (by decide)) (hp.sml (by decide))
    cases e with
    | true =>
      refine ⟨⟨l, true, val l pts - 0⟩, h2, .val (.lst (pts.map .int)), .val (.lst (l.map .int)), .val (.str (wd true)), .val (.int (val l pts - 0)), ?_, ⟨l1, l2⟩, .inr rfl, s2.mono (by omega)⟩
      have w : opEq (.str (wd true)) (.str ">=") = some false := wd_ge true
      unfold forStep sysB sEnv
      rcases h6 with rfl | rfl
      · simp only [evS, evA, evM, evT, evL, evR, evO, evI, Out.bind, Out.noex, lift, rd, v_non, v_bl, v_int, v_str, v_lst, v_tup, v_dic, esc, finish, mk, permute, bindT, bindTs, i_lst, i_tup, lo_lst, List.append_nil, Option.bind_some, Option.bind_none, Option.map_some, Option.map_none, Option.bind_eq_bind, List.getElem?_cons_zero, List.getElem?_cons_succ, List.getElem?_nil, List.set_cons_zero, List.set_cons_succ, List.length_cons, List.length_nil, List.mapM_cons, List.mapM_nil, Option.pure_def, Option.getD_some, and_self, Bool.not_true, Bool.not_false, if_true, if_false, Bool.false_eq_true, Bool.true_eq_false, reduceIte, Nat.reduceAdd, Nat.reduceLT, Nat.reduceSub, q1, q2, opCmp, hd, decide_true, truthy, v, w, bSub, mut?, put, ap]
      · simp only [evS, evA, evM, evT, evL, evR, evO, evI, Out.bind, Out.noex, lift, rd, v_non, v_bl, v_int, v_str, v_lst, v_tup, v_dic, esc, finish, mk, permute, bindT, bindTs, i_lst, i_tup, lo_lst, List.append_nil, Option.bind_some, Option.bind_none, Option.map_some, Option.map_none, Option.bind_eq_bind, List.getElem?_cons_zero, List.getElem?_cons_succ, List.getElem?_nil, List.set_cons_zero, List.set_cons_succ, List.length_cons, List.length_nil, List.mapM_cons, List.mapM_nil, Option.pure_def, Option.getD_some, and_self, Bool.not_true, Bool.not_false, if_true, if_false, Bool.false_eq_true, Bool.true_eq_false, reduceIte, Nat.reduceAdd, Nat.reduceLT, Nat.reduceSub, q1, q2, opCmp, hd, decide_true, truthy, v, w, bSub, mut?, put, ap]
    | false =>
      obtain ⟨d', h3, q3, s3, _, _⟩ := s_draw (k + 2) (c + m + 2 + 1) h2 s2 (by omega) 3 (by decide) (by decide)
      refine ⟨⟨l, false, val l pts - d'⟩, h3, .val (.lst (pts.map .int)), .val (.lst (l.map .int)), .val (.str (wd false)), .val (.int (val l pts - d')), ?_, ⟨l1, l2⟩, .inr rfl, s3.mono (by omega)⟩
      have w : opEq (.str (wd false)) (.str ">=") = some true := wd_ge false
      unfold forStep sysB sEnv
      rcases h6 with rfl | rfl
      · simp only [evS, evA, evM, evT, evL, evR, evO, evI, Out.bind, Out.noex, lift, rd, v_non, v_bl, v_int, v_str, v_lst, v_tup, v_dic, esc, finish, mk, permute, bindT, bindTs, i_lst, i_tup, lo_lst, List.append_nil, Option.bind_some, Option.bind_none, Option.map_some, Option.map_none, Option.bind_eq_bind, List.getElem?_cons_zero, List.getElem?_cons_succ, List.getElem?_nil, List.set_cons_zero, List.set_cons_succ, List.length_cons, List.length_nil, List.mapM_cons, List.mapM_nil, Option.pure_def, Option.getD_some, and_self, Bool.not_true, Bool.not_false, if_true, if_false, Bool.false_eq_true, Bool.true_eq_false, reduceIte, Nat.reduceAdd, Nat.reduceLT, Nat.reduceSub, q1, q2, opCmp, hd, decide_true, truthy, v, w, q3, bSub, mut?, put, ap]
      · simp only [evS, evA, evM, evT, evL, evR, evO, evI, Out.bind, Out.noex, lift, rd, v_non, v_bl, v_int, v_str, v_lst, v_tup, v_dic, esc, finish, mk, permute, bindT, bindTs, i_lst, i_tup, lo_lst, List.append_nil, Option.bind_some, Option.bind_none, Option.map_some, Option.map_none, Option.bind_eq_bind, List.getElem?_cons_zero, List.getElem?_cons_succ, List.getElem?_nil, List.set_cons_zero, List.set_cons_succ, List.length_cons, List.length_nil, List.mapM_cons, List.mapM_nil, Option.pure_def, Option.getD_some, and_self, Bool.not_true, Bool.not_false, if_true, if_false, Bool.false_eq_true, Bool.true_eq_false, reduceIte, Nat.reduceAdd, Nat.reduceLT, Nat.reduceSub, q1, q2, opCmp, hd, decide_true, truthy, v, w, q3, bSub, mut?, put, ap]
  · refine ⟨⟨l, e, b⟩, h2, s6, .val (.lst (l.map .int)), .val (.str (wd e)), .val (.int b), ?_, ⟨l1, l2⟩, h6, s2.mono (by omega)⟩
    unfold forStep sysB sEnv
    rcases h6 with rfl | rfl
    · simp only [evS, evA, evM, evT, evL, evR, evO, evI, Out.bind, Out.noex, lift, rd, v_non, v_bl, v_int, v_str, v_lst, v_tup, v_dic, esc, finish, mk, permute, bindT, bindTs, i_lst, i_tup, lo_lst, List.append_nil, Option.bind_some, Option.bind_none, Option.map_some, Option.map_none, Option.bind_eq_bind, List.getElem?_cons_zero, List.getElem?_cons_succ, List.getElem?_nil, List.set_cons_zero, List.set_cons_succ, List.length_cons, List.length_nil, List.mapM_cons, List.mapM_nil, Option.pure_def, Option.getD_some, and_self, Bool.not_true, Bool.not_false, if_true, if_false, Bool.false_eq_true, Bool.true_eq_false, reduceIte, Nat.reduceAdd, Nat.reduceLT, Nat.reduceSub, q1, q2, opCmp, hd, decide_false, truthy, mut?, put, ap]
    · simp only [evS, evA, evM, evT, evL, evR, evO, evI, Out.bind, Out.noex, lift, rd, v_non, v_bl, v_int, v_str, v_lst, v_tup, v_dic, esc, finish, mk, permute, bindT, bindTs, i_lst, i_tup, lo_lst, List.append_nil, Option.bind_some, Option.bind_none, Option.map_some, Option.map_none, Option.bind_eq_bind, List.getElem?_cons_zero, List.getElem?_cons_succ, List.getElem?_nil, List.set_cons_zero, List.set_cons_succ, List.length_cons, List.length_nil, List.mapM_cons, List.mapM_nil, Option.pure_def, Option.getD_some, and_self, Bool.not_true, Bool.not_false, if_true, if_false, Bool.false_eq_true, Bool.true_eq_false, reduceIte, Nat.reduceAdd, Nat.reduceLT, Nat.reduceSub, q1, q2, opCmp, hd, decide_false, truthy, mut?, put, ap]
theorem s_system (mo bo : Int) (mo0 : 0 ≤ mo) (mo9 : mo ≤ 9) (bo0 : 0 ≤ bo) (bo9 : bo ≤ 900) (k c : Nat) (h : Hs) (s : SI c rest h) (hc : c + 300 < 1000000) (m n : Nat) (hm : m ≤ 6) (hn : n ≤ 6) :
    ∃ (rs : List Rw) (h' : Hs), callN G (k + 4) 32 [.ref 1, .int m, .int n, .int mo, .int bo] h = .ret (.lst (rs.map (pvR false true))) true h' ∧ rs.length ≤ 6 ∧ (∀ r ∈ rs, OkR m r) ∧ SI (c + 100) rest h' := by
  obtain ⟨pts, h1, q1, l1, l2, s1⟩ := ints_lc (k := k + 1) (own := [11, 12]) (t := 12) (tg := .nil) (arg := .nil) (e := [.val (.ref 1), .val (.int m), .val (.int n), .val (.int mo), .val (.int bo), .no, .no, .no, .no, .no, .no, .no, .no]) 3 (by decide) (by decide) m (by omega) s (by omega) (.irng1 (.var 1)) (.call 27 [] (.cons (.var 0) (.cons (.con (.int (3))) .nil)))
    (by simp only [evS, evA, evM, evT, evL, evR, evO, evI, Out.bind, Out.noex, lift, rd, v_non, v_bl, v_int, v_str, v_lst, v_tup, v_dic, esc, finish, mk, permute, bindT, bindTs, i_lst, i_tup, lo_lst, List.append_nil, Option.bind_some, Option.bind_none, Option.map_some, Option.map_none, Option.bind_eq_bind, List.getElem?_cons_zero, List.getElem?_cons_succ, List.getElem?_nil, List.set_cons_zero, List.set_cons_succ, List.length_cons, List.length_nil, List.mapM_cons, List.mapM_nil, Option.pure_def, Option.getD_some, and_self, Bool.not_true, Bool.not_false, if_true, if_false, Bool.false_eq_true, Bool.true_eq_false, reduceIte, Nat.reduceAdd, Nat.reduceLT, Nat.reduceSub, (sml9 m).mpr (by omega)]) rfl rfl (fun i h => ⟨[.val (.ref 1), .val (.int m), .val (.int n), .val (.int mo), .val (.int bo), .no, .no, .no, .no, .no, .no, .no, .val (.int i)], rfl, rfl, by
      simp only [evS, evA, evM, evT, evL, evR, evO, evI, Out.bind, Out.noex, lift, rd, v_non, v_bl, v_int, v_str, v_lst, v_tup, v_dic, esc, finish, mk, permute, bindT, bindTs, i_lst, i_tup, lo_lst, List.append_nil, Option.bind_some, Option.bind_none, Option.map_some, Option.map_none, Option.bind_eq_bind, List.getElem?_cons_zero, List.getElem?_cons_succ, List.getElem?_nil, List.set_cons_zero, List.set_cons_succ, List.length_cons, List.length_nil, List.mapM_cons, List.mapM_nil, Option.pure_def, Option.getD_some, and_self, Bool.not_true, Bool.not_false, if_true, if_false, Bool.false_eq_true, Bool.true_eq_false, reduceIte, Nat.reduceAdd, Nat.reduceLT, Nat.reduceSub]
      cases callN G (k + 1 + 2) 27 [.ref 1, .int 3] h <;> rfl⟩)
  have p1 : evS (callN G (k + 3)) (.par 5 6 (.lst .nil) (.lc [11, 12] (.nm 12) (.irng1 (.var 1)) .nil (.one (.call 27 [] (.cons (.var 0) (.cons (.con (.int (3))) .nil)))))) [.val (.ref 1), .val (.int m), .val (.int n), .val (.int mo), .val (.int bo), .no, .no, .no, .no, .no, .no, .no, .no] h = .ok .next (sEnv mo bo m n [] (.own (.lst (pts.map .int))) .no .no .no .no .no .no) h1 := by
    simp only [evS, evA, evM, evT, evL, evR, evO, evI, Out.bind, Out.noex, lift, rd, v_non, v_bl, v_int, v_str, v_lst, v_tup, v_dic, esc, finish, mk, permute, i_lst, i_tup, lo_lst, List.append_nil, Option.bind_some, Option.bind_none, Option.map_some, Option.map_none, Option.bind_eq_bind, List.getElem?_cons_zero, List.getElem?_cons_succ, List.getElem?_nil, List.set_cons_zero, List.set_cons_succ, List.length_cons, List.length_nil, List.mapM_cons, List.mapM_nil, Option.pure_def, Option.getD_some, and_self, Bool.not_true, Bool.not_false, if_true, if_false, Bool.false_eq_true, Bool.true_eq_false, reduceIte, Nat.reduceAdd, Nat.reduceLT, Nat.reduceSub, q1, and_self, sEnv, List.map_nil]
  obtain ⟨e2, h2, q2, rs, s6, x7, x8, x9, x10, he, hl, hr, h6, s2⟩ := forLoop_run (gd := []) (f := forStep (callN G (k + 3)) (.nm 7) sysB) (xs := rngItems 0 n)
    (fun i e h => ∃ rs s6 x7 x8 x9 x10, e = sEnv mo bo m n rs s6 x7 x8 x9 x10 .no .no ∧ rs.length = i ∧ (∀ r ∈ rs, OkR m r) ∧ (s6 = .own (.lst (pts.map .int)) ∨ s6 = .val (.lst (pts.map .int))) ∧ SI (c + m + i * 10) rest h)
    (fun i x e h hx ⟨rs, s6, x7, x8, x9, x10, he, hl, hr, h6, hs⟩ => by
      obtain ⟨hin, _⟩ := rng_get n i x hx
      subst he
      obtain ⟨r, h', s6', y8, y9, y10, q, hok, h6', s'⟩ := sys_step mo bo mo0 mo9 bo0 bo9 k (c + m + i * 10) h hs (by omega) m n hm rs (by omega) pts l2 s6 x7 x8 x9 x10 .no .no h6 x
      refine ⟨.next, _, h', q, .inl rfl, rs ++ [r], s6', _, y8, y9, y10, rfl, by simp [hl], fun z hz => ?_, h6', s'.mono (by omega)⟩
      rcases List.mem_append.mp hz with hz | hz
      · exact hr z hz
      · simp at hz; subst hz; exact hok)
    (fun _ _ _ _ => rfl) (e := sEnv mo bo m n [] (.own (.lst (pts.map .int))) .no .no .no .no .no .no) (h := h1) ⟨[], _, _, _, _, _, rfl, rfl, fun r hr => by simp at hr, .inl rfl, s1.mono (by omega)⟩
  rw [rng_len] at hl s2
  refine ⟨rs, h2, ?_, by omega, hr, s2.mono (by omega)⟩
  rw [c__law_system, sys_body, seq_next p1]
  have fo : evS (callN G (k + 3)) (.for_ (.nm 7) (.irng1 (.var 2)) sysB) (sEnv mo bo m n [] (.own (.lst (pts.map .int))) .no .no .no .no .no .no) h1 = .ok .next e2 h2 := by
    rw [evS_for]
    have : evI (callN G (k + 3)) (.irng1 (.var 2)) (sEnv mo bo m n [] (.own (.lst (pts.map .int))) .no .no .no .no .no .no) h1 = .ok (rngItems 0 n, []) (sEnv mo bo m n [] (.own (.lst (pts.map .int))) .no .no .no .no .no .no) h1 := by
      unfold sEnv; simp only [evS, evA, evM, evT, evL, evR, evO, evI, Out.bind, Out.noex, lift, rd, v_non, v_bl, v_int, v_str, v_lst, v_tup, v_dic, esc, finish, mk, permute, bindT, bindTs, i_lst, i_tup, lo_lst, List.append_nil, Option.bind_some, Option.bind_none, Option.map_some, Option.map_none, Option.bind_eq_bind, List.getElem?_cons_zero, List.getElem?_cons_succ, List.getElem?_nil, List.set_cons_zero, List.set_cons_succ, List.length_cons, List.length_nil, List.mapM_cons, List.mapM_nil, Option.pure_def, Option.getD_some, and_self, Bool.not_true, Bool.not_false, if_true, if_false, Bool.false_eq_true, Bool.true_eq_false, reduceIte, Nat.reduceAdd, Nat.reduceLT, Nat.reduceSub, (sml9 n).mpr (by omega)]
    rw [this, bind_okE, q2]
  rw [seq_next fo, he]
  unfold sEnv
  simp only [evS, evA, evM, evT, evL, evR, evO, evI, Out.bind, Out.noex, lift, rd, v_non, v_bl, v_int, v_str, v_lst, v_tup, v_dic, esc, finish, mk, permute, bindT, bindTs, i_lst, i_tup, lo_lst, List.append_nil, Option.bind_some, Option.bind_none, Option.map_some, Option.map_none, Option.bind_eq_bind, List.getElem?_cons_zero, List.getElem?_cons_succ, List.getElem?_nil, List.set_cons_zero, List.set_cons_succ, List.length_cons, List.length_nil, List.mapM_cons, List.mapM_nil, Option.pure_def, Option.getD_some, and_self, Bool.not_true, Bool.not_false, if_true, if_false, Bool.false_eq_true, Bool.true_eq_false, reduceIte, Nat.reduceAdd, Nat.reduceLT, Nat.reduceSub]
end K02

namespace K02
open PL
open PySem (Str)
variable {rest : Hs}
theorem loose_system (k c : Nat) (rs : List Rw) (h : Hs) (s : SI c rest h) (hc : c + 100 < 1000000) (m : Nat) (hm : m ≤ 100) (hn : rs.length ≤ 6) (hr : ∀ r ∈ rs, r.ns.length = m) :
    ∃ t l h', callN G (k + 4) 26 [.ref 1, .lst (rs.map (pvR false true))] h = .ret (pvS t l) t h' ∧ rws l = rs ∧ SI (c + 30) rest h' := by
  obtain ⟨t, ys, h', q, f, s'⟩ := loose_node (k + 2) c 4 true (rs.map (pvR false true)) h s 50 (by omega) (by rw [List.length_map]; omega) (by rw [List.length_map]; exact Nat.le_trans hn (by decide)) (fun x y => ∃ r t u, x = pvR false true r ∧ y = pvR t u r) (fun x hx c' h' s' hc' => by
    obtain ⟨r, hr', rfl⟩ := List.mem_map.mp hx
    obtain ⟨t, u, h2, q, s2⟩ := loose_row k c' r h' s' hc' (by rw [hr r hr']; exact Nat.le_trans hm line100)
    exact ⟨_, _, _, q, ⟨r, t, u, rfl, rfl⟩, s2⟩)
  have key : ∀ {rs : List Rw} {ys : List PV}, F2 (fun x y => ∃ r t u, x = pvR false true r ∧ y = pvR t u r) (rs.map (pvR false true)) ys → ∃ l : List (Bool × Bool × Rw), ys = l.map (fun z => pvR z.1 z.2.1 z.2.2) ∧ rws l = rs := by
    intro rs
    induction rs with
    | nil => intro ys f; cases f; exact ⟨[], rfl, rfl⟩
    | cons r rs ih =>
      intro ys f
      cases f with
      | cons a f =>
        obtain ⟨l, e1, e2⟩ := ih f
        obtain ⟨r', t, u, e3, e4⟩ := a
        have er : r' = r := by
          have h1 : pvR false true r = pvR false true r' := e3
          cases r with
          | mk a b c =>
            cases r' with
            | mk a' b' c' =>
              simp [pvR, sq] at h1
              obtain ⟨h1, h2, h3⟩ := h1
              have i1 : a' = a := by
                have := List.map_inj_right (f := PV.int) (fun x y hxy => by cases hxy; rfl) |>.mp h1
                exact this.symm
              have i2 : b' = b := by
                cases b <;> cases b' <;> first | rfl | (exfalso; revert h2; decide +kernel)
              rw [i1, i2, h3]
        subst er
        exact ⟨(t, u, r') :: l, by rw [e4, e1]; rfl, by show r' :: rws l = _; rw [e2]⟩
  obtain ⟨l, e1, e2⟩ := key f
  refine ⟨t, l, h', ?_, e2, s'.mono (by rw [List.length_map]; omega)⟩
  rw [e1] at q
  exact q
end K02

namespace K02
open PL
open PySem (Str)
mutual
theorem pvEq_refl : ∀ x : PV, pvEq x x = true
  | .non => rfl
  | .bl b => by simp [pvEq]
  | .int i => by simp [pvEq]
  | .str s => by simp [pvEq]
  | .ty n => by simp [pvEq]
  | .fn f => by simp [pvEq]
  | .ref n => by simp [pvEq]
  | .scr xs => by simp only [pvEq]; exact pvsEq_refl xs
  | .lst xs => by simp only [pvEq]; exact pvsEq_refl xs
  | .tup xs => by simp only [pvEq]; exact pvsEq_refl xs
  | .dic ks xs => by simp only [pvEq, pvsEq_refl xs]; simp
theorem pvsEq_refl : ∀ xs : List PV, pvsEq xs xs = true
  | [] => rfl
  | x :: xs => by simp only [pvsEq, pvEq_refl x, pvsEq_refl xs, Bool.and_self]
end
theorem gd1_ok {h : Hs} {n : Nat} {xs : List PV} (q : h[n]? = some (.lst xs)) : gdOk [(n, xs)] h = true := by
  simp [gdOk, gd1, q, pvsEq_refl]
end K02

namespace K02
open PL
open PySem (Str)
/-- in heap h, p is the pure tree t -/
inductive Rp (h : Hs) : Nat → PV → PV → Prop
  | int (d : Nat) (i : Int) : Rp h d (.int i) (.int i)
  | bl (d : Nat) (b : Bool) : Rp h d (.bl b) (.bl b)
  | non (d : Nat) : Rp h d .non .non
  | str (d : Nat) (s : Str) (ok : okD (.str s) = true) : Rp h d (.str s) (.str s)
  | lst {d : Nat} {xs ys : List PV} (l : xs.length = ys.length) (hl : xs.length ≤ line) (e : ∀ (i : Nat) (x y : PV), xs[i]? = some x → ys[i]? = some y → Rp h d x y) : Rp h (d + 1) (.lst xs) (.lst ys)
  | tup {d : Nat} {xs ys : List PV} (l : xs.length = ys.length) (hl : xs.length ≤ line) (e : ∀ (i : Nat) (x y : PV), xs[i]? = some x → ys[i]? = some y → Rp h d x y) : Rp h (d + 1) (.tup xs) (.tup ys)
  | ref {d n : Nat} {xs ys : List PV} (hn : h[n]? = some (.lst xs)) (l : xs.length = ys.length) (hl : xs.length ≤ line) (e : ∀ (i : Nat) (x y : PV), xs[i]? = some x → ys[i]? = some y → Rp h d x y) : Rp h (d + 1) (.ref n) (.lst ys)
theorem zip_get {xs ys : List PV} {p : PV} (h : p ∈ zipItems xs ys) : ∃ (i : Nat) (x y : PV), xs[i]? = some x ∧ ys[i]? = some y ∧ p = .tup [x, y] := by
  obtain ⟨i, hi⟩ := List.getElem?_of_mem h
  obtain ⟨q, r, h1, h2, h3⟩ := zip_at hi
  exact ⟨i, q, r, h1, h2, h3⟩
theorem same_lc (C : Calls) (h : Hs) (x y : PV) (xs ys : List PV) (gd : Gd) (hx : lstOf h x = some (xs, gd)) (hy : y = .lst ys) (hg : gdOk gd h = true) (l : xs.length = ys.length) (hl : xs.length ≤ line)
    (e : ∀ (i : Nat) (x y : PV), xs[i]? = some x → ys[i]? = some y → C 23 [x, y] h = .ret (.bl true) false h) (hv : ∀ p, x ≠ .tup p) :
    evA C (.lc [2, 3, 4] (.tp (.cons (.nm 3) (.cons (.nm 4) .nil))) (.izip (.var 0) (.var 1)) .nil (.one (.call 23 [] (.cons (.var 3) (.cons (.var 4) .nil))))) [.val x, .val y, .no, .no, .no] h = .ok (.v (.lst (List.replicate xs.length (.bl true))) true) [.val x, .val y, .no, .no, .no] h := by
  subst hy
  have hzl : (zipItems xs ys).length = xs.length := by rw [PL.zip_len]; omega
  have lc := lc_map (gd := gd) (C := C) (own := [2, 3, 4]) (tg := .tp (.cons (.nm 3) (.cons (.nm 4) .nil))) (it := .izip (.var 0) (.var 1)) (body := .one (.call 23 [] (.cons (.var 3) (.cons (.var 4) .nil)))) (e := [.val x, .val (.lst ys), .no, .no, .no]) (e1 := [.val x, .val (.lst ys), .no, .no, .no]) (h := h) (h1 := h) (xs := zipItems xs ys)
    (by cases x <;> simp only [lstOf] at hx <;> first | (cases hx; done) | simp only [evS, evA, evM, evT, evL, evR, evO, evI, Out.bind, Out.noex, lift, rd, v_non, v_bl, v_int, v_str, v_lst, v_tup, v_dic, esc, finish, mk, permute, bindT, bindTs, i_lst, i_tup, lo_lst, List.append_nil, Option.bind_some, Option.bind_none, Option.map_some, Option.map_none, Option.bind_eq_bind, List.getElem?_cons_zero, List.getElem?_cons_succ, List.getElem?_nil, List.set_cons_zero, List.set_cons_succ, List.length_cons, List.length_nil, List.mapM_cons, List.mapM_nil, Option.pure_def, Option.getD_some, and_self, Bool.not_true, Bool.not_false, if_true, if_false, Bool.false_eq_true, Bool.true_eq_false, reduceIte, Nat.reduceAdd, Nat.reduceLT, Nat.reduceSub, lstOf, hx]) hg (fun _ => .bl true) [.val x, .val (.lst ys), .no, .no, .no] rfl (by rw [hzl]; exact hl) (fun p hp => by
      obtain ⟨i, a, b, h1, h2, rfl⟩ := zip_get hp
      refine ⟨[.val x, .val (.lst ys), .no, .val a, .val b], ?_, rfl⟩
      rw [lcStep_nil (e' := [.val x, .val (.lst ys), .no, .val a, .val b]) rfl]
      simp only [evS, evA, evM, evT, evL, evR, evO, evI, Out.bind, Out.noex, lift, rd, v_non, v_bl, v_int, v_str, v_lst, v_tup, v_dic, esc, finish, mk, permute, bindT, bindTs, i_lst, i_tup, lo_lst, List.append_nil, Option.bind_some, Option.bind_none, Option.map_some, Option.map_none, Option.bind_eq_bind, List.getElem?_cons_zero, List.getElem?_cons_succ, List.getElem?_nil, List.set_cons_zero, List.set_cons_succ, List.length_cons, List.length_nil, List.mapM_cons, List.mapM_nil, Option.pure_def, Option.getD_some, and_self, Bool.not_true, Bool.not_false, if_true, if_false, Bool.false_eq_true, Bool.true_eq_false, reduceIte, Nat.reduceAdd, Nat.reduceLT, Nat.reduceSub, e i a b h1 h2])
  rw [lc]
  have hm : (zipItems xs ys).map (fun _ => PV.bl true) = List.replicate xs.length (.bl true) := by rw [← hzl]; exact List.map_const' ..
  rw [hm]; rfl
end K02

namespace K02
open PL
open PySem (Str)
theorem leaf_same (d : Nat) (x : PV) (k : Nat) (h : Hs) (hd : Dat 0 x) : callN G (k + d + 1) 23 [x, x] h = .ret (.bl true) false h := s_same 0 x (k + d) h hd
theorem same_lcT (C : Calls) (h : Hs) (xs ys : List PV) (l : xs.length = ys.length) (hl : xs.length ≤ line)
    (e : ∀ (i : Nat) (x y : PV), xs[i]? = some x → ys[i]? = some y → C 23 [x, y] h = .ret (.bl true) false h) :
    evA C (.lc [2, 3, 4] (.tp (.cons (.nm 3) (.cons (.nm 4) .nil))) (.izip (.var 0) (.var 1)) .nil (.one (.call 23 [] (.cons (.var 3) (.cons (.var 4) .nil))))) [.val (.tup xs), .val (.tup ys), .no, .no, .no] h = .ok (.v (.lst (List.replicate xs.length (.bl true))) true) [.val (.tup xs), .val (.tup ys), .no, .no, .no] h := by
  have hzl : (zipItems xs ys).length = xs.length := by rw [PL.zip_len]; omega
  have lc := lc_map (gd := []) (C := C) (own := [2, 3, 4]) (tg := .tp (.cons (.nm 3) (.cons (.nm 4) .nil))) (it := .izip (.var 0) (.var 1)) (body := .one (.call 23 [] (.cons (.var 3) (.cons (.var 4) .nil)))) (e := [.val (.tup xs), .val (.tup ys), .no, .no, .no]) (e1 := [.val (.tup xs), .val (.tup ys), .no, .no, .no]) (h := h) (h1 := h) (xs := zipItems xs ys)
    (by simp only [evS, evA, evM, evT, evL, evR, evO, evI, Out.bind, Out.noex, lift, rd, v_non, v_bl, v_int, v_str, v_lst, v_tup, v_dic, esc, finish, mk, permute, bindT, bindTs, i_lst, i_tup, lo_lst, List.append_nil, Option.bind_some, Option.bind_none, Option.map_some, Option.map_none, Option.bind_eq_bind, List.getElem?_cons_zero, List.getElem?_cons_succ, List.getElem?_nil, List.set_cons_zero, List.set_cons_succ, List.length_cons, List.length_nil, List.mapM_cons, List.mapM_nil, Option.pure_def, Option.getD_some, and_self, Bool.not_true, Bool.not_false, if_true, if_false, Bool.false_eq_true, Bool.true_eq_false, reduceIte, Nat.reduceAdd, Nat.reduceLT, Nat.reduceSub]) rfl (fun _ => .bl true) [.val (.tup xs), .val (.tup ys), .no, .no, .no] rfl (by rw [hzl]; exact hl) (fun p hp => by
      obtain ⟨i, a, b, h1, h2, rfl⟩ := zip_get hp
      refine ⟨[.val (.tup xs), .val (.tup ys), .no, .val a, .val b], ?_, rfl⟩
      rw [lcStep_nil (e' := [.val (.tup xs), .val (.tup ys), .no, .val a, .val b]) rfl]
      simp only [evS, evA, evM, evT, evL, evR, evO, evI, Out.bind, Out.noex, lift, rd, v_non, v_bl, v_int, v_str, v_lst, v_tup, v_dic, esc, finish, mk, permute, bindT, bindTs, i_lst, i_tup, lo_lst, List.append_nil, Option.bind_some, Option.bind_none, Option.map_some, Option.map_none, Option.bind_eq_bind, List.getElem?_cons_zero, List.getElem?_cons_succ, List.getElem?_nil, List.set_cons_zero, List.set_cons_succ, List.length_cons, List.length_nil, List.mapM_cons, List.mapM_nil, Option.pure_def, Option.getD_some, and_self, Bool.not_true, Bool.not_false, if_true, if_false, Bool.false_eq_true, Bool.true_eq_false, reduceIte, Nat.reduceAdd, Nat.reduceLT, Nat.reduceSub, e i a b h1 h2])
  rw [lc]
  have hm : (zipItems xs ys).map (fun _ => PV.bl true) = List.replicate xs.length (.bl true) := by rw [← hzl]; exact List.map_const' ..
  rw [hm]; rfl
theorem s_sameR : ∀ (d : Nat) (p t : PV) (k : Nat) (h : Hs), Rp h d p t → callN G (k + d + 1) 23 [p, t] h = .ret (.bl true) false h := by
  intro d
  induction d with
  | zero =>
    intro p t k h r
    cases r with
    | int i => exact leaf_same 0 _ k h trivial
    | bl b => exact leaf_same 0 _ k h trivial
    | non => exact leaf_same 0 _ k h trivial
    | str _ s ok => exact leaf_same 0 _ k h ok
  | succ d ih =>
    intro p t k h r
    cases r with
    | int i => exact leaf_same (d + 1) _ k h trivial
    | bl b => exact leaf_same (d + 1) _ k h trivial
    | non => exact leaf_same (d + 1) _ k h trivial
    | str _ s ok => exact leaf_same (d + 1) _ k h ok
    | lst l hl e =>
      rename_i xs ys
      have lc := same_lc (callN G (k + d + 1)) h (.lst xs) (.lst ys) xs ys [] rfl rfl rfl l hl (fun i x y h1 h2 => ih x y k h (e i x y h1 h2)) (fun p hp => by cases hp)
      have o1 : opB .len [.lst xs] = some (.int xs.length, false) := rfl
      have o2 : opB .len [.lst ys] = some (.int xs.length, false) := by rw [l]; rfl
      show callN G ((k + d + 1) + 1) 23 [.lst xs, .lst ys] h = _
      rw [c__law_same, b__law_same]
      simp only [evS, evA, evM, evT, evL, evR, evO, evI, Out.bind, Out.noex, lift, rd, v_non, v_bl, v_int, v_str, v_lst, v_tup, v_dic, esc, finish, mk, permute, i_lst, i_tup, lo_lst, List.append_nil, Option.bind_some, Option.bind_none, Option.map_some, Option.map_none, Option.bind_eq_bind, List.getElem?_cons_zero, List.getElem?_cons_succ, List.getElem?_nil, List.set_cons_zero, List.set_cons_succ, List.length_cons, List.length_nil, List.mapM_cons, List.mapM_nil, Option.pure_def, Option.getD_some, and_self, Bool.not_true, Bool.not_false, if_true, if_false, Bool.false_eq_true, Bool.true_eq_false, reduceIte, Nat.reduceAdd, Nat.reduceLT, Nat.reduceSub, typeName, i3, i6, i9, truthy, opCmp, eqb, nne, o1, o2, eqi, beq_self_eq_true, lc, all_true]
    | tup l hl e =>
      rename_i xs ys
      have lc := same_lcT (callN G (k + d + 1)) h xs ys l hl (fun i x y h1 h2 => ih x y k h (e i x y h1 h2))
      have o1 : opB .len [.tup xs] = some (.int xs.length, false) := rfl
      have o2 : opB .len [.tup ys] = some (.int xs.length, false) := by rw [l]; rfl
      show callN G ((k + d + 1) + 1) 23 [.tup xs, .tup ys] h = _
      rw [c__law_same, b__law_same]
      simp only [evS, evA, evM, evT, evL, evR, evO, evI, Out.bind, Out.noex, lift, rd, v_non, v_bl, v_int, v_str, v_lst, v_tup, v_dic, esc, finish, mk, permute, i_lst, i_tup, lo_lst, List.append_nil, Option.bind_some, Option.bind_none, Option.map_some, Option.map_none, Option.bind_eq_bind, List.getElem?_cons_zero, List.getElem?_cons_succ, List.getElem?_nil, List.set_cons_zero, List.set_cons_succ, List.length_cons, List.length_nil, List.mapM_cons, List.mapM_nil, Option.pure_def, Option.getD_some, and_self, Bool.not_true, Bool.not_false, if_true, if_false, Bool.false_eq_true, Bool.true_eq_false, reduceIte, Nat.reduceAdd, Nat.reduceLT, Nat.reduceSub, typeName, i4, i7, i8, truthy, opCmp, eqb, nne, o1, o2, eqi, beq_self_eq_true, lc, all_true]
    | ref hn l hl e =>
      rename_i n xs ys
      have lc := same_lc (callN G (k + d + 1)) h (.ref n) (.lst ys) xs ys [(n, xs)] (by simp only [lstOf, hn]) rfl (gd1_ok hn) l hl (fun i x y h1 h2 => ih x y k h (e i x y h1 h2)) (fun p hp => by cases hp)
      have o1 : opB .len [.lst xs] = some (.int xs.length, false) := rfl
      have o2 : opB .len [.lst ys] = some (.int xs.length, false) := by rw [l]; rfl
      have vr : view h (.ref n) = .lst xs := by simp only [view, hn]
      show callN G ((k + d + 1) + 1) 23 [.ref n, .lst ys] h = _
      rw [c__law_same, b__law_same]
      simp only [evS, evA, evM, evT, evL, evR, evO, evI, Out.bind, Out.noex, lift, rd, v_non, v_bl, v_int, v_str, v_lst, v_tup, v_dic, esc, finish, mk, permute, i_lst, i_tup, lo_lst, List.append_nil, Option.bind_some, Option.bind_none, Option.map_some, Option.map_none, Option.bind_eq_bind, List.getElem?_cons_zero, List.getElem?_cons_succ, List.getElem?_nil, List.set_cons_zero, List.set_cons_succ, List.length_cons, List.length_nil, List.mapM_cons, List.mapM_nil, Option.pure_def, Option.getD_some, and_self, Bool.not_true, Bool.not_false, if_true, if_false, Bool.false_eq_true, Bool.true_eq_false, reduceIte, Nat.reduceAdd, Nat.reduceLT, Nat.reduceSub, vr, typeName, i3, i6, i9, truthy, opCmp, eqb, nne, o1, o2, eqi, beq_self_eq_true, lc, all_true]
end K02

namespace K02
open PL
open PySem (Str)
theorem ite_yes {C : Calls} {c : Ex} {a b : Sm} {e e1 : Env} {h h1 : Hs} (q : evT C c e h = .ok true e1 h1) : evS C (.ite c a b) e h = evS C a e1 h1 := by simp only [evS, q, bind_okE, if_true]
theorem ite_no {C : Calls} {c : Ex} {a b : Sm} {e e1 : Env} {h h1 : Hs} (q : evT C c e h = .ok false e1 h1) : evS C (.ite c a b) e h = evS C b e1 h1 := by simp only [evS, q, bind_okE, Bool.false_eq_true, if_false]
def spB : Sm := (.expr (.call 24 [] (.cons (.var 1) .nil)))
theorem sp_body : b__law_spoilt = (.seq (.ite (.isi (.var 0) ["list", "tuple"]) (.for_ (.nm 1) (.iseq (.var 0)) spB) .skip) (.ite (.isi (.var 0) ["list"]) (.expr (.meth .append (.var 0) (.cons (.con (.str "late")) .nil))) .skip)) := rfl
theorem sp_int (k : Nat) (i : Int) (h : Hs) : callN G (k + 1) 24 [.int i] h = .ret .non false h := by
  rw [c__law_spoilt, sp_body]
  have e1 : evS (callN G k) (.ite (.isi (.var 0) ["list", "tuple"]) (.for_ (.nm 1) (.iseq (.var 0)) spB) .skip) [.val (.int i), .no] h = .ok .next [.val (.int i), .no] h := by
    rw [ite_no (e1 := [.val (.int i), .no]) (h1 := h) (by simp only [evS, evA, evM, evT, evL, evR, evO, evI, Out.bind, Out.noex, lift, rd, v_non, v_bl, v_int, v_str, v_lst, v_tup, v_dic, esc, finish, mk, permute, i_lst, i_tup, lo_lst, List.append_nil, Option.bind_some, Option.bind_none, Option.map_some, Option.map_none, Option.bind_eq_bind, List.getElem?_cons_zero, List.getElem?_cons_succ, List.getElem?_nil, List.set_cons_zero, List.set_cons_succ, List.length_cons, List.length_nil, List.mapM_cons, List.mapM_nil, Option.pure_def, Option.getD_some, and_self, Bool.not_true, Bool.not_false, if_true, if_false, Bool.false_eq_true, Bool.true_eq_false, reduceIte, Nat.reduceAdd, Nat.reduceLT, Nat.reduceSub, typeName, y1, truthy])]; simp only [evS]
  rw [seq_next e1, ite_no (e1 := [.val (.int i), .no]) (h1 := h) (by simp only [evS, evA, evM, evT, evL, evR, evO, evI, Out.bind, Out.noex, lift, rd, v_non, v_bl, v_int, v_str, v_lst, v_tup, v_dic, esc, finish, mk, permute, i_lst, i_tup, lo_lst, List.append_nil, Option.bind_some, Option.bind_none, Option.map_some, Option.map_none, Option.bind_eq_bind, List.getElem?_cons_zero, List.getElem?_cons_succ, List.getElem?_nil, List.set_cons_zero, List.set_cons_succ, List.length_cons, List.length_nil, List.mapM_cons, List.mapM_nil, Option.pure_def, Option.getD_some, and_self, Bool.not_true, Bool.not_false, if_true, if_false, Bool.false_eq_true, Bool.true_eq_false, reduceIte, Nat.reduceAdd, Nat.reduceLT, Nat.reduceSub, typeName, show isAny "int" ["list"] = false by decide, truthy])]
  simp only [evS, finish]
theorem sp_str (k : Nat) (i : Str) (h : Hs) : callN G (k + 1) 24 [.str i] h = .ret .non false h := by
  rw [c__law_spoilt, sp_body]
  have e1 : evS (callN G k) (.ite (.isi (.var 0) ["list", "tuple"]) (.for_ (.nm 1) (.iseq (.var 0)) spB) .skip) [.val (.str i), .no] h = .ok .next [.val (.str i), .no] h := by
    rw [ite_no (e1 := [.val (.str i), .no]) (h1 := h) (by simp only [evS, evA, evM, evT, evL, evR, evO, evI, Out.bind, Out.noex, lift, rd, v_non, v_bl, v_int, v_str, v_lst, v_tup, v_dic, esc, finish, mk, permute, i_lst, i_tup, lo_lst, List.append_nil, Option.bind_some, Option.bind_none, Option.map_some, Option.map_none, Option.bind_eq_bind, List.getElem?_cons_zero, List.getElem?_cons_succ, List.getElem?_nil, List.set_cons_zero, List.set_cons_succ, List.length_cons, List.length_nil, List.mapM_cons, List.mapM_nil, Option.pure_def, Option.getD_some, and_self, Bool.not_true, Bool.not_false, if_true, if_false, Bool.false_eq_true, Bool.true_eq_false, reduceIte, Nat.reduceAdd, Nat.reduceLT, Nat.reduceSub, typeName, y4, truthy])]; simp only [evS]
  rw [seq_next e1, ite_no (e1 := [.val (.str i), .no]) (h1 := h) (by simp only [evS, evA, evM, evT, evL, evR, evO, evI, Out.bind, Out.noex, lift, rd, v_non, v_bl, v_int, v_str, v_lst, v_tup, v_dic, esc, finish, mk, permute, i_lst, i_tup, lo_lst, List.append_nil, Option.bind_some, Option.bind_none, Option.map_some, Option.map_none, Option.bind_eq_bind, List.getElem?_cons_zero, List.getElem?_cons_succ, List.getElem?_nil, List.set_cons_zero, List.set_cons_succ, List.length_cons, List.length_nil, List.mapM_cons, List.mapM_nil, Option.pure_def, Option.getD_some, and_self, Bool.not_true, Bool.not_false, if_true, if_false, Bool.false_eq_true, Bool.true_eq_false, reduceIte, Nat.reduceAdd, Nat.reduceLT, Nat.reduceSub, typeName, show isAny "str" ["list"] = false by decide, truthy])]
  simp only [evS, finish]
end K02

namespace K02
open PL
open PySem (Str)
theorem sp_cell (k n : Nat) (l : List Int) (h : Hs) (hn : h[n]? = some (.lst (l.map .int))) (hl : l.length < line) : callN G (k + 2) 24 [.ref n] h = .ret .non false (h.set n (.lst (l.map .int ++ [.str "late"]))) := by
  have vr : view h (.ref n) = .lst (l.map .int) := by simp only [view, hn]
  obtain ⟨e', h', q, x1, he, hh⟩ := forLoop_run (gd := [(n, l.map .int)]) (f := forStep (callN G (k + 1)) (.nm 1) spB) (xs := l.map .int)
    (fun i e h' => ∃ x1 : SV, e = [.val (.ref n), x1] ∧ h' = h)
    (fun i x e h' hx ⟨x1, he, hh⟩ => by
      subst he; subst hh
      obtain ⟨j, _, rfl⟩ := List.mem_map.mp (List.mem_of_getElem? hx)
      refine ⟨.next, [.val (.ref n), .val (.int j)], h', ?_, .inl rfl, _, rfl, rfl⟩
      unfold forStep spB
      simp only [evS, evA, evM, evT, evL, evR, evO, evI, Out.bind, Out.noex, lift, rd, v_non, v_bl, v_int, v_str, v_lst, v_tup, v_dic, esc, finish, mk, permute, bindT, bindTs, i_lst, i_tup, lo_lst, List.append_nil, Option.bind_some, Option.bind_none, Option.map_some, Option.map_none, Option.bind_eq_bind, List.getElem?_cons_zero, List.getElem?_cons_succ, List.getElem?_nil, List.set_cons_zero, List.set_cons_succ, List.length_cons, List.length_nil, List.mapM_cons, List.mapM_nil, Option.pure_def, Option.getD_some, and_self, Bool.not_true, Bool.not_false, if_true, if_false, Bool.false_eq_true, Bool.true_eq_false, reduceIte, Nat.reduceAdd, Nat.reduceLT, Nat.reduceSub, sp_int k])
    (fun i e h' ⟨x1, he, hh⟩ => by rw [hh]; exact gd1_ok hn) (e := [.val (.ref n), .no]) (h := h) ⟨.no, rfl, rfl⟩
  have e1 : evS (callN G (k + 1)) (.ite (.isi (.var 0) ["list", "tuple"]) (.for_ (.nm 1) (.iseq (.var 0)) spB) .skip) [.val (.ref n), .no] h = .ok .next [.val (.ref n), x1] h := by
    rw [ite_yes (e1 := [.val (.ref n), .no]) (h1 := h) (by simp only [evS, evA, evM, evT, evL, evR, evO, evI, Out.bind, Out.noex, lift, rd, v_non, v_bl, v_int, v_str, v_lst, v_tup, v_dic, esc, finish, mk, permute, i_lst, i_tup, lo_lst, List.append_nil, Option.bind_some, Option.bind_none, Option.map_some, Option.map_none, Option.bind_eq_bind, List.getElem?_cons_zero, List.getElem?_cons_succ, List.getElem?_nil, List.set_cons_zero, List.set_cons_succ, List.length_cons, List.length_nil, List.mapM_cons, List.mapM_nil, Option.pure_def, Option.getD_some, and_self, Bool.not_true, Bool.not_false, if_true, if_false, Bool.false_eq_true, Bool.true_eq_false, reduceIte, Nat.reduceAdd, Nat.reduceLT, Nat.reduceSub, vr, typeName, i3, truthy]), evS_for]
    have : evI (callN G (k + 1)) (.iseq (.var 0)) [.val (.ref n), .no] h = .ok (l.map .int, [(n, l.map .int)]) [.val (.ref n), .no] h := by simp only [evS, evA, evM, evT, evL, evR, evO, evI, Out.bind, Out.noex, lift, rd, v_non, v_bl, v_int, v_str, v_lst, v_tup, v_dic, esc, finish, mk, permute, i_lst, i_tup, lo_lst, List.append_nil, Option.bind_some, Option.bind_none, Option.map_some, Option.map_none, Option.bind_eq_bind, List.getElem?_cons_zero, List.getElem?_cons_succ, List.getElem?_nil, List.set_cons_zero, List.set_cons_succ, List.length_cons, List.length_nil, List.mapM_cons, List.mapM_nil, Option.pure_def, Option.getD_some, and_self, Bool.not_true, Bool.not_false, if_true, if_false, Bool.false_eq_true, Bool.true_eq_false, reduceIte, Nat.reduceAdd, Nat.reduceLT, Nat.reduceSub, seqOf, lstOf, hn]
    rw [this, bind_okE, q, he, hh]
  have ap : opM .append (l.map .int) [.str "late"] = some (.non, l.map .int ++ [.str "late"]) := by simp [opM, hl]
  rw [c__law_spoilt, sp_body, seq_next e1, ite_yes (e1 := [.val (.ref n), x1]) (h1 := h) (by simp only [evS, evA, evM, evT, evL, evR, evO, evI, Out.bind, Out.noex, lift, rd, v_non, v_bl, v_int, v_str, v_lst, v_tup, v_dic, esc, finish, mk, permute, i_lst, i_tup, lo_lst, List.append_nil, Option.bind_some, Option.bind_none, Option.map_some, Option.map_none, Option.bind_eq_bind, List.getElem?_cons_zero, List.getElem?_cons_succ, List.getElem?_nil, List.set_cons_zero, List.set_cons_succ, List.length_cons, List.length_nil, List.mapM_cons, List.mapM_nil, Option.pure_def, Option.getD_some, and_self, Bool.not_true, Bool.not_false, if_true, if_false, Bool.false_eq_true, Bool.true_eq_false, reduceIte, Nat.reduceAdd, Nat.reduceLT, Nat.reduceSub, vr, typeName, i6, truthy])]
  simp only [evS, evA, evM, evT, evL, evR, evO, evI, Out.bind, Out.noex, lift, rd, v_non, v_bl, v_int, v_str, v_lst, v_tup, v_dic, esc, finish, mk, permute, i_lst, i_tup, lo_lst, List.append_nil, Option.bind_some, Option.bind_none, Option.map_some, Option.map_none, Option.bind_eq_bind, List.getElem?_cons_zero, List.getElem?_cons_succ, List.getElem?_nil, List.set_cons_zero, List.set_cons_succ, List.length_cons, List.length_nil, List.mapM_cons, List.mapM_nil, Option.pure_def, Option.getD_some, and_self, Bool.not_true, Bool.not_false, if_true, if_false, Bool.false_eq_true, Bool.true_eq_false, reduceIte, Nat.reduceAdd, Nat.reduceLT, Nat.reduceSub, mut?, hn, ap, put]
end K02

namespace K02
open PL
open PySem (Str)
variable {rest : Hs}
theorem s_told (k : Nat) (t : Bool) (r : Rw) (h : Hs) : callN G (k + 1) 12 [pvR false t r] h = .ret (.tup [.ref h.length, .str (wd r.eq), .int r.b]) false (h ++ [.lst (r.ns.map .int)]) := by
  rw [c_told_line, b_told_line]
  simp only [evS, evA, evM, evT, evL, evR, evO, evI, Out.bind, Out.noex, lift, rd, v_non, v_bl, v_int, v_str, v_lst, v_tup, v_dic, esc, finish, mk, permute, bindT, bindTs, i_lst, i_tup, lo_lst, List.append_nil, Option.bind_some, Option.bind_none, Option.map_some, Option.map_none, Option.bind_eq_bind, List.getElem?_cons_zero, List.getElem?_cons_succ, List.getElem?_nil, List.set_cons_zero, List.set_cons_succ, List.length_cons, List.length_nil, List.mapM_cons, List.mapM_nil, Option.pure_def, Option.getD_some, and_self, Bool.not_true, Bool.not_false, if_true, if_false, Bool.false_eq_true, Bool.true_eq_false, reduceIte, Nat.reduceAdd, Nat.reduceLT, Nat.reduceSub, view_R, p0, p1, p2, lst_sq, view_sq]
/-- rows told, their numbers in cells from n on -/
def toldL (n : Nat) : List Rw → List PV
  | [] => []
  | r :: rs => .tup [.ref n, .str (wd r.eq), .int r.b] :: toldL (n + 1) rs
def cellsL (rs : List Rw) : Hs := rs.map fun r => Cell.lst (r.ns.map .int)
theorem toldL_snoc (r : Rw) : ∀ (rs : List Rw) (n : Nat), toldL n (rs ++ [r]) = toldL n rs ++ [.tup [.ref (n + rs.length), .str (wd r.eq), .int r.b]]
  | [], n => by simp [toldL]
  | x :: rs, n => by
    have e : n + 1 + rs.length = n + (rs.length + 1) := by omega
    simp only [List.cons_append, toldL, toldL_snoc r rs (n + 1), List.length_cons, e]
/-- a told row: its numbers in a cell -/
theorem sp_tup (k a : Nat) (w : Str) (b : Int) (l : List Int) (h : Hs) (hn : h[a]? = some (.lst (l.map .int))) (hl : l.length < line) : callN G (k + 3) 24 [.tup [.ref a, .str w, .int b]] h = .ret .non false (h.set a (.lst (l.map .int ++ [.str "late"]))) := by
  have c1 := sp_cell k a l h hn hl
  have f : forLoop [] (forStep (callN G (k + 2)) (.nm 1) spB) [.ref a, .str w, .int b] [.val (.tup [.ref a, .str w, .int b]), .no] h = .ok .next [.val (.tup [.ref a, .str w, .int b]), .val (.int b)] (h.set a (.lst (l.map .int ++ [.str "late"]))) := by
    have s1 : forStep (callN G (k + 2)) (.nm 1) spB (.ref a) [.val (.tup [.ref a, .str w, .int b]), .no] h = .ok .next [.val (.tup [.ref a, .str w, .int b]), .val (.ref a)] (h.set a (.lst (l.map .int ++ [.str "late"]))) := by
      unfold forStep spB; simp only [evS, evA, evM, evT, evL, evR, evO, evI, Out.bind, Out.noex, lift, rd, v_non, v_bl, v_int, v_str, v_lst, v_tup, v_dic, esc, finish, mk, permute, bindT, bindTs, i_lst, i_tup, lo_lst, List.append_nil, Option.bind_some, Option.bind_none, Option.map_some, Option.map_none, Option.bind_eq_bind, List.getElem?_cons_zero, List.getElem?_cons_succ, List.getElem?_nil, List.set_cons_zero, List.set_cons_succ, List.length_cons, List.length_nil, List.mapM_cons, List.mapM_nil, Option.pure_def, Option.getD_some, and_self, Bool.not_true, Bool.not_false, if_true, if_false, Bool.false_eq_true, Bool.true_eq_false, reduceIte, Nat.reduceAdd, Nat.reduceLT, Nat.reduceSub, c1]
    have s2 : forStep (callN G (k + 2)) (.nm 1) spB (.str w) [.val (.tup [.ref a, .str w, .int b]), .val (.ref a)] (h.set a (.lst (l.map .int ++ [.str "late"]))) = .ok .next [.val (.tup [.ref a, .str w, .int b]), .val (.str w)] (h.set a (.lst (l.map .int ++ [.str "late"]))) := by
      unfold forStep spB; simp only [evS, evA, evM, evT, evL, evR, evO, evI, Out.bind, Out.noex, lift, rd, v_non, v_bl, v_int, v_str, v_lst, v_tup, v_dic, esc, finish, mk, permute, bindT, bindTs, i_lst, i_tup, lo_lst, List.append_nil, Option.bind_some, Option.bind_none, Option.map_some, Option.map_none, Option.bind_eq_bind, List.getElem?_cons_zero, List.getElem?_cons_succ, List.getElem?_nil, List.set_cons_zero, List.set_cons_succ, List.length_cons, List.length_nil, List.mapM_cons, List.mapM_nil, Option.pure_def, Option.getD_some, and_self, Bool.not_true, Bool.not_false, if_true, if_false, Bool.false_eq_true, Bool.true_eq_false, reduceIte, Nat.reduceAdd, Nat.reduceLT, Nat.reduceSub, sp_str (k + 1)]
    have s3 : forStep (callN G (k + 2)) (.nm 1) spB (.int b) [.val (.tup [.ref a, .str w, .int b]), .val (.str w)] (h.set a (.lst (l.map .int ++ [.str "late"]))) = .ok .next [.val (.tup [.ref a, .str w, .int b]), .val (.int b)] (h.set a (.lst (l.map .int ++ [.str "late"]))) := by
      unfold forStep spB; simp only [evS, evA, evM, evT, evL, evR, evO, evI, Out.bind, Out.noex, lift, rd, v_non, v_bl, v_int, v_str, v_lst, v_tup, v_dic, esc, finish, mk, permute, bindT, bindTs, i_lst, i_tup, lo_lst, List.append_nil, Option.bind_some, Option.bind_none, Option.map_some, Option.map_none, Option.bind_eq_bind, List.getElem?_cons_zero, List.getElem?_cons_succ, List.getElem?_nil, List.set_cons_zero, List.set_cons_succ, List.length_cons, List.length_nil, List.mapM_cons, List.mapM_nil, Option.pure_def, Option.getD_some, and_self, Bool.not_true, Bool.not_false, if_true, if_false, Bool.false_eq_true, Bool.true_eq_false, reduceIte, Nat.reduceAdd, Nat.reduceLT, Nat.reduceSub, sp_int (k + 1)]
    rw [forLoop, if_pos (gdOk_nil _), s1, bind_okE]
    show forLoop [] _ [.str w, .int b] _ _ = _
    rw [forLoop, if_pos (gdOk_nil _), s2, bind_okE]
    show forLoop [] _ [.int b] _ _ = _
    rw [forLoop, if_pos (gdOk_nil _), s3, bind_okE]
    show forLoop [] _ [] _ _ = _
    rw [forLoop, if_pos (gdOk_nil _)]
  have e1 : evS (callN G (k + 2)) (.ite (.isi (.var 0) ["list", "tuple"]) (.for_ (.nm 1) (.iseq (.var 0)) spB) .skip) [.val (.tup [.ref a, .str w, .int b]), .no] h = .ok .next [.val (.tup [.ref a, .str w, .int b]), .val (.int b)] (h.set a (.lst (l.map .int ++ [.str "late"]))) := by
    rw [ite_yes (e1 := [.val (.tup [.ref a, .str w, .int b]), .no]) (h1 := h) (by simp only [evS, evA, evM, evT, evL, evR, evO, evI, Out.bind, Out.noex, lift, rd, v_non, v_bl, v_int, v_str, v_lst, v_tup, v_dic, esc, finish, mk, permute, i_lst, i_tup, lo_lst, List.append_nil, Option.bind_some, Option.bind_none, Option.map_some, Option.map_none, Option.bind_eq_bind, List.getElem?_cons_zero, List.getElem?_cons_succ, List.getElem?_nil, List.set_cons_zero, List.set_cons_succ, List.length_cons, List.length_nil, List.mapM_cons, List.mapM_nil, Option.pure_def, Option.getD_some, and_self, Bool.not_true, Bool.not_false, if_true, if_false, Bool.false_eq_true, Bool.true_eq_false, reduceIte, Nat.reduceAdd, Nat.reduceLT, Nat.reduceSub, typeName, i4, truthy]), evS_for]
    have : evI (callN G (k + 2)) (.iseq (.var 0)) [.val (.tup [.ref a, .str w, .int b]), .no] h = .ok ([.ref a, .str w, .int b], []) [.val (.tup [.ref a, .str w, .int b]), .no] h := by simp only [evS, evA, evM, evT, evL, evR, evO, evI, Out.bind, Out.noex, lift, rd, v_non, v_bl, v_int, v_str, v_lst, v_tup, v_dic, esc, finish, mk, permute, i_lst, i_tup, lo_lst, List.append_nil, Option.bind_some, Option.bind_none, Option.map_some, Option.map_none, Option.bind_eq_bind, List.getElem?_cons_zero, List.getElem?_cons_succ, List.getElem?_nil, List.set_cons_zero, List.set_cons_succ, List.length_cons, List.length_nil, List.mapM_cons, List.mapM_nil, Option.pure_def, Option.getD_some, and_self, Bool.not_true, Bool.not_false, if_true, if_false, Bool.false_eq_true, Bool.true_eq_false, reduceIte, Nat.reduceAdd, Nat.reduceLT, Nat.reduceSub]
    rw [this, bind_okE, f]
  rw [c__law_spoilt, sp_body, seq_next e1, ite_no (e1 := [.val (.tup [.ref a, .str w, .int b]), .val (.int b)]) (h1 := h.set a (.lst (l.map .int ++ [.str "late"]))) (by simp only [evS, evA, evM, evT, evL, evR, evO, evI, Out.bind, Out.noex, lift, rd, v_non, v_bl, v_int, v_str, v_lst, v_tup, v_dic, esc, finish, mk, permute, i_lst, i_tup, lo_lst, List.append_nil, Option.bind_some, Option.bind_none, Option.map_some, Option.map_none, Option.bind_eq_bind, List.getElem?_cons_zero, List.getElem?_cons_succ, List.getElem?_nil, List.set_cons_zero, List.set_cons_succ, List.length_cons, List.length_nil, List.mapM_cons, List.mapM_nil, Option.pure_def, Option.getD_some, and_self, Bool.not_true, Bool.not_false, if_true, if_false, Bool.false_eq_true, Bool.true_eq_false, reduceIte, Nat.reduceAdd, Nat.reduceLT, Nat.reduceSub, typeName, i7, truthy])]
  simp only [evS, finish]
theorem toldL_get (n : Nat) : ∀ (rs : List Rw) (i : Nat) (r : Rw), rs[i]? = some r → ∀ n, (toldL n rs)[i]? = some (.tup [.ref (n + i), .str (wd r.eq), .int r.b])
  | [], i, r, h, _ => by simp at h
  | x :: rs, 0, r, h, n => by simp at h; subst h; rfl
  | x :: rs, i + 1, r, h, n => by
    simp only [List.getElem?_cons_succ] at h
    have := toldL_get n rs i r h (n + 1)
    have e : n + (i + 1) = n + 1 + i := by omega
    rw [e]; exact this
theorem toldL_len : ∀ (rs : List Rw) (n : Nat), (toldL n rs).length = rs.length
  | [], _ => rfl
  | x :: rs, n => by simp [toldL, toldL_len rs]
/-- a told list of rows: its cells alone are changed -/
theorem sp_told (k a n : Nat) (rs : List Rw) (h : Hs) (hn : h[n]? = some (.lst (toldL a rs))) (ha : a + rs.length ≤ n) (hc : ∀ (i : Nat) (r : Rw), rs[i]? = some r → h[a + i]? = some (.lst (r.ns.map .int))) (hl : ∀ r ∈ rs, r.ns.length < line) (hl2 : rs.length < line) :
    ∃ h', callN G (k + 4) 24 [.ref n] h = .ret .non false h' ∧ h'.length = h.length ∧ ∀ i, (i < a ∨ n < i) → h'[i]? = h[i]? := by
  have vr : ∀ h' : Hs, h'[n]? = some (.lst (toldL a rs)) → view h' (.ref n) = .lst (toldL a rs) := fun h' q => by simp only [view, q]
  obtain ⟨e', h', q, x1, he, hln, hn', hh, _⟩ := forLoop_run (gd := [(n, toldL a rs)]) (f := forStep (callN G (k + 3)) (.nm 1) spB) (xs := toldL a rs)
    (fun i e h' => ∃ x1 : SV, e = [.val (.ref n), x1] ∧ h'.length = h.length ∧ h'[n]? = some (.lst (toldL a rs)) ∧ (∀ j, (j < a ∨ n ≤ j) → h'[j]? = h[j]?) ∧ ∀ (j : Nat) (r : Rw), i ≤ j → rs[j]? = some r → h'[a + j]? = some (.lst (r.ns.map .int)))
    (fun i x e h' hx ⟨x1, he, hln, hn', hh, hc'⟩ => by
      subst he
      have hi : i < rs.length := by rw [← toldL_len rs a]; exact (List.getElem?_eq_some_iff.mp hx).1
      have hr : rs[i]? = some rs[i] := List.getElem?_eq_getElem hi
      have hg := toldL_get a rs i rs[i] hr a
      rw [hg] at hx
      obtain rfl := (Option.some.inj hx)
      have c := sp_tup k (a + i) (wd rs[i].eq) rs[i].b rs[i].ns h' (hc' i rs[i] (Nat.le_refl _) hr) (hl rs[i] (List.getElem_mem hi))
      refine ⟨.next, [.val (.ref n), .val (.tup [.ref (a + i), .str (wd rs[i].eq), .int rs[i].b])], h'.set (a + i) (.lst (rs[i].ns.map .int ++ [.str "late"])), ?_, .inl rfl, _, rfl, ?_, ?_, ?_, ?_⟩
      · unfold forStep spB
        simp only [evS, evA, evM, evT, evL, evR, evO, evI, Out.bind, Out.noex, lift, rd, v_non, v_bl, v_int, v_str, v_lst, v_tup, v_dic, esc, finish, mk, permute, bindT, bindTs, i_lst, i_tup, lo_lst, List.append_nil, Option.bind_some, Option.bind_none, Option.map_some, Option.map_none, Option.bind_eq_bind, List.getElem?_cons_zero, List.getElem?_cons_succ, List.getElem?_nil, List.set_cons_zero, List.set_cons_succ, List.length_cons, List.length_nil, List.mapM_cons, List.mapM_nil, Option.pure_def, Option.getD_some, and_self, Bool.not_true, Bool.not_false, if_true, if_false, Bool.false_eq_true, Bool.true_eq_false, reduceIte, Nat.reduceAdd, Nat.reduceLT, Nat.reduceSub, c]
      · rw [List.length_set]; exact hln
      · rw [List.getElem?_set_ne (by omega)]; exact hn'
      · intro j hj
        rw [List.getElem?_set_ne (by omega)]; exact hh j hj
      · intro j r hj hr'
        rw [List.getElem?_set_ne (by omega)]; exact hc' j r (by omega) hr')
    (fun i e h' ⟨x1, he, hln, hn', hh, hc'⟩ => gd1_ok hn') (e := [.val (.ref n), .no]) (h := h) ⟨.no, rfl, rfl, hn, fun _ _ => rfl, fun j r _ hr => hc j r hr⟩
  have e1 : evS (callN G (k + 3)) (.ite (.isi (.var 0) ["list", "tuple"]) (.for_ (.nm 1) (.iseq (.var 0)) spB) .skip) [.val (.ref n), .no] h = .ok .next [.val (.ref n), x1] h' := by
    rw [ite_yes (e1 := [.val (.ref n), .no]) (h1 := h) (by simp only [evS, evA, evM, evT, evL, evR, evO, evI, Out.bind, Out.noex, lift, rd, v_non, v_bl, v_int, v_str, v_lst, v_tup, v_dic, esc, finish, mk, permute, i_lst, i_tup, lo_lst, List.append_nil, Option.bind_some, Option.bind_none, Option.map_some, Option.map_none, Option.bind_eq_bind, List.getElem?_cons_zero, List.getElem?_cons_succ, List.getElem?_nil, List.set_cons_zero, List.set_cons_succ, List.length_cons, List.length_nil, List.mapM_cons, List.mapM_nil, Option.pure_def, Option.getD_some, and_self, Bool.not_true, Bool.not_false, if_true, if_false, Bool.false_eq_true, Bool.true_eq_false, reduceIte, Nat.reduceAdd, Nat.reduceLT, Nat.reduceSub, vr h hn, typeName, i3, truthy]), evS_for]
    have : evI (callN G (k + 3)) (.iseq (.var 0)) [.val (.ref n), .no] h = .ok (toldL a rs, [(n, toldL a rs)]) [.val (.ref n), .no] h := by simp only [evS, evA, evM, evT, evL, evR, evO, evI, Out.bind, Out.noex, lift, rd, v_non, v_bl, v_int, v_str, v_lst, v_tup, v_dic, esc, finish, mk, permute, i_lst, i_tup, lo_lst, List.append_nil, Option.bind_some, Option.bind_none, Option.map_some, Option.map_none, Option.bind_eq_bind, List.getElem?_cons_zero, List.getElem?_cons_succ, List.getElem?_nil, List.set_cons_zero, List.set_cons_succ, List.length_cons, List.length_nil, List.mapM_cons, List.mapM_nil, Option.pure_def, Option.getD_some, and_self, Bool.not_true, Bool.not_false, if_true, if_false, Bool.false_eq_true, Bool.true_eq_false, reduceIte, Nat.reduceAdd, Nat.reduceLT, Nat.reduceSub, seqOf, lstOf, hn]
    rw [this, bind_okE, q, he]
  have ap : opM .append (toldL a rs) [.str "late"] = some (.non, toldL a rs ++ [.str "late"]) := by simp [opM, toldL_len, hl2]
  refine ⟨h'.set n (.lst (toldL a rs ++ [.str "late"])), ?_, by rw [List.length_set]; exact hln, fun i hi => ?_⟩
  · rw [c__law_spoilt, sp_body, seq_next e1, ite_yes (e1 := [.val (.ref n), x1]) (h1 := h') (by simp only [evS, evA, evM, evT, evL, evR, evO, evI, Out.bind, Out.noex, lift, rd, v_non, v_bl, v_int, v_str, v_lst, v_tup, v_dic, esc, finish, mk, permute, i_lst, i_tup, lo_lst, List.append_nil, Option.bind_some, Option.bind_none, Option.map_some, Option.map_none, Option.bind_eq_bind, List.getElem?_cons_zero, List.getElem?_cons_succ, List.getElem?_nil, List.set_cons_zero, List.set_cons_succ, List.length_cons, List.length_nil, List.mapM_cons, List.mapM_nil, Option.pure_def, Option.getD_some, and_self, Bool.not_true, Bool.not_false, if_true, if_false, Bool.false_eq_true, Bool.true_eq_false, reduceIte, Nat.reduceAdd, Nat.reduceLT, Nat.reduceSub, vr h' hn', typeName, i6, truthy])]
    simp only [evS, evA, evM, evT, evL, evR, evO, evI, Out.bind, Out.noex, lift, rd, v_non, v_bl, v_int, v_str, v_lst, v_tup, v_dic, esc, finish, mk, permute, i_lst, i_tup, lo_lst, List.append_nil, Option.bind_some, Option.bind_none, Option.map_some, Option.map_none, Option.bind_eq_bind, List.getElem?_cons_zero, List.getElem?_cons_succ, List.getElem?_nil, List.set_cons_zero, List.set_cons_succ, List.length_cons, List.length_nil, List.mapM_cons, List.mapM_nil, Option.pure_def, Option.getD_some, and_self, Bool.not_true, Bool.not_false, if_true, if_false, Bool.false_eq_true, Bool.true_eq_false, reduceIte, Nat.reduceAdd, Nat.reduceLT, Nat.reduceSub, mut?, hn', ap, put]
  · rw [List.getElem?_set_ne (by omega)]
    exact hh i (by omega)
/-- the stream's cells are what they were -/
theorem SI.of {c : Nat} {rest : Hs} {h h' : Hs} (s : SI c rest h) (hl : h'.length = h.length) (e : ∀ i, i < 2 → h'[i]? = h[i]?) : ∃ rest', SI c rest' h' := by
  obtain ⟨cells, a, n, m, he, h1⟩ := s
  subst he
  match h', hl, e with
  | [], hl, _ => simp at hl
  | [_], hl, _ => simp at hl
  | x :: y :: r, hl, e =>
    have e0 := e 0 (by omega)
    have e1 := e 1 (by omega)
    simp at e0 e1
    subst e0; subst e1
    exact ⟨r, cells, a, n, m, rfl, h1⟩
theorem SI.app {c : Nat} {rest : Hs} {h : Hs} (s : SI c rest h) (x : Hs) : SI c (rest ++ x) (h ++ x) := by
  obtain ⟨cells, a, n, m, he, h1⟩ := s
  subst he
  exact ⟨cells, a, n, m, rfl, h1⟩
theorem SI.two {c : Nat} {rest : Hs} {h : Hs} (s : SI c rest h) : 2 ≤ h.length := by
  obtain ⟨cells, a, n, m, he, h1⟩ := s
  subst he
  simp
theorem R_ints (h : Hs) (a : Nat) (l : List Int) (d : Nat) (hn : h[a]? = some (.lst (l.map .int))) (hl : l.length ≤ line) : Rp h (d + 1) (.ref a) (.lst (l.map .int)) := by
  refine .ref hn rfl (by simpa using hl) fun i x y h1 h2 => ?_
  rw [h1] at h2
  obtain rfl := Option.some.inj h2
  obtain ⟨j, _, rfl⟩ := List.mem_map.mp (List.mem_of_getElem? h1)
  exact .int _ _
theorem R_tup (h : Hs) (a : Nat) (l : List Int) (e : Bool) (b : Int) (d : Nat) (hn : h[a]? = some (.lst (l.map .int))) (hl : l.length ≤ line) : Rp h (d + 2) (.tup [.ref a, .str (wd e), .int b]) (.tup [.lst (l.map .int), .str (wd e), .int b]) := by
  refine .tup rfl (by show 3 ≤ line; decide) fun i x y h1 h2 => ?_
  match i with
  | 0 => simp at h1 h2; subst h1; subst h2; exact R_ints h a l d hn hl
  | 1 => simp at h1 h2; subst h1; subst h2; exact .str _ _ (wd_ok e)
  | 2 => simp at h1 h2; subst h1; subst h2; exact .int _ _
  | i + 3 => simp at h1
theorem R_told (h : Hs) (a n : Nat) (rs : List Rw) (hn : h[n]? = some (.lst (toldL a rs))) (hc : ∀ (i : Nat) (r : Rw), rs[i]? = some r → h[a + i]? = some (.lst (r.ns.map .int))) (hl : ∀ r ∈ rs, r.ns.length ≤ line) (hl2 : rs.length ≤ line) : Rp h 3 (.ref n) (.lst (rs.map (pvR false true))) := by
  refine .ref hn (by simp [toldL_len]) (by rw [toldL_len]; exact hl2) fun i x y h1 h2 => ?_
  rw [List.getElem?_map, Option.map_eq_some_iff] at h2
  obtain ⟨r, hr, rfl⟩ := h2
  rw [toldL_get a rs i r hr a] at h1
  obtain rfl := Option.some.inj h1
  exact R_tup h (a + i) r.ns r.eq r.b 0 (hc i r hr) (hl r (List.mem_of_getElem? hr))
theorem app_get {h x : Hs} {i : Nat} {c : Cell} (q : h[i]? = some c) : (h ++ x)[i]? = some c := by
  rw [List.getElem?_append_left (List.getElem?_eq_some_iff.mp q).1]; exact q
end K02

namespace K02
open PL
open PySem (Str)
variable {rest : Hs}
def sl (b : Bool) (v : PV) : SV := if b then .own v else .val v
theorem zip_at2 {ls hs : List Int} {i : Nat} {x : PV} (hx : (zipItems (ls.map .int) (hs.map .int))[i]? = some x) : ∃ z, (ls.zip hs)[i]? = some z ∧ x = .tup [.int z.1, .int z.2] := by
  rw [zip_int, List.getElem?_map, Option.map_eq_some_iff] at hx
  obtain ⟨z, hz, rfl⟩ := hx
  exact ⟨z, hz, rfl⟩
theorem tk (zs : List (Int × Int)) (i : Nat) (z : Int × Int) (hz : zs[i]? = some z) : zs.take (i + 1) = zs.take i ++ [z] := by
  rw [List.take_succ, hz]; rfl
theorem allBools_mp {α : Type} (f : α → Bool) : ∀ l : List α, allBools (l.map fun z => PV.bl (f z)) = some (l.map f)
  | [] => rfl
  | x :: l => by simp [allBools, allBools_mp f l]
theorem any_bls {α : Type} (f : α → Bool) (l : List α) : opB .any [.lst (l.map fun z => PV.bl (f z))] = some (.bl (l.any f), false) := by
  simp only [opB, allBools_mp]
  simp [Function.comp_def]
theorem all_bls {α : Type} (f : α → Bool) (l : List α) : opB .all [.lst (l.map fun z => PV.bl (f z))] = some (.bl (l.all f), false) := by
  simp only [opB, allBools_mp]
  simp [Function.comp_def]
theorem s_law_holds (k : Nat) (rs : List Rw) (ps : List Int) (h : Hs) (hl : ∀ r ∈ rs, r.ns.length ≤ line) (h1 : ∀ r ∈ rs, Sml r.ns) (h2 : Sml ps) (hn : rs.length ≤ line) : callN G (k + 3) 30 [.lst (rs.map (pvR false true)), .lst (ps.map .int)] h = .ret (.bl (rs.all (rh ps))) false h := by
  let E0 : Env := [.val (.lst (rs.map (pvR false true))), .val (.lst (ps.map .int)), .no, .no]
  obtain ⟨ps', h', q, p1, p2⟩ := lc_gen (gd := []) (C := callN G (k + 2)) (own := [2, 3]) (tg := .nm 3) (it := .iseq (.var 0)) (ifs := .nil) (body := .one (.call 29 [] (.cons (.var 3) (.cons (.var 1) .nil)))) (e := E0) (e1 := E0) (h := h) (h1 := h) (xs := rs.map (pvR false true))
    (by simp only [evS, evA, evM, evT, evL, evR, evO, evI, Out.bind, Out.noex, lift, rd, v_non, v_bl, v_int, v_str, v_lst, v_tup, v_dic, esc, finish, mk, permute, i_lst, i_tup, lo_lst, List.append_nil, Option.bind_some, Option.bind_none, Option.map_some, Option.map_none, Option.bind_eq_bind, List.getElem?_cons_zero, List.getElem?_cons_succ, List.getElem?_nil, List.set_cons_zero, List.set_cons_succ, List.length_cons, List.length_nil, List.mapM_cons, List.mapM_nil, Option.pure_def, Option.getD_some, and_self, Bool.not_true, Bool.not_false, if_true, if_false, Bool.false_eq_true, Bool.true_eq_false, reduceIte, Nat.reduceAdd, Nat.reduceLT, Nat.reduceSub, E0]) (fun i acc h1 => acc = ((rs.take i).map fun r => PV.bl (rh ps r)) ∧ h1 = h) (fun _ => E0) rfl (fun i x h1 acc hx ⟨ha, hh1⟩ => by
      subst hh1
      rw [List.getElem?_map, Option.map_eq_some_iff] at hx
      obtain ⟨r, hr, rfl⟩ := hx
      have hm := List.mem_of_getElem? hr
      have q := s_law_row_holds k r ps h1 (hl r hm) (‹∀ r ∈ rs, Sml r.ns› r hm) h2
      refine ⟨[.bl (rh ps r)], h1, E0.set 3 (.val (pvR false true r)), ?_, rfl, ?_, rfl⟩
      · rw [lcStep_nil (e' := E0.set 3 (.val (pvR false true r))) rfl]
        simp only [E0, evS, evA, evM, evT, evL, evR, evO, evI, Out.bind, Out.noex, lift, rd, v_non, v_bl, v_int, v_str, v_lst, v_tup, v_dic, esc, finish, mk, permute, i_lst, i_tup, lo_lst, List.append_nil, Option.bind_some, Option.bind_none, Option.map_some, Option.map_none, Option.bind_eq_bind, List.getElem?_cons_zero, List.getElem?_cons_succ, List.getElem?_nil, List.set_cons_zero, List.set_cons_succ, List.length_cons, List.length_nil, List.mapM_cons, List.mapM_nil, Option.pure_def, Option.getD_some, and_self, Bool.not_true, Bool.not_false, if_true, if_false, Bool.false_eq_true, Bool.true_eq_false, reduceIte, Nat.reduceAdd, Nat.reduceLT, Nat.reduceSub, q]
      · rw [ha, List.take_succ, hr]; simp) (fun _ _ _ _ => rfl) ⟨rfl, rfl⟩ (fun ps h' ⟨hp, _⟩ => by rw [hp]; simpa using hn)
  rw [List.length_map, List.take_length] at p1
  subst p1; subst p2
  have al := all_bls (rh ps) rs
  have hE : backE [2, 3] (frzAt [2, 3] E0) E0 = E0 := rfl
  rw [hE] at q
  simp only [E0] at q
  rw [c__law_holds, b__law_holds]
  simp only [evS, evA, evM, evT, evL, evR, evO, evI, Out.bind, Out.noex, lift, rd, v_non, v_bl, v_int, v_str, v_lst, v_tup, v_dic, esc, finish, mk, permute, i_lst, i_tup, lo_lst, List.append_nil, Option.bind_some, Option.bind_none, Option.map_some, Option.map_none, Option.bind_eq_bind, List.getElem?_cons_zero, List.getElem?_cons_succ, List.getElem?_nil, List.set_cons_zero, List.set_cons_succ, List.length_cons, List.length_nil, List.mapM_cons, List.mapM_nil, Option.pure_def, Option.getD_some, and_self, Bool.not_true, Bool.not_false, if_true, if_false, Bool.false_eq_true, Bool.true_eq_false, reduceIte, Nat.reduceAdd, Nat.reduceLT, Nat.reduceSub, q, al]
/-- two of them in a list that is a cell -/
theorem sp_two (k n A B : Nat) (h h1 h2 : Hs) (hn : h[n]? = some (.lst [.ref A, .ref B])) (q1 : callN G (k + 1) 24 [.ref A] h = .ret .non false h1) (hn1 : h1[n]? = h[n]?) (q2 : callN G (k + 1) 24 [.ref B] h1 = .ret .non false h2) (hn2 : h2[n]? = h1[n]?) :
    callN G (k + 2) 24 [.ref n] h = .ret .non false (h2.set n (.lst [.ref A, .ref B, .str "late"])) := by
  have vr : ∀ h' : Hs, h'[n]? = some (.lst [.ref A, .ref B]) → view h' (.ref n) = .lst [.ref A, .ref B] := fun h' q => by simp only [view, q]
  have hn2' : h2[n]? = some (.lst [.ref A, .ref B]) := by rw [hn2, hn1, hn]
  have hn1' : h1[n]? = some (.lst [.ref A, .ref B]) := by rw [hn1, hn]
  have s1 : forStep (callN G (k + 1)) (.nm 1) spB (.ref A) [.val (.ref n), .no] h = .ok .next [.val (.ref n), .val (.ref A)] h1 := by
    unfold forStep spB; simp only [evS, evA, evM, evT, evL, evR, evO, evI, Out.bind, Out.noex, lift, rd, v_non, v_bl, v_int, v_str, v_lst, v_tup, v_dic, esc, finish, mk, permute, bindT, bindTs, i_lst, i_tup, lo_lst, List.append_nil, Option.bind_some, Option.bind_none, Option.map_some, Option.map_none, Option.bind_eq_bind, List.getElem?_cons_zero, List.getElem?_cons_succ, List.getElem?_nil, List.set_cons_zero, List.set_cons_succ, List.length_cons, List.length_nil, List.mapM_cons, List.mapM_nil, Option.pure_def, Option.getD_some, and_self, Bool.not_true, Bool.not_false, if_true, if_false, Bool.false_eq_true, Bool.true_eq_false, reduceIte, Nat.reduceAdd, Nat.reduceLT, Nat.reduceSub, q1]
  have s2 : forStep (callN G (k + 1)) (.nm 1) spB (.ref B) [.val (.ref n), .val (.ref A)] h1 = .ok .next [.val (.ref n), .val (.ref B)] h2 := by
    unfold forStep spB; simp only [evS, evA, evM, evT, evL, evR, evO, evI, Out.bind, Out.noex, lift, rd, v_non, v_bl, v_int, v_str, v_lst, v_tup, v_dic, esc, finish, mk, permute, bindT, bindTs, i_lst, i_tup, lo_lst, List.append_nil, Option.bind_some, Option.bind_none, Option.map_some, Option.map_none, Option.bind_eq_bind, List.getElem?_cons_zero, List.getElem?_cons_succ, List.getElem?_nil, List.set_cons_zero, List.set_cons_succ, List.length_cons, List.length_nil, List.mapM_cons, List.mapM_nil, Option.pure_def, Option.getD_some, and_self, Bool.not_true, Bool.not_false, if_true, if_false, Bool.false_eq_true, Bool.true_eq_false, reduceIte, Nat.reduceAdd, Nat.reduceLT, Nat.reduceSub, q2]
  have f : forLoop [(n, [.ref A, .ref B])] (forStep (callN G (k + 1)) (.nm 1) spB) [.ref A, .ref B] [.val (.ref n), .no] h = .ok .next [.val (.ref n), .val (.ref B)] h2 := by
    rw [forLoop, if_pos (gd1_ok hn), s1, bind_okE]
    show forLoop _ _ [.ref B] _ _ = _
    rw [forLoop, if_pos (gd1_ok hn1'), s2, bind_okE]
    show forLoop _ _ [] _ _ = _
    rw [forLoop, if_pos (gd1_ok hn2')]
  have e1 : evS (callN G (k + 1)) (.ite (.isi (.var 0) ["list", "tuple"]) (.for_ (.nm 1) (.iseq (.var 0)) spB) .skip) [.val (.ref n), .no] h = .ok .next [.val (.ref n), .val (.ref B)] h2 := by
    rw [ite_yes (e1 := [.val (.ref n), .no]) (h1 := h) (by simp only [evS, evA, evM, evT, evL, evR, evO, evI, Out.bind, Out.noex, lift, rd, v_non, v_bl, v_int, v_str, v_lst, v_tup, v_dic, esc, finish, mk, permute, i_lst, i_tup, lo_lst, List.append_nil, Option.bind_some, Option.bind_none, Option.map_some, Option.map_none, Option.bind_eq_bind, List.getElem?_cons_zero, List.getElem?_cons_succ, List.getElem?_nil, List.set_cons_zero, List.set_cons_succ, List.length_cons, List.length_nil, List.mapM_cons, List.mapM_nil, Option.pure_def, Option.getD_some, and_self, Bool.not_true, Bool.not_false, if_true, if_false, Bool.false_eq_true, Bool.true_eq_false, reduceIte, Nat.reduceAdd, Nat.reduceLT, Nat.reduceSub, vr h hn, typeName, i3, truthy]), evS_for]
    have : evI (callN G (k + 1)) (.iseq (.var 0)) [.val (.ref n), .no] h = .ok ([.ref A, .ref B], [(n, [.ref A, .ref B])]) [.val (.ref n), .no] h := by simp only [evS, evA, evM, evT, evL, evR, evO, evI, Out.bind, Out.noex, lift, rd, v_non, v_bl, v_int, v_str, v_lst, v_tup, v_dic, esc, finish, mk, permute, i_lst, i_tup, lo_lst, List.append_nil, Option.bind_some, Option.bind_none, Option.map_some, Option.map_none, Option.bind_eq_bind, List.getElem?_cons_zero, List.getElem?_cons_succ, List.getElem?_nil, List.set_cons_zero, List.set_cons_succ, List.length_cons, List.length_nil, List.mapM_cons, List.mapM_nil, Option.pure_def, Option.getD_some, and_self, Bool.not_true, Bool.not_false, if_true, if_false, Bool.false_eq_true, Bool.true_eq_false, reduceIte, Nat.reduceAdd, Nat.reduceLT, Nat.reduceSub, seqOf, lstOf, hn]
    rw [this, bind_okE, f]
  have ap : opM .append [.ref A, .ref B] [.str "late"] = some (.non, [.ref A, .ref B, .str "late"]) := by simp [opM]; decide
  rw [c__law_spoilt, sp_body, seq_next e1, ite_yes (e1 := [.val (.ref n), .val (.ref B)]) (h1 := h2) (by simp only [evS, evA, evM, evT, evL, evR, evO, evI, Out.bind, Out.noex, lift, rd, v_non, v_bl, v_int, v_str, v_lst, v_tup, v_dic, esc, finish, mk, permute, i_lst, i_tup, lo_lst, List.append_nil, Option.bind_some, Option.bind_none, Option.map_some, Option.map_none, Option.bind_eq_bind, List.getElem?_cons_zero, List.getElem?_cons_succ, List.getElem?_nil, List.set_cons_zero, List.set_cons_succ, List.length_cons, List.length_nil, List.mapM_cons, List.mapM_nil, Option.pure_def, Option.getD_some, and_self, Bool.not_true, Bool.not_false, if_true, if_false, Bool.false_eq_true, Bool.true_eq_false, reduceIte, Nat.reduceAdd, Nat.reduceLT, Nat.reduceSub, vr h2 hn2', typeName, i6, truthy])]
  simp only [evS, evA, evM, evT, evL, evR, evO, evI, Out.bind, Out.noex, lift, rd, v_non, v_bl, v_int, v_str, v_lst, v_tup, v_dic, esc, finish, mk, permute, i_lst, i_tup, lo_lst, List.append_nil, Option.bind_some, Option.bind_none, Option.map_some, Option.map_none, Option.bind_eq_bind, List.getElem?_cons_zero, List.getElem?_cons_succ, List.getElem?_nil, List.set_cons_zero, List.set_cons_succ, List.length_cons, List.length_nil, List.mapM_cons, List.mapM_nil, Option.pure_def, Option.getD_some, and_self, Bool.not_true, Bool.not_false, if_true, if_false, Bool.false_eq_true, Bool.true_eq_false, reduceIte, Nat.reduceAdd, Nat.reduceLT, Nat.reduceSub, mut?, hn2', ap, put]
theorem pm0 (ps : List PV) : permute [] ps = ps := rfl
theorem pm2 (a b : PV) : permute [1, 0] [a, b] = [b, a] := rfl
theorem pm3 (a b c : PV) : permute [2, 1, 0] [a, b, c] = [c, b, a] := rfl
theorem pm4 (a b c d : PV) : permute [3, 2, 1, 0] [a, b, c, d] = [d, c, b, a] := rfl
def hdP (t tS t1 t2 : Bool) (l : List (Bool × Bool × Rw)) (lo hi : List Int) : PV := sq t [pvS tS l, sq t1 (lo.map .int), sq t2 (hi.map .int)]
def sysP (rs : List Rw) : PV := .lst (rs.map (pvR false true))
theorem sys_ne (rs : List Rw) (lo : List Int) (h : 1 ≤ lo.length) : sysP rs ≠ .lst (lo.map .int) := by
  intro e
  have e := PV.lst.inj e
  cases lo with
  | nil => simp at h
  | cons a lo =>
    cases rs with
    | nil => simp at e
    | cons r rs =>
      rw [List.map_cons, List.map_cons] at e
      injection e with e1 e2
      cases e1
theorem loose_three (k c : Nat) (rs : List Rw) (lo hi : List Int) (h : Hs) (s : SI c rest h) (hc : c + 300 < 1000000) (m : Nat) (hm : m ≤ 100) (hn : rs.length ≤ 6) (hr : ∀ r ∈ rs, r.ns.length = m) (hm1 : 1 ≤ m) (hl : lo.length = m) (hh : hi.length = m) :
    ∃ t tS t1 t2 l h', callN G (k + 5) 26 [.ref 1, .lst [sysP rs, .lst (lo.map .int), .lst (hi.map .int)]] h = .ret (hdP t tS t1 t2 l lo hi) t h' ∧ rws l = rs ∧ SI (c + 91) rest h' := by
  have ml : m ≤ line := Nat.le_trans hm line100
  obtain ⟨t, ys, h', q, f, s'⟩ := loose_node (k + 3) c 30 true [sysP rs, .lst (lo.map .int), .lst (hi.map .int)] h s 150 (by omega) (by simp; omega) (by show 3 ≤ line; decide)
    (fun x y => (x = sysP rs ∧ ∃ t l, y = pvS t l ∧ rws l = rs) ∨ (x = .lst (lo.map .int) ∧ ∃ t, y = sq t (lo.map .int)) ∨ (x = .lst (hi.map .int) ∧ ∃ t, y = sq t (hi.map .int))) (fun x hx c' h' s' hc' => by
    simp only [List.mem_cons, List.not_mem_nil, or_false] at hx
    rcases hx with rfl | rfl | rfl
    · obtain ⟨t, l, h2, q, e, s2⟩ := loose_system k c' rs h' s' (by omega) m hm hn hr
      exact ⟨_, _, h2, q, .inl ⟨rfl, t, l, rfl, e⟩, s2⟩
    · obtain ⟨t, h2, q, s2⟩ := loose_ints (k + 2) c' lo h' s' (by omega) (by rw [hl]; exact ml)
      exact ⟨_, _, h2, q, .inr (.inl ⟨rfl, t, rfl⟩), s2.mono (by omega)⟩
    · obtain ⟨t, h2, q, s2⟩ := loose_ints (k + 2) c' hi h' s' (by omega) (by rw [hh]; exact ml)
      exact ⟨_, _, h2, q, .inr (.inr ⟨rfl, t, rfl⟩), s2.mono (by omega)⟩)
  cases f with
  | cons a f => cases f with
    | cons b f => cases f with
      | cons d f =>
        cases f
        rename_i y0 y1 y2
        have a' : ∃ t l, y0 = pvS t l ∧ rws l = rs := by
          rcases a with ⟨_, h⟩ | ⟨e, _⟩ | ⟨e, _⟩
          · exact h
          · exact absurd e (sys_ne rs lo (by omega))
          · exact absurd e (sys_ne rs hi (by omega))
        have b' : ∃ t, y1 = sq t (lo.map .int) := by
          rcases b with ⟨e, _⟩ | ⟨_, h⟩ | ⟨e, h⟩
          · exact absurd e.symm (sys_ne rs lo (by omega))
          · exact h
          · rw [PV.lst.inj e]; exact h
        have d' : ∃ t, y2 = sq t (hi.map .int) := by
          rcases d with ⟨e, _⟩ | ⟨e, h⟩ | ⟨_, h⟩
          · exact absurd e.symm (sys_ne rs hi (by omega))
          · rw [PV.lst.inj e]; exact h
          · exact h
        obtain ⟨tS, l, rfl, e⟩ := a'
        obtain ⟨t1, rfl⟩ := b'
        obtain ⟨t2, rfl⟩ := d'
        exact ⟨t, tS, t1, t2, l, h', q, e, s'⟩
theorem dat_hd (t tS t1 t2 : Bool) (l : List (Bool × Bool × Rw)) (lo hi : List Int) (m : Nat) (hm : m ≤ 100) (S : Sys m l) (h1 : lo.length = m) (h2 : hi.length = m) : Dat 4 (hdP t tS t1 t2 l lo hi) := by
  have ml : m ≤ line := Nat.le_trans hm line100
  have : ∀ x ∈ [pvS tS l, sq t1 (lo.map .int), sq t2 (hi.map .int)], Dat 3 x := by
    intro x hx
    simp only [List.mem_cons, List.not_mem_nil, or_false] at hx
    rcases hx with rfl | rfl | rfl
    · exact dat_S tS l m hm S
    · exact (((dat_ints t1 lo (by rw [h1]; exact ml)).mono).mono)
    · exact (((dat_ints t2 hi (by rw [h2]; exact ml)).mono).mono)
  cases t <;> exact ⟨(by decide : 3 ≤ line), this⟩
theorem hd0 (t tS t1 t2 : Bool) (l : List (Bool × Bool × Rw)) (lo hi : List Int) : opIdx (hdP t tS t1 t2 l lo hi) (.int 0) = some (pvS tS l) := by cases t <;> rfl
theorem hd1 (t tS t1 t2 : Bool) (l : List (Bool × Bool × Rw)) (lo hi : List Int) : opIdx (hdP t tS t1 t2 l lo hi) (.int 1) = some (sq t1 (lo.map .int)) := by cases t <;> rfl
theorem hd2 (t tS t1 t2 : Bool) (l : List (Bool × Bool × Rw)) (lo hi : List Int) : opIdx (hdP t tS t1 t2 l lo hi) (.int 2) = some (sq t2 (hi.map .int)) := by cases t <;> rfl
theorem view_hd (h : Hs) (t tS t1 t2 : Bool) (l : List (Bool × Bool × Rw)) (lo hi : List Int) : view h (hdP t tS t1 t2 l lo hi) = hdP t tS t1 t2 l lo hi := by cases t <;> rfl
theorem fr_hd (t tS t1 t2 : Bool) (l : List (Bool × Bool × Rw)) (lo hi : List Int) : frOf (hdP t tS t1 t2 l lo hi) = t := by cases t <;> rfl
theorem mk_hd (t tS t1 t2 : Bool) (l : List (Bool × Bool × Rw)) (lo hi : List Int) : mk (hdP t tS t1 t2 l lo hi) t = sl t (hdP t tS t1 t2 l lo hi) := by cases t <;> rfl
def LL (l : List Int) : PV := .lst (l.map .int)
def sysF (rs : List Rw) : List (Bool × Bool × Rw) := rs.map fun r => (false, true, r)
theorem sysF_pv (rs : List Rw) : pvS true (sysF rs) = sysP rs := by
  simp [pvS, sysF, sq, sysP, Function.comp_def]
theorem sysF_rws (rs : List Rw) : rws (sysF rs) = rs := by simp [rws, sysF, Function.comp_def]
theorem sysF_ok {m : Nat} {rs : List Rw} (hr : ∀ r ∈ rs, OkR m r) (hn : rs.length ≤ 6) : Sys m (sysF rs) := by
  refine ⟨fun z hz => ?_, fun z hz => ?_, by simp [sysF]; omega⟩ <;>
  · obtain ⟨r, hr', rfl⟩ := List.mem_map.mp hz
    first | exact (hr r hr').1 | exact (hr r hr').2.sml (by decide)
theorem form_ok {m : Nat} {rs : List Rw} {l : List (Bool × Bool × Rw)} (hl : rws l = rs) (hr : ∀ r ∈ rs, OkR m r) (hn : rs.length ≤ 6) : Sys m l := by
  have hm : ∀ z ∈ l, OkR m z.2.2 := fun z hz => hr _ (by rw [← hl]; exact List.mem_map.mpr ⟨z, hz, rfl⟩)
  refine ⟨fun z hz => (hm z hz).1, fun z hz => (hm z hz).2.sml (by decide), ?_⟩
  have : l.length = rs.length := by rw [← hl]; simp [rws]
  omega
end K02

namespace K02
open PL
open PySem (Str)
/-- the heap behind a told list of rows -/
def hR (rs : List Rw) (h : Hs) : Hs := h ++ cellsL rs ++ [.lst (toldL h.length rs)]
def tR (rs : List Rw) (h : Hs) : Nat := h.length + rs.length
theorem hR_len (rs : List Rw) (h : Hs) : (hR rs h).length = h.length + rs.length + 1 := by simp [hR, cellsL]; omega
theorem hR_top (rs : List Rw) (h : Hs) : (hR rs h)[h.length + rs.length]? = some (.lst (toldL h.length rs)) := by
  unfold hR
  rw [List.getElem?_append_right (by simp [cellsL])]
  simp [cellsL]
theorem hR_cell (rs : List Rw) (h : Hs) (i : Nat) (z : Rw) (hz : rs[i]? = some z) : (hR rs h)[h.length + i]? = some (.lst (z.ns.map .int)) := by
  have hi : i < rs.length := (List.getElem?_eq_some_iff.mp hz).1
  unfold hR
  rw [List.getElem?_append_left (by simp [cellsL]; omega), List.getElem?_append_right (by omega)]
  simp [cellsL, hz]
theorem hR_app (rs : List Rw) (h : Hs) : ∃ x, hR rs h = h ++ x := ⟨cellsL rs ++ [.lst (toldL h.length rs)], by simp [hR]⟩
def rowsP (rs : List Rw) : PV := .lst (rs.map (pvR false true))
theorem R_hR (rs : List Rw) (h h' : Hs) (hh : ∃ x, h' = hR rs h ++ x) (hl : ∀ r ∈ rs, r.ns.length ≤ line) (hl2 : rs.length ≤ line) : Rp h' 3 (.ref (tR rs h)) (rowsP rs) := by
  obtain ⟨x, rfl⟩ := hh
  exact R_told _ h.length _ rs (app_get (hR_top rs h)) (fun i z hz => app_get (hR_cell rs h i z hz)) hl hl2
/-- rows printed into cells, one behind another -/
theorem told_comp (C : Calls) (own : List Nat) (tg : Tg) (it body : Ex) (e e1 : Env) (h : Hs) (xs : List PV) (rs : List Rw) (hlen : xs.length = rs.length) (hi : evI C it e h = .ok (xs, []) e1 h) (E0 : Env) (hE : wipeE own (frzAt own e1) = E0)
    (step : ∀ (i : Nat) (x : PV) (r : Rw) (h' : Hs), xs[i]? = some x → rs[i]? = some r → ∃ e', lcStep C tg .nil body own x E0 h' = .ok [.tup [.ref h'.length, .str (wd r.eq), .int r.b]] e' (h' ++ [.lst (r.ns.map .int)]) ∧ wipeE own e' = E0) (hl2 : rs.length ≤ line) :
    evA C (.cell (.lc own tg it .nil body)) e h = .ok (.v (.ref (tR rs h)) false) (backE own (frzAt own e1) E0) (hR rs h) := by
  obtain ⟨ps, h', q, p1, p2⟩ := lc_gen (gd := []) (C := C) (own := own) (tg := tg) (ifs := .nil) (it := it) (body := body) (e := e) (e1 := e1) (h := h) (h1 := h) (xs := xs) hi
    (fun i acc h1 => acc = toldL h.length (rs.take i) ∧ h1 = h ++ cellsL (rs.take i)) (fun _ => E0) hE (fun i x h1 acc hx ⟨ha, hh1⟩ => by
      have hir : i < rs.length := by rw [← hlen]; exact (List.getElem?_eq_some_iff.mp hx).1
      obtain ⟨r, hr⟩ : ∃ r, rs[i]? = some r := ⟨_, List.getElem?_eq_getElem hir⟩
      obtain ⟨e', q, w⟩ := step i x r h1 hx hr
      refine ⟨_, _, e', q, w, ?_, ?_⟩
      · rw [ha, List.take_succ, hr]
        have el : h1.length = h.length + (rs.take i).length := by rw [hh1]; simp [cellsL]
        rw [el]
        exact (toldL_snoc _ _ _).symm
      · rw [hh1, List.take_succ, hr]
        simp [cellsL]) (fun _ _ _ _ => rfl) ⟨rfl, by simp [cellsL]⟩ (fun ps h' ⟨hp, _⟩ => by
      rw [hp, toldL_len, List.length_take, hlen]
      exact Nat.le_trans (Nat.min_le_right _ _) hl2)
  rw [hlen, List.take_length] at p1 p2
  simp only [evA] at q ⊢
  rw [q]
  simp only [Out.bind, p1, p2]
  simp [hR, tR, cellsL]
theorem s_told_system (k : Nat) (rs : List Rw) (h : Hs) (hl2 : rs.length ≤ line) : callN G (k + 2) 13 [.tup (rs.map (pvR false false))] h = .ret (.ref (tR rs h)) false (hR rs h) := by
  let E0 : Env := [.val (.tup (rs.map (pvR false false))), .no, .no]
  have q := told_comp (callN G (k + 1)) [1, 2] (.nm 2) (.iseq (.var 0)) (.one (.call 12 [] (.cons (.var 2) .nil))) E0 E0 h (rs.map (pvR false false)) rs (by simp)
    (by simp only [evS, evA, evM, evT, evL, evR, evO, evI, Out.bind, Out.noex, lift, rd, v_non, v_bl, v_int, v_str, v_lst, v_tup, v_dic, esc, finish, mk, permute, i_lst, i_tup, lo_lst, List.append_nil, Option.bind_some, Option.bind_none, Option.map_some, Option.map_none, Option.bind_eq_bind, List.getElem?_cons_zero, List.getElem?_cons_succ, List.getElem?_nil, List.set_cons_zero, List.set_cons_succ, List.length_cons, List.length_nil, List.mapM_cons, List.mapM_nil, Option.pure_def, Option.getD_some, and_self, Bool.not_true, Bool.not_false, if_true, if_false, Bool.false_eq_true, Bool.true_eq_false, reduceIte, Nat.reduceAdd, Nat.reduceLT, Nat.reduceSub, E0]) E0 rfl (fun i x r h' hx hr => by
      rw [List.getElem?_map, hr] at hx
      cases hx
      have td := s_told k false r h'
      refine ⟨[.val (.tup (rs.map (pvR false false))), .no, .val (pvR false false r)], ?_, rfl⟩
      rw [lcStep_nil (e' := [.val (.tup (rs.map (pvR false false))), .no, .val (pvR false false r)]) rfl]
      simp only [evS, evA, evM, evT, evL, evR, evO, evI, Out.bind, Out.noex, lift, rd, v_non, v_bl, v_int, v_str, v_lst, v_tup, v_dic, esc, finish, mk, permute, i_lst, i_tup, lo_lst, List.append_nil, Option.bind_some, Option.bind_none, Option.map_some, Option.map_none, Option.bind_eq_bind, List.getElem?_cons_zero, List.getElem?_cons_succ, List.getElem?_nil, List.set_cons_zero, List.set_cons_succ, List.length_cons, List.length_nil, List.mapM_cons, List.mapM_nil, Option.pure_def, Option.getD_some, and_self, Bool.not_true, Bool.not_false, if_true, if_false, Bool.false_eq_true, Bool.true_eq_false, reduceIte, Nat.reduceAdd, Nat.reduceLT, Nat.reduceSub, td]) hl2
  rw [c_told_system, b_told_system]
  simp only [E0] at q
  simp only [evS, q, Out.bind, finish]
/-- a row moved -/
def mv (pt : List Int) (r : Rw) : Rw := ⟨r.ns, r.eq, r.b - val r.ns pt⟩
theorem pvR_ff (r : Rw) : pvR false false r = .tup [.tup (r.ns.map .int), .str (wd r.eq), .int r.b] := rfl
theorem pvR_ft (r : Rw) : pvR false true r = .tup [.lst (r.ns.map .int), .str (wd r.eq), .int r.b] := rfl
theorem s_moved (k : Nat) (rs : List Rw) (pt : List Int) (h : Hs) (hl : ∀ r ∈ rs, r.ns.length ≤ line) (h1 : ∀ r ∈ rs, Sml r.ns) (h2 : Sml pt) (hl2 : rs.length ≤ line) : callN G (k + 2) 14 [.tup (rs.map (pvR false false)), .tup (pt.map .int)] h = .ret (.tup ((rs.map (mv pt)).map (pvR false false))) false h := by
  let E0 : Env := [.val (.tup (rs.map (pvR false false))), .val (.tup (pt.map .int)), .no, .no, .no, .no]
  obtain ⟨ps, h', q, p1, p2⟩ := lc_gen (gd := []) (C := callN G (k + 1)) (own := [2, 3, 4, 5]) (tg := .tp (.cons (.nm 3) (.cons (.nm 4) (.cons (.nm 5) .nil)))) (ifs := .nil) (it := .iseq (.var 0)) (body := .one (.tup (.cons (.var 3) (.cons (.var 4) (.cons (.bin .sub (.var 5) (.call 11 [] (.cons (.var 3) (.cons (.var 1) .nil)))) .nil))))) (e := E0) (e1 := E0) (h := h) (h1 := h) (xs := rs.map (pvR false false))
    (by simp only [evS, evA, evM, evT, evL, evR, evO, evI, Out.bind, Out.noex, lift, rd, v_non, v_bl, v_int, v_str, v_lst, v_tup, v_dic, esc, finish, mk, permute, i_lst, i_tup, lo_lst, List.append_nil, Option.bind_some, Option.bind_none, Option.map_some, Option.map_none, Option.bind_eq_bind, List.getElem?_cons_zero, List.getElem?_cons_succ, List.getElem?_nil, List.set_cons_zero, List.set_cons_succ, List.length_cons, List.length_nil, List.mapM_cons, List.mapM_nil, Option.pure_def, Option.getD_some, and_self, Bool.not_true, Bool.not_false, if_true, if_false, Bool.false_eq_true, Bool.true_eq_false, reduceIte, Nat.reduceAdd, Nat.reduceLT, Nat.reduceSub, E0]) (fun i acc h1 => acc = ((rs.take i).map (mv pt)).map (pvR false false) ∧ h1 = h) (fun _ => E0) rfl (fun i x h1 acc hx ⟨ha, hh1⟩ => by
      subst hh1
      rw [List.getElem?_map, Option.map_eq_some_iff] at hx
      obtain ⟨r, hr, rfl⟩ := hx
      have hm := List.mem_of_getElem? hr
      have sm := s_sum_at k r.ns pt h1 (hl r hm) (‹∀ r ∈ rs, Sml r.ns› r hm) h2
      refine ⟨[pvR false false (mv pt r)], h1, [.val (.tup (rs.map (pvR false false))), .val (.tup (pt.map .int)), .no, .val (.tup (r.ns.map .int)), .val (.str (wd r.eq)), .val (.int r.b)], ?_, rfl, ?_, rfl⟩
      · rw [lcStep_nil (e' := [.val (.tup (rs.map (pvR false false))), .val (.tup (pt.map .int)), .no, .val (.tup (r.ns.map .int)), .val (.str (wd r.eq)), .val (.int r.b)]) rfl]
        rw [pvR_ff (mv pt r)]
        simp only [evS, evA, evM, evT, evL, evR, evO, evI, Out.bind, Out.noex, lift, rd, v_non, v_bl, v_int, v_str, v_lst, v_tup, v_dic, esc, finish, mk, permute, i_lst, i_tup, lo_lst, List.append_nil, Option.bind_some, Option.bind_none, Option.map_some, Option.map_none, Option.bind_eq_bind, List.getElem?_cons_zero, List.getElem?_cons_succ, List.getElem?_nil, List.set_cons_zero, List.set_cons_succ, List.length_cons, List.length_nil, List.mapM_cons, List.mapM_nil, Option.pure_def, Option.getD_some, and_self, Bool.not_true, Bool.not_false, if_true, if_false, Bool.false_eq_true, Bool.true_eq_false, reduceIte, Nat.reduceAdd, Nat.reduceLT, Nat.reduceSub, sm, bSub, mv]
      · rw [ha, List.take_succ, hr]; simp) (fun _ _ _ _ => rfl) ⟨rfl, rfl⟩ (fun ps h' ⟨hp, _⟩ => by rw [hp]; simpa using hl2)
  rw [List.length_map, List.take_length] at p1
  subst p1; subst p2
  have hE : backE [2, 3, 4, 5] (frzAt [2, 3, 4, 5] E0) E0 = E0 := rfl
  rw [hE] at q
  simp only [E0] at q
  have ot : opB .tuple [.lst ((rs.map (mv pt)).map (pvR false false))] = some (.tup ((rs.map (mv pt)).map (pvR false false)), false) := rfl
  rw [c_moved_by, b_moved_by]
  simp only [evS, evA, evM, evT, evL, evR, evO, evI, Out.bind, Out.noex, lift, rd, v_non, v_bl, v_int, v_str, v_lst, v_tup, v_dic, esc, finish, mk, permute, i_lst, i_tup, lo_lst, List.append_nil, Option.bind_some, Option.bind_none, Option.map_some, Option.map_none, Option.bind_eq_bind, List.getElem?_cons_zero, List.getElem?_cons_succ, List.getElem?_nil, List.set_cons_zero, List.set_cons_succ, List.length_cons, List.length_nil, List.mapM_cons, List.mapM_nil, Option.pure_def, Option.getD_some, and_self, Bool.not_true, Bool.not_false, if_true, if_false, Bool.false_eq_true, Bool.true_eq_false, reduceIte, Nat.reduceAdd, Nat.reduceLT, Nat.reduceSub, q, ot]
theorem s_shifted (k : Nat) (ts t1 : Bool) (ls : List (Bool × Bool × Rw)) (m : Nat) (pt : List Int) (h : Hs) (hm1 : 1 ≤ m) (hm : m ≤ 100) (S : Sys m ls) (hp : pt.length = m) (h2 : Sml pt) :
    callN G (k + 7) 15 [.int m, pvS ts ls, sq t1 (pt.map .int)] h = .ret (.ref (tR ((rws ls).map (mv pt)) h)) false (hR ((rws ls).map (mv pt)) h) := by
  have ml : m ≤ line := Nat.le_trans hm line100
  have rl : (rws ls).length ≤ line := by simp [rws]; exact Nat.le_trans S.n line100
  have ns := s_need_system k ts ls m h hm1 S.ln ml (Nat.le_trans S.n line100)
  have np := s_need_point (k + 2) t1 pt m h hp ml
  have mvd := s_moved (k + 4) (rws ls) pt h (fun r hr => by obtain ⟨z, hz, rfl⟩ := List.mem_map.mp hr; rw [S.ln z hz]; exact ml) (fun r hr => by obtain ⟨z, hz, rfl⟩ := List.mem_map.mp hr; exact S.sm z hz) h2 rl
  have td := s_told_system (k + 4) ((rws ls).map (mv pt)) h (by rw [List.length_map]; exact rl)
  rw [c_shifted, b_shifted]
  simp only [evS, evA, evM, evT, evL, evR, evO, evI, Out.bind, Out.noex, lift, rd, v_non, v_bl, v_int, v_str, v_lst, v_tup, v_dic, esc, finish, mk, permute, i_lst, i_tup, lo_lst, List.append_nil, Option.bind_some, Option.bind_none, Option.map_some, Option.map_none, Option.bind_eq_bind, List.getElem?_cons_zero, List.getElem?_cons_succ, List.getElem?_nil, List.set_cons_zero, List.set_cons_succ, List.length_cons, List.length_nil, List.mapM_cons, List.mapM_nil, Option.pure_def, Option.getD_some, and_self, Bool.not_true, Bool.not_false, if_true, if_false, Bool.false_eq_true, Bool.true_eq_false, reduceIte, Nat.reduceAdd, Nat.reduceLT, Nat.reduceSub, ns, np, mvd, td]
end K02

namespace K02
open PL
open PySem (Str)
/-! orders -/
structure OrdOk (m : Nat) (o : List Int) : Prop where
  len : o.length = m
  nd : o.Nodup
  bd : ∀ x ∈ o, 0 ≤ x ∧ x < m
  all : ∀ n : Nat, n < m → (n : Int) ∈ o
theorem fndI_mem : ∀ (is : List Int) (i : Int), i ∈ is → ∃ j, fndI is i = some j ∧ j < is.length
  | [], i, h => by simp at h
  | a :: is, i, h => by
    unfold fndI
    by_cases e : a = i
    · rw [if_pos e]; exact ⟨0, rfl, by simp⟩
    · rw [if_neg e]
      obtain ⟨j, h1, h2⟩ := fndI_mem is i (by rcases List.mem_cons.mp h with h | h; exact absurd h.symm e; exact h)
      exact ⟨j + 1, by rw [h1]; rfl, by simp; omega⟩
def ixf (o : List Int) (n : Nat) : Nat := (fndI o n).getD 0
theorem OrdOk.fnd {m : Nat} {o : List Int} (O : OrdOk m o) {n : Nat} (h : n < m) : fndI o n = some (ixf o n) ∧ ixf o n < m := by
  obtain ⟨j, h1, h2⟩ := fndI_mem o n (O.all n h)
  unfold ixf
  rw [h1]
  exact ⟨rfl, by rw [← O.len]; exact h2⟩
def renN (m : Nat) (o ns : List Int) : List Int := (List.range m).map fun n => ns.getD (ixf o n) 0
def ren (m : Nat) (o : List Int) (r : Rw) : Rw := ⟨renN m o r.ns, r.eq, r.b⟩
theorem ixN_nat {n j : Nat} (h : j < n) : PL.ixN n (j : Int) = some j := by
  unfold PL.ixN
  rw [if_pos (by omega), if_pos (by omega)]; simp
theorem idx_tup {xs : List Int} {j : Nat} (h : j < xs.length) : opIdx (.tup (xs.map .int)) (.int (j : Int)) = some (.int (xs.getD j 0)) := by
  simp only [opIdx, List.length_map, ixN_nat h, Option.bind_some, List.getElem?_map, List.getElem?_eq_getElem h, Option.map_some, List.getD_eq_getElem?_getD, Option.getD_some]
theorem idx_lst {xs : List Int} {j : Nat} (h : j < xs.length) : opIdx (.lst (xs.map .int)) (.int (j : Int)) = some (.int (xs.getD j 0)) := by
  simp only [opIdx, List.length_map, ixN_nat h, Option.bind_some, List.getElem?_map, List.getElem?_eq_getElem h, Option.map_some, List.getD_eq_getElem?_getD, Option.getD_some]
/-! the dict of an order -/
def zk (z : Int × Nat) : (Int ⊕ Str) × PV := (.inl z.1, .int (z.2 : Int))
def fl2 (zs : List (Int × Nat)) : List PV := zs.flatMap fun z => [.int z.1, .int (z.2 : Int)]
theorem mkD_fl : ∀ (zs : List (Int × Nat)) (acc : List ((Int ⊕ Str) × PV)), ((acc.map (·.1)) ++ zs.map fun z => (Sum.inl z.1 : Int ⊕ Str)).Nodup → mkD acc (fl2 zs) = some (acc ++ zs.map zk)
  | [], acc, _ => by simp [fl2, mkD]
  | z :: zs, acc, h => by
    have h1 : (acc.any fun kv => decide (kv.1 = (Sum.inl z.1 : Int ⊕ Str))) = false := by
      rw [List.any_eq_false]
      intro x hx
      simp only [decide_eq_true_eq]
      intro e
      rw [List.nodup_append] at h
      exact h.2.2 x.1 (List.mem_map.mpr ⟨x, hx, rfl⟩) (Sum.inl z.1) (by simp) e
    have hp : putP acc (Sum.inl z.1) (.int (z.2 : Int)) = acc ++ [zk z] := by unfold putP; rw [h1]; rfl
    show mkD acc (.int z.1 :: .int (z.2 : Int) :: fl2 zs) = _
    simp only [mkD, keyOf, hp]
    rw [mkD_fl zs (acc ++ [zk z]) (by simpa [zk] using h)]
    simp
theorem find_zk (n : Int) : ∀ (o : List Int) (s : Nat), ((o.zipIdx s).map zk).find? (fun kv => decide (kv.1 = Sum.inl n)) = (fndI o n).map fun j => zk (n, j + s)
  | [], s => rfl
  | a :: o, s => by
    rw [List.zipIdx_cons, List.map_cons]
    unfold fndI
    by_cases e : a = n
    · subst e
      rw [List.find?_cons_of_pos (by simp [zk]), if_pos rfl]
      simp
    · rw [List.find?_cons_of_neg (by simpa [zk] using e), if_neg e, find_zk n o (s + 1)]
      cases fndI o n with
      | none => rfl
      | some j =>
        show some (zk (n, j + (s + 1))) = some (zk (n, j + 1 + s))
        rw [show j + (s + 1) = j + 1 + s by omega]
def backP (o : List Int) : PV := .dic ((o.zipIdx.map zk).map (·.1)) ((o.zipIdx.map zk).map (·.2))
theorem zip_self2 {α β : Type} : ∀ l : List (α × β), (l.map (·.1)).zip (l.map (·.2)) = l
  | [] => rfl
  | a :: l => by rw [List.map_cons, List.map_cons, List.zip_cons_cons, zip_self2 l]
theorem back_get {m : Nat} {o : List Int} (O : OrdOk m o) {n : Nat} (h : n < m) : opIdx (backP o) (.int (n : Int)) = some (.int (ixf o n : Nat)) := by
  unfold backP
  simp only [opIdx, keyOf, Option.bind_some, valP, zip_self2]
  rw [find_zk, (O.fnd h).1]
  simp [zk]
theorem back_len {m : Nat} {o : List Int} (O : OrdOk m o) : opB .len [backP o] = some (.int (m : Int), false) := by
  unfold backP
  simp [opB, O.len]
theorem zipIdx_snd_nd {o : List Int} (h : o.Nodup) : (o.zipIdx.map fun z => (Sum.inl z.1 : Int ⊕ Str)).Nodup := by
  have : (o.zipIdx.map fun z => (Sum.inl z.1 : Int ⊕ Str)) = o.map Sum.inl := by
    have h2 : (o.zipIdx.map fun z => (Sum.inl z.1 : Int ⊕ Str)) = (o.zipIdx.map (·.1)).map Sum.inl := by rw [List.map_map]; rfl
    rw [h2, List.zipIdx_map_fst]
  rw [this]
  exact List.Pairwise.map _ (fun a b hab e => hab (Sum.inl.inj e)) h
theorem enum_ints (o : List Int) : enumItems (o.map .int) = (o.zipIdx).map fun z => PV.tup [.int (z.2 : Nat), .int z.1] := by
  unfold enumItems
  rw [List.zipIdx_map, List.map_map]
  rfl
end K02

namespace K02
open PL
open PySem (Str)
theorem s_is_below (k : Nat) (x m : Int) (h : Hs) (h0 : 0 ≤ x) (h1 : x < m) : callN G (k + 3) 3 [.int x, .int m] h = .ret (.bl true) false h := by
  have w := s_is_whole_int k x h
  have n : callN G (k + 2) 2 [.int x] h = .ret (.bl true) false h := by
    rw [c_is_number, b_is_number]
    simp only [evS, evA, evM, evT, evL, evR, evO, evI, Out.bind, Out.noex, lift, rd, v_non, v_bl, v_int, v_str, v_lst, v_tup, v_dic, esc, finish, mk, permute, i_lst, i_tup, lo_lst, List.append_nil, Option.bind_some, Option.bind_none, Option.map_some, Option.map_none, Option.bind_eq_bind, List.getElem?_cons_zero, List.getElem?_cons_succ, List.getElem?_nil, List.set_cons_zero, List.set_cons_succ, List.length_cons, List.length_nil, List.mapM_cons, List.mapM_nil, Option.pure_def, Option.getD_some, and_self, Bool.not_true, Bool.not_false, if_true, if_false, Bool.false_eq_true, Bool.true_eq_false, reduceIte, Nat.reduceAdd, Nat.reduceLT, Nat.reduceSub, w, truthy, opCmp, h0, decide_true]
  rw [c_is_below, b_is_below]
  simp only [evS, evA, evM, evT, evL, evR, evO, evI, Out.bind, Out.noex, lift, rd, v_non, v_bl, v_int, v_str, v_lst, v_tup, v_dic, esc, finish, mk, permute, i_lst, i_tup, lo_lst, List.append_nil, Option.bind_some, Option.bind_none, Option.map_some, Option.map_none, Option.bind_eq_bind, List.getElem?_cons_zero, List.getElem?_cons_succ, List.getElem?_nil, List.set_cons_zero, List.set_cons_succ, List.length_cons, List.length_nil, List.mapM_cons, List.mapM_nil, Option.pure_def, Option.getD_some, and_self, Bool.not_true, Bool.not_false, if_true, if_false, Bool.false_eq_true, Bool.true_eq_false, reduceIte, Nat.reduceAdd, Nat.reduceLT, Nat.reduceSub, n, truthy, opCmp, h1, decide_true]
def rEnv (m : Nat) (sv ov kv : PV) (s4 : SV) : Env := [.val (.int m), .val sv, .val ov, .val kv, s4, .no, .no, .no, .no, .no, .no, .no]
theorem sq_idx (t : Bool) (xs : List PV) (h : Hs) : seqOf h (sq t xs) = some (xs, []) := by cases t <;> rfl
theorem back_eval (C : Calls) (h : Hs) (m : Nat) (sv kv : PV) (t : Bool) (o : List Int) (O : OrdOk m o) (hm : m ≤ 100) :
    evA C (.dc [5, 7, 8] (.tp (.cons (.nm 7) (.cons (.nm 8) .nil))) (.ienum (.var 2)) .nil (.kv (.var 8) (.var 7))) (rEnv m sv (sq t (o.map .int)) kv .no) h = .ok (.v (backP o) false) (rEnv m sv (sq t (o.map .int)) kv .no) h := by
  let E0 : Env := rEnv m sv (sq t (o.map .int)) kv .no
  have hi : evI C (.ienum (.var 2)) E0 h = .ok (enumItems (o.map .int), []) E0 h := by
    cases t <;> simp only [E0, rEnv, sq, evS, evA, evM, evT, evL, evR, evO, evI, Out.bind, Out.noex, lift, rd, v_non, v_bl, v_int, v_str, v_lst, v_tup, v_dic, esc, finish, mk, permute, i_lst, i_tup, lo_lst, List.append_nil, Option.bind_some, Option.bind_none, Option.map_some, Option.map_none, Option.bind_eq_bind, List.getElem?_cons_zero, List.getElem?_cons_succ, List.getElem?_nil, List.set_cons_zero, List.set_cons_succ, List.length_cons, List.length_nil, List.mapM_cons, List.mapM_nil, Option.pure_def, Option.getD_some, and_self, Bool.not_true, Bool.not_false, if_true, if_false, Bool.false_eq_true, Bool.true_eq_false, reduceIte, Nat.reduceAdd, Nat.reduceLT, Nat.reduceSub]
  obtain ⟨ps, e', h', q, p1, p2, p3⟩ := lcLoop_run (gd := []) (f := lcStep C (.tp (.cons (.nm 7) (.cons (.nm 8) .nil))) .nil (.kv (.var 8) (.var 7)) [5, 7, 8]) (xs := enumItems (o.map .int))
    (fun i acc e h' => acc = fl2 (o.zipIdx.take i) ∧ wipeE [5, 7, 8] e = E0 ∧ h' = h) (fun i x e h' acc hx ⟨ha, he, hh⟩ => by
      subst hh
      rw [enum_ints, List.getElem?_map, Option.map_eq_some_iff] at hx
      obtain ⟨z, hz, rfl⟩ := hx
      refine ⟨[.int z.1, .int (z.2 : Int)], (E0.set 7 (.val (.int (z.2 : Int)))).set 8 (.val (.int z.1)), h', ?_, ?_, rfl, rfl⟩
      · rw [lcStep_wipe, he, lcStep_nil (e' := (E0.set 7 (.val (.int (z.2 : Int)))).set 8 (.val (.int z.1))) rfl]
        simp only [E0, rEnv, evS, evA, evM, evT, evL, evR, evO, evI, Out.bind, Out.noex, lift, rd, v_non, v_bl, v_int, v_str, v_lst, v_tup, v_dic, esc, finish, mk, permute, i_lst, i_tup, lo_lst, List.append_nil, Option.bind_some, Option.bind_none, Option.map_some, Option.map_none, Option.bind_eq_bind, List.getElem?_cons_zero, List.getElem?_cons_succ, List.getElem?_nil, List.set_cons_zero, List.set_cons_succ, List.length_cons, List.length_nil, List.mapM_cons, List.mapM_nil, Option.pure_def, Option.getD_some, and_self, Bool.not_true, Bool.not_false, if_true, if_false, Bool.false_eq_true, Bool.true_eq_false, reduceIte, Nat.reduceAdd, Nat.reduceLT, Nat.reduceSub]
      · rw [ha, List.take_succ, hz]
        simp [fl2]) (fun _ _ _ _ _ => rfl) (e := frzAt [5, 7, 8] E0) (h := h) ⟨by simp [fl2], rfl, rfl⟩
  have hlen : (enumItems (o.map .int)).length = o.zipIdx.length := by simp [enumItems]
  rw [hlen, List.take_length] at p1
  subst p1; subst p3
  have hmk := mkD_fl o.zipIdx [] (by simpa using zipIdx_snd_nd O.nd)
  have hl : (fl2 o.zipIdx).length ≤ line := by
    have : ∀ zs : List (Int × Nat), (fl2 zs).length = 2 * zs.length := by
      intro zs
      induction zs with
      | nil => rfl
      | cons z zs ih => show ([PV.int z.1, .int (z.2 : Int)] ++ fl2 zs).length = _; rw [List.length_append, ih]; simp; omega
    rw [this, List.length_zipIdx, O.len]
    exact Nat.le_trans (show 2 * m ≤ 200 by omega) (by decide)
  have hi' : evI C (.ienum (.var 2)) (rEnv m sv (sq t (o.map .int)) kv .no) h' = .ok (enumItems (o.map .int), []) E0 h' := hi
  simp only [evA, hi', bind_okE]
  change (match (lcLoop [] (lcStep C (.tp (.cons (.nm 7) (.cons (.nm 8) .nil))) .nil (.kv (.var 8) (.var 7)) [5, 7, 8]) (enumItems (o.map .int)) (frzAt [5, 7, 8] E0) h').noex with
      | Out.ok ps e2 h2 => if ps.length ≤ line then (match mkD [] ps with
        | some kvs => Out.ok (Rs.v (PV.dic (kvs.map (fun (x : (Int ⊕ Str) × PV) => x.1)) (kvs.map (fun (x : (Int ⊕ Str) × PV) => x.2))) false) (backE [5, 7, 8] (frzAt [5, 7, 8] E0) e2) h2
        | none => Out.stuck) else Out.stuck
      | _ => Out.stuck) = _
  rw [q]
  simp only [Out.noex]
  rw [if_pos hl, hmk]
  simp only [List.nil_append]
  rw [backE_wipe, p2]
  rfl
/-- a row's numbers in another order, from tuples -/
theorem ren_inner (C : Calls) (h : Hs) (m : Nat) (sv ov kv : PV) (o : List Int) (O : OrdOk m o) (hm : m ≤ 100) (r : Rw) (hr : r.ns.length = m) :
    evA C (.cell (.lc [5, 8] (.nm 8) (.irng1 (.var 0)) .nil (.one (.idx (.var 9) (.idx (.var 4) (.var 8)))))) [.val (.int m), .val sv, .val ov, .val kv, .val (backP o), .no, .no, .no, .no, .val (.tup (r.ns.map .int)), .val (.str (wd r.eq)), .val (.int r.b)] h
      = .ok (.v (.ref h.length) false) [.val (.int m), .val sv, .val ov, .val kv, .val (backP o), .no, .no, .no, .no, .val (.tup (r.ns.map .int)), .val (.str (wd r.eq)), .val (.int r.b)] (h ++ [.lst ((renN m o r.ns).map .int)]) := by
  let E0 : Env := [.val (.int m), .val sv, .val ov, .val kv, .val (backP o), .no, .no, .no, .no, .val (.tup (r.ns.map .int)), .val (.str (wd r.eq)), .val (.int r.b)]
  have lc := lc_map (gd := []) (C := C) (own := [5, 8]) (tg := .nm 8) (it := .irng1 (.var 0)) (body := .one (.idx (.var 9) (.idx (.var 4) (.var 8)))) (e := E0) (e1 := E0) (h := h) (h1 := h) (xs := rngItems 0 m)
    (by simp only [evS, evA, evM, evT, evL, evR, evO, evI, Out.bind, Out.noex, lift, rd, v_non, v_bl, v_int, v_str, v_lst, v_tup, v_dic, esc, finish, mk, permute, i_lst, i_tup, lo_lst, List.append_nil, Option.bind_some, Option.bind_none, Option.map_some, Option.map_none, Option.bind_eq_bind, List.getElem?_cons_zero, List.getElem?_cons_succ, List.getElem?_nil, List.set_cons_zero, List.set_cons_succ, List.length_cons, List.length_nil, List.mapM_cons, List.mapM_nil, Option.pure_def, Option.getD_some, and_self, Bool.not_true, Bool.not_false, if_true, if_false, Bool.false_eq_true, Bool.true_eq_false, reduceIte, Nat.reduceAdd, Nat.reduceLT, Nat.reduceSub, E0, (sml9 m).mpr (by omega)]) rfl (fun x => match x with | .int i => .int (r.ns.getD (ixf o i.toNat) 0) | _ => .non) E0 rfl (by rw [rng_len]; exact Nat.le_trans hm line100) (fun p hp => by
      obtain ⟨i, hi⟩ := List.getElem?_of_mem hp
      obtain ⟨him, rfl⟩ := rng_get m i p hi
      refine ⟨E0.set 8 (.val (.int (i : Int))), ?_, rfl⟩
      rw [lcStep_nil (e' := E0.set 8 (.val (.int (i : Int)))) rfl]
      have b1 := back_get O him
      have b2 : opIdx (.tup (r.ns.map .int)) (.int (ixf o i : Nat)) = some (.int (r.ns.getD (ixf o i) 0)) := idx_tup (by rw [hr]; exact (O.fnd him).2)
      have vb : ∀ h, view h (backP o) = backP o := fun _ => rfl
      simp only [evS, evA, evM, evT, evL, evR, evO, evI, Out.bind, Out.noex, lift, rd, v_non, v_bl, v_int, v_str, v_lst, v_tup, v_dic, esc, finish, mk, permute, i_lst, i_tup, lo_lst, List.append_nil, Option.bind_some, Option.bind_none, Option.map_some, Option.map_none, Option.bind_eq_bind, List.getElem?_cons_zero, List.getElem?_cons_succ, List.getElem?_nil, List.set_cons_zero, List.set_cons_succ, List.length_cons, List.length_nil, List.mapM_cons, List.mapM_nil, Option.pure_def, Option.getD_some, and_self, Bool.not_true, Bool.not_false, if_true, if_false, Bool.false_eq_true, Bool.true_eq_false, reduceIte, Nat.reduceAdd, Nat.reduceLT, Nat.reduceSub, E0, vb, b1, b2, Int.toNat_natCast])
  have hz : ((rngItems 0 m).map fun x => match x with | .int i => PV.int (r.ns.getD (ixf o i.toNat) 0) | _ => .non) = (renN m o r.ns).map .int := by
    simp [rngItems, renN, List.map_map, Function.comp_def]
  rw [hz] at lc
  have hE : backE [5, 8] (frzAt [5, 8] E0) E0 = E0 := rfl
  rw [hE] at lc
  simp only [evA] at lc ⊢
  rw [lc]
  rfl
theorem ren_row (C : Calls) (h : Hs) (m : Nat) (sv ov kv : PV) (o : List Int) (O : OrdOk m o) (hm : m ≤ 100) (r : Rw) (hr : r.ns.length = m) :
    evM C (.one (.tup (.cons (.cell (.lc [5, 8] (.nm 8) (.irng1 (.var 0)) .nil (.one (.idx (.var 9) (.idx (.var 4) (.var 8)))))) (.cons (.var 10) (.cons (.var 11) .nil))))) [.val (.int m), .val sv, .val ov, .val kv, .val (backP o), .no, .no, .no, .no, .val (.tup (r.ns.map .int)), .val (.str (wd r.eq)), .val (.int r.b)] h
      = .ok [.tup [.ref h.length, .str (wd (ren m o r).eq), .int (ren m o r).b]] [.val (.int m), .val sv, .val ov, .val kv, .val (backP o), .no, .no, .no, .no, .val (.tup (r.ns.map .int)), .val (.str (wd r.eq)), .val (.int r.b)] (h ++ [.lst ((ren m o r).ns.map .int)]) := by
  have inn := ren_inner C h m sv ov kv o O hm r hr
  have e1 : evL C (.cons (.var 10) (.cons (.var 11) .nil)) [.val (.int m), .val sv, .val ov, .val kv, .val (backP o), .no, .no, .no, .no, .val (.tup (r.ns.map .int)), .val (.str (wd r.eq)), .val (.int r.b)] (h ++ [.lst ((renN m o r.ns).map .int)]) = .ok [.str (wd r.eq), .int r.b] [.val (.int m), .val sv, .val ov, .val kv, .val (backP o), .no, .no, .no, .no, .val (.tup (r.ns.map .int)), .val (.str (wd r.eq)), .val (.int r.b)] (h ++ [.lst ((renN m o r.ns).map .int)]) := by
    simp only [evS, evA, evM, evT, evL, evR, evO, evI, Out.bind, Out.noex, lift, rd, v_non, v_bl, v_int, v_str, v_lst, v_tup, v_dic, esc, finish, mk, permute, i_lst, i_tup, lo_lst, List.append_nil, Option.bind_some, Option.bind_none, Option.map_some, Option.map_none, Option.bind_eq_bind, List.getElem?_cons_zero, List.getElem?_cons_succ, List.getElem?_nil, List.set_cons_zero, List.set_cons_succ, List.length_cons, List.length_nil, List.mapM_cons, List.mapM_nil, Option.pure_def, Option.getD_some, and_self, Bool.not_true, Bool.not_false, if_true, if_false, Bool.false_eq_true, Bool.true_eq_false, reduceIte, Nat.reduceAdd, Nat.reduceLT, Nat.reduceSub]
  have e2 : evA C (.tup (.cons (.cell (.lc [5, 8] (.nm 8) (.irng1 (.var 0)) .nil (.one (.idx (.var 9) (.idx (.var 4) (.var 8)))))) (.cons (.var 10) (.cons (.var 11) .nil)))) [.val (.int m), .val sv, .val ov, .val kv, .val (backP o), .no, .no, .no, .no, .val (.tup (r.ns.map .int)), .val (.str (wd r.eq)), .val (.int r.b)] h = .ok (.v (.tup [.ref h.length, .str (wd r.eq), .int r.b]) false) [.val (.int m), .val sv, .val ov, .val kv, .val (backP o), .no, .no, .no, .no, .val (.tup (r.ns.map .int)), .val (.str (wd r.eq)), .val (.int r.b)] (h ++ [.lst ((renN m o r.ns).map .int)]) := by
    unfold evA evL
    rw [inn]
    show ((evL C (.cons (.var 10) (.cons (.var 11) .nil)) _ _).bind _).bind _ = _
    rw [e1]; rfl
  unfold evM
  rw [e2]; rfl
theorem ren_step (C : Calls) (h : Hs) (m : Nat) (sv ov kv : PV) (o : List Int) (O : OrdOk m o) (hm : m ≤ 100) (r : Rw) (hr : r.ns.length = m) :
    ∃ e', lcStep C (.tp (.cons (.nm 9) (.cons (.nm 10) (.cons (.nm 11) .nil)))) .nil (.one (.tup (.cons (.cell (.lc [5, 8] (.nm 8) (.irng1 (.var 0)) .nil (.one (.idx (.var 9) (.idx (.var 4) (.var 8)))))) (.cons (.var 10) (.cons (.var 11) .nil))))) [5, 9, 10, 11] (pvR false false r) (rEnv m sv ov kv (.val (backP o))) h
      = .ok [.tup [.ref h.length, .str (wd (ren m o r).eq), .int (ren m o r).b]] e' (h ++ [.lst ((ren m o r).ns.map .int)]) ∧ wipeE [5, 9, 10, 11] e' = rEnv m sv ov kv (.val (backP o)) := by
  refine ⟨[.val (.int m), .val sv, .val ov, .val kv, .val (backP o), .no, .no, .no, .no, .val (.tup (r.ns.map .int)), .val (.str (wd r.eq)), .val (.int r.b)], ?_, rfl⟩
  rw [lcStep_nil (e' := [.val (.int m), .val sv, .val ov, .val kv, .val (backP o), .no, .no, .no, .no, .val (.tup (r.ns.map .int)), .val (.str (wd r.eq)), .val (.int r.b)]) rfl]
  exact ren_row C h m sv ov kv o O hm r hr
theorem s_renamed (k : Nat) (ts t1 : Bool) (ls : List (Bool × Bool × Rw)) (m : Nat) (o : List Int) (h : Hs) (hm1 : 1 ≤ m) (hm : m ≤ 100) (S : Sys m ls) (O : OrdOk m o) :
    callN G (k + 7) 16 [.int m, pvS ts ls, sq t1 (o.map .int)] h = .ret (.ref (tR ((rws ls).map (ren m o)) h)) false (hR ((rws ls).map (ren m o)) h) := by
  have ml : m ≤ line := Nat.le_trans hm line100
  have rl : (rws ls).length ≤ line := by simp [rws]; exact Nat.le_trans S.n line100
  have ns := s_need_system k ts ls m h hm1 S.ln ml (Nat.le_trans S.n line100)
  have ir := s_is_row (k + 4) t1 (o.map .int) m h
  have hlo : (((o.map PV.int).length : Int) == m) = true := by rw [List.length_map, O.len]; simp
  rw [hlo] at ir
  let sv := pvS ts ls
  let ov := sq t1 (o.map .int)
  let kv : PV := .tup ((rws ls).map (pvR false false))
  let E1 : Env := rEnv m sv ov kv .no
  have x3 : evS (callN G (k + 6)) (.asg 3 (.call 9 [] (.cons (.var 0) (.cons (.var 1) .nil)))) [.val (.int m), .val (pvS ts ls), .val (sq t1 (o.map .int)), .no, .no, .no, .no, .no, .no, .no, .no, .no] h = .ok .next E1 h := by
    simp only [evS, evA, evM, evT, evL, evR, evO, evI, Out.bind, Out.noex, lift, rd, v_non, v_bl, v_int, v_str, v_lst, v_tup, v_dic, esc, finish, mk, permute, i_lst, i_tup, lo_lst, List.append_nil, Option.bind_some, Option.bind_none, Option.map_some, Option.map_none, Option.bind_eq_bind, List.getElem?_cons_zero, List.getElem?_cons_succ, List.getElem?_nil, List.set_cons_zero, List.set_cons_succ, List.length_cons, List.length_nil, List.mapM_cons, List.mapM_nil, Option.pure_def, Option.getD_some, and_self, Bool.not_true, Bool.not_false, if_true, if_false, Bool.false_eq_true, Bool.true_eq_false, reduceIte, Nat.reduceAdd, Nat.reduceLT, Nat.reduceSub, ns]; rfl
  have lc := lc_map (gd := []) (C := callN G (k + 6)) (own := [5, 6]) (tg := .nm 6) (it := .iseq (.var 2)) (body := .one (.call 3 [] (.cons (.var 6) (.cons (.var 0) .nil)))) (e := E1) (e1 := E1) (h := h) (h1 := h) (xs := o.map .int)
    (by simp only [evS, evA, evM, evT, evL, evR, evO, evI, Out.bind, Out.noex, lift, rd, v_non, v_bl, v_int, v_str, v_lst, v_tup, v_dic, esc, finish, mk, permute, i_lst, i_tup, lo_lst, List.append_nil, Option.bind_some, Option.bind_none, Option.map_some, Option.map_none, Option.bind_eq_bind, List.getElem?_cons_zero, List.getElem?_cons_succ, List.getElem?_nil, List.set_cons_zero, List.set_cons_succ, List.length_cons, List.length_nil, List.mapM_cons, List.mapM_nil, Option.pure_def, Option.getD_some, and_self, Bool.not_true, Bool.not_false, if_true, if_false, Bool.false_eq_true, Bool.true_eq_false, reduceIte, Nat.reduceAdd, Nat.reduceLT, Nat.reduceSub, E1, rEnv, ov, sq_idx]) rfl (fun _ => .bl true) E1 rfl (by rw [List.length_map, O.len]; exact ml) (fun p hp => by
      obtain ⟨x, hx, rfl⟩ := List.mem_map.mp hp
      refine ⟨E1.set 6 (.val (.int x)), ?_, rfl⟩
      rw [lcStep_nil (e' := E1.set 6 (.val (.int x))) rfl]
      have hb := O.bd x hx
      simp only [evS, evA, evM, evT, evL, evR, evO, evI, Out.bind, Out.noex, lift, rd, v_non, v_bl, v_int, v_str, v_lst, v_tup, v_dic, esc, finish, mk, permute, i_lst, i_tup, lo_lst, List.append_nil, Option.bind_some, Option.bind_none, Option.map_some, Option.map_none, Option.bind_eq_bind, List.getElem?_cons_zero, List.getElem?_cons_succ, List.getElem?_nil, List.set_cons_zero, List.set_cons_succ, List.length_cons, List.length_nil, List.mapM_cons, List.mapM_nil, Option.pure_def, Option.getD_some, and_self, Bool.not_true, Bool.not_false, if_true, if_false, Bool.false_eq_true, Bool.true_eq_false, reduceIte, Nat.reduceAdd, Nat.reduceLT, Nat.reduceSub, E1, rEnv, s_is_below (k + 3) x m h hb.1 hb.2])
  have hE : backE [5, 6] (frzAt [5, 6] E1) E1 = E1 := rfl
  have hmc : (o.map PV.int).map (fun _ => PV.bl true) = List.replicate o.length (.bl true) := by rw [List.map_const', List.length_map]
  rw [hE, hmc] at lc
  have x4 : evS (callN G (k + 6)) (.ite (.or (.not (.call 4 [] (.cons (.var 2) (.cons (.var 0) .nil)))) (.not (.bcall .all (.cons (.lc [5, 6] (.nm 6) (.iseq (.var 2)) .nil (.one (.call 3 [] (.cons (.var 6) (.cons (.var 0) .nil))))) .nil)))) .stuck .skip) E1 h = .ok .next E1 h := by
    simp only [E1, rEnv, ov] at lc ⊢
    simp only [evS, evA, evM, evT, evL, evR, evO, evI, Out.bind, Out.noex, lift, rd, v_non, v_bl, v_int, v_str, v_lst, v_tup, v_dic, esc, finish, mk, permute, i_lst, i_tup, lo_lst, List.append_nil, Option.bind_some, Option.bind_none, Option.map_some, Option.map_none, Option.bind_eq_bind, List.getElem?_cons_zero, List.getElem?_cons_succ, List.getElem?_nil, List.set_cons_zero, List.set_cons_succ, List.length_cons, List.length_nil, List.mapM_cons, List.mapM_nil, Option.pure_def, Option.getD_some, and_self, Bool.not_true, Bool.not_false, if_true, if_false, Bool.false_eq_true, Bool.true_eq_false, reduceIte, Nat.reduceAdd, Nat.reduceLT, Nat.reduceSub, ir, truthy, lc, all_true]
  have x5 : evS (callN G (k + 6)) (.asg 4 (.dc [5, 7, 8] (.tp (.cons (.nm 7) (.cons (.nm 8) .nil))) (.ienum (.var 2)) .nil (.kv (.var 8) (.var 7)))) E1 h = .ok .next (rEnv m sv ov kv (.val (backP o))) h :=
    asg_of (back_eval (callN G (k + 6)) h m sv kv t1 o O hm) rfl (by show 4 < 12; decide)
  have bl := back_len O
  have x6 : evS (callN G (k + 6)) (.ite (.cmp .ne (.bcall .len (.cons (.var 4) .nil)) (.var 0)) .stuck .skip) (rEnv m sv ov kv (.val (backP o))) h = .ok .next (rEnv m sv ov kv (.val (backP o))) h := by
    have vb : ∀ h, view h (backP o) = backP o := fun _ => rfl
    unfold rEnv
    simp only [evS, evA, evM, evT, evL, evR, evO, evI, Out.bind, Out.noex, lift, rd, v_non, v_bl, v_int, v_str, v_lst, v_tup, v_dic, esc, finish, mk, permute, i_lst, i_tup, lo_lst, List.append_nil, Option.bind_some, Option.bind_none, Option.map_some, Option.map_none, Option.bind_eq_bind, List.getElem?_cons_zero, List.getElem?_cons_succ, List.getElem?_nil, List.set_cons_zero, List.set_cons_succ, List.length_cons, List.length_nil, List.mapM_cons, List.mapM_nil, Option.pure_def, Option.getD_some, and_self, Bool.not_true, Bool.not_false, if_true, if_false, Bool.false_eq_true, Bool.true_eq_false, reduceIte, Nat.reduceAdd, Nat.reduceLT, Nat.reduceSub, vb, bl, opCmp, eqi, beq_self_eq_true, truthy]
  let E2 : Env := rEnv m sv ov kv (.val (backP o))
  have q := told_comp (callN G (k + 6)) [5, 9, 10, 11] (.tp (.cons (.nm 9) (.cons (.nm 10) (.cons (.nm 11) .nil)))) (.iseq (.var 3)) (.one (.tup (.cons (.cell (.lc [5, 8] (.nm 8) (.irng1 (.var 0)) .nil (.one (.idx (.var 9) (.idx (.var 4) (.var 8)))))) (.cons (.var 10) (.cons (.var 11) .nil))))) E2 E2 h ((rws ls).map (pvR false false)) ((rws ls).map (ren m o)) (by simp)
    (by simp only [evS, evA, evM, evT, evL, evR, evO, evI, Out.bind, Out.noex, lift, rd, v_non, v_bl, v_int, v_str, v_lst, v_tup, v_dic, esc, finish, mk, permute, i_lst, i_tup, lo_lst, List.append_nil, Option.bind_some, Option.bind_none, Option.map_some, Option.map_none, Option.bind_eq_bind, List.getElem?_cons_zero, List.getElem?_cons_succ, List.getElem?_nil, List.set_cons_zero, List.set_cons_succ, List.length_cons, List.length_nil, List.mapM_cons, List.mapM_nil, Option.pure_def, Option.getD_some, and_self, Bool.not_true, Bool.not_false, if_true, if_false, Bool.false_eq_true, Bool.true_eq_false, reduceIte, Nat.reduceAdd, Nat.reduceLT, Nat.reduceSub, E2, rEnv, kv]) E2 rfl (fun i x r h' hx hr => by
      rw [List.getElem?_map, Option.map_eq_some_iff] at hx hr
      obtain ⟨r0, hr0, rfl⟩ := hx
      obtain ⟨r1, hr1, rfl⟩ := hr
      rw [hr0] at hr1
      cases hr1
      obtain ⟨z, hz, hzr⟩ := List.mem_map.mp (List.mem_of_getElem? hr0)
      have hrl : r0.ns.length = m := by rw [← hzr]; exact S.ln z hz
      exact ren_step (callN G (k + 6)) h' m sv ov kv o O hm r0 hrl) (by rw [List.length_map]; exact rl)
  have hE2 : backE [5, 9, 10, 11] (frzAt [5, 9, 10, 11] E2) E2 = E2 := rfl
  rw [hE2] at q
  rw [c_renamed, b_renamed]
  rw [seq_next x3, seq_next x4, seq_next x5, seq_next x6]
  simp only [evS, E2] at q ⊢
  simp only [q, Out.bind, finish]
end K02

namespace K02
open PL
open PySem (Str)
def pt1 (p : Nat) (v : Int) (r : Rw) : Rw := ⟨r.ns.take p ++ r.ns.drop (p + 1), r.eq, r.b - r.ns.getD p 0 * v⟩
theorem sli_lo (xs : List PV) (p : Nat) (h : p < xs.length) : opSli (.tup xs) none (some (p : Int)) = some (.tup (xs.take p), false) := by
  have e1 : PL.sIx xs.length xs.length (some (p : Int)) = p := by
    show (if (p : Int) < 0 then ((p : Int) + (xs.length : Int)).toNat else min (p : Int).toNat xs.length) = p
    rw [if_neg (by omega), Int.toNat_natCast]; omega
  simp only [opSli, PL.cut]
  rw [if_neg (by rw [e1]; intro hh; omega), e1]
  simp [PL.sIx]
theorem sli_hi (xs : List PV) (p : Nat) (h : p < xs.length) : opSli (.tup xs) (some ((p : Int) + 1)) none = some (.tup (xs.drop (p + 1)), false) := by
  have e1 : PL.sIx xs.length 0 (some ((p : Int) + 1)) = p + 1 := by
    show (if (p : Int) + 1 < 0 then ((p : Int) + 1 + (xs.length : Int)).toNat else min ((p : Int) + 1).toNat xs.length) = p + 1
    rw [if_neg (by omega)]; omega
  simp only [opSli, PL.cut]
  rw [if_neg (by rw [e1]; intro hh; omega), e1]
  simp only [PL.sIx]
  rw [List.take_of_length_le (by simp)]
theorem sll_lo (xs : List PV) (p : Nat) (h : p < xs.length) : opSli (.lst xs) none (some (p : Int)) = some (.lst (xs.take p), true) := by
  have e1 : PL.sIx xs.length xs.length (some (p : Int)) = p := by
    show (if (p : Int) < 0 then ((p : Int) + (xs.length : Int)).toNat else min (p : Int).toNat xs.length) = p
    rw [if_neg (by omega), Int.toNat_natCast]; omega
  simp only [opSli, PL.cut, e1]
  simp [PL.sIx]
theorem sll_hi (xs : List PV) (p : Nat) (h : p < xs.length) : opSli (.lst xs) (some ((p : Int) + 1)) none = some (.lst (xs.drop (p + 1)), true) := by
  have e1 : PL.sIx xs.length 0 (some ((p : Int) + 1)) = p + 1 := by
    show (if (p : Int) + 1 < 0 then ((p : Int) + 1 + (xs.length : Int)).toNat else min ((p : Int) + 1).toNat xs.length) = p + 1
    rw [if_neg (by omega)]; omega
  simp only [opSli, PL.cut, e1]
  simp only [PL.sIx]
  rw [List.take_of_length_le (by simp)]
theorem bAddT (xs ys : List PV) (h : xs.length + ys.length ≤ line) : opBin .add (.tup xs) (.tup ys) = some (.tup (xs ++ ys), false) := by simp [opBin, h]
theorem bAddLs (xs ys : List PV) (h : xs.length + ys.length ≤ line) : opBin .add (.lst xs) (.lst ys) = some (.lst (xs ++ ys), true) := by simp [opBin, h]
def wnB : Sm := (.expr (.meth .append (.var 3) (.cons (.tup (.cons (.bin .add (.sli (.var 4) .nil (.var 1)) (.sli (.var 4) (.bin .add (.var 1) (.con (.int (1)))) .nil)) (.cons (.var 5) (.cons (.bin .sub (.var 6) (.bin .mul (.idx (.var 4) (.var 1)) (.var 2))) .nil)))) .nil)))
theorem wn_body : b_with_number = (.seq (.asg 3 (.lst .nil)) (.seq (.for_ (.tp (.cons (.nm 4) (.cons (.nm 5) (.cons (.nm 6) .nil)))) (.iseq (.var 0)) wnB) (.ret (.bcall .tuple (.cons (.var 3) .nil))))) := rfl
theorem getD_small {l : List Int} (h : Sml l) (p : Nat) : (l.getD p 0).natAbs < 2 ^ 200 := by
  rw [List.getD_eq_getElem?_getD]
  cases q : l[p]? with
  | none => decide
  | some x => exact h x (List.mem_of_getElem? q)
theorem s_with (k : Nat) (rs : List Rw) (m p : Nat) (v : Int) (h : Hs) (hp : p < m) (hm : m ≤ 100) (hl : ∀ r ∈ rs, r.ns.length = m) (h1 : ∀ r ∈ rs, Sml r.ns) (hv : v.natAbs < 2 ^ 200) (hl2 : rs.length ≤ 100) : callN G (k + 1) 17 [.tup (rs.map (pvR false false)), .int p, .int v] h = .ret (.tup ((rs.map (pt1 p v)).map (pvR false false))) false h := by
  have s0 : evS (callN G k) (.asg 3 (.lst .nil)) [.val (.tup (rs.map (pvR false false))), .val (.int p), .val (.int v), .no, .no, .no, .no] h = .ok .next [.val (.tup (rs.map (pvR false false))), .val (.int p), .val (.int v), .own (.lst []), .no, .no, .no] h := by simp only [evS, evA, evM, evT, evL, evR, evO, evI, Out.bind, Out.noex, lift, rd, v_non, v_bl, v_int, v_str, v_lst, v_tup, v_dic, esc, finish, mk, permute, i_lst, i_tup, lo_lst, List.append_nil, Option.bind_some, Option.bind_none, Option.map_some, Option.map_none, Option.bind_eq_bind, List.getElem?_cons_zero, List.getElem?_cons_succ, List.getElem?_nil, List.set_cons_zero, List.set_cons_succ, List.length_cons, List.length_nil, List.mapM_cons, List.mapM_nil, Option.pure_def, Option.getD_some, and_self, Bool.not_true, Bool.not_false, if_true, if_false, Bool.false_eq_true, Bool.true_eq_false, reduceIte, Nat.reduceAdd, Nat.reduceLT, Nat.reduceSub]
  obtain ⟨e', h', q, x4, x5, x6, he, hh⟩ := forLoop_run (gd := []) (f := forStep (callN G k) (.tp (.cons (.nm 4) (.cons (.nm 5) (.cons (.nm 6) .nil)))) wnB) (xs := rs.map (pvR false false))
    (fun i e h' => ∃ x4 x5 x6, e = [.val (.tup (rs.map (pvR false false))), .val (.int p), .val (.int v), .own (.lst (((rs.take i).map (pt1 p v)).map (pvR false false))), x4, x5, x6] ∧ h' = h)
    (fun i x e h' hx ⟨x4, x5, x6, he, hh⟩ => by
      subst he; subst hh
      rw [List.getElem?_map, Option.map_eq_some_iff] at hx
      obtain ⟨r, hr, rfl⟩ := hx
      have hrm := List.mem_of_getElem? hr
      have hi : i < rs.length := (List.getElem?_eq_some_iff.mp hr).1
      have hrl := hl r hrm
      have hlm : p < (r.ns.map PV.int).length := by rw [List.length_map, hrl]; exact hp
      have a1 := sli_lo (r.ns.map .int) p hlm
      have a2 := sli_hi (r.ns.map .int) p hlm
      have a3 := bAddT ((r.ns.map PV.int).take p) ((r.ns.map PV.int).drop (p + 1)) (by simp; exact Nat.le_trans (show min p r.ns.length + (r.ns.length - (p + 1)) ≤ 200 by omega) (by decide))
      have a4 := idx_tup (xs := r.ns) (j := p) (by rw [hrl]; exact hp)
      have a5 := bMul (mulOk_of (r.ns.getD p 0) v (getD_small (h1 r hrm) p) hv)
      have a6 : (r.ns.map PV.int).take p ++ (r.ns.map PV.int).drop (p + 1) = (pt1 p v r).ns.map .int := by simp [pt1]
      have ap : opM .append (((rs.take i).map (pt1 p v)).map (pvR false false)) [pvR false false (pt1 p v r)] = some (.non, ((rs.take (i + 1)).map (pt1 p v)).map (pvR false false)) := by
        rw [s_append _ _ (by simp; exact Nat.lt_of_le_of_lt (show min i rs.length ≤ 100 by omega) (by decide)), List.take_succ, hr]; simp
      rw [pvR_ff (pt1 p v r)] at ap
      rw [a6] at a3
      refine ⟨.next, [.val (.tup (rs.map (pvR false false))), .val (.int p), .val (.int v), .own (.lst (((rs.take (i + 1)).map (pt1 p v)).map (pvR false false))), .val (.tup (r.ns.map .int)), .val (.str (wd r.eq)), .val (.int r.b)], h', ?_, .inl rfl, _, _, _, rfl, rfl⟩
      have hb : bindT (.tp (.cons (.nm 4) (.cons (.nm 5) (.cons (.nm 6) .nil)))) (pvR false false r) [.val (.tup (rs.map (pvR false false))), .val (.int p), .val (.int v), .own (.lst (((rs.take i).map (pt1 p v)).map (pvR false false))), x4, x5, x6] = some [.val (.tup (rs.map (pvR false false))), .val (.int p), .val (.int v), .own (.lst (((rs.take i).map (pt1 p v)).map (pvR false false))), .val (.tup (r.ns.map .int)), .val (.str (wd r.eq)), .val (.int r.b)] := rfl
      unfold forStep
      rw [hb]
      have ev : evL (callN G k) (.cons (.tup (.cons (.bin .add (.sli (.var 4) .nil (.var 1)) (.sli (.var 4) (.bin .add (.var 1) (.con (.int (1)))) .nil)) (.cons (.var 5) (.cons (.bin .sub (.var 6) (.bin .mul (.idx (.var 4) (.var 1)) (.var 2))) .nil)))) .nil) [.val (.tup (rs.map (pvR false false))), .val (.int p), .val (.int v), .own (.lst (((rs.take i).map (pt1 p v)).map (pvR false false))), .val (.tup (r.ns.map .int)), .val (.str (wd r.eq)), .val (.int r.b)] h' = .ok [.tup [.tup ((pt1 p v r).ns.map .int), .str (wd (pt1 p v r).eq), .int (pt1 p v r).b]] [.val (.tup (rs.map (pvR false false))), .val (.int p), .val (.int v), .own (.lst (((rs.take i).map (pt1 p v)).map (pvR false false))), .val (.tup (r.ns.map .int)), .val (.str (wd r.eq)), .val (.int r.b)] h' := by
        simp only [evS, evA, evM, evT, evL, evR, evO, evI, Out.bind, Out.noex, lift, rd, v_non, v_bl, v_int, v_str, v_lst, v_tup, v_dic, esc, finish, mk, permute, i_lst, i_tup, lo_lst, List.append_nil, Option.bind_some, Option.bind_none, Option.map_some, Option.map_none, Option.bind_eq_bind, List.getElem?_cons_zero, List.getElem?_cons_succ, List.getElem?_nil, List.set_cons_zero, List.set_cons_succ, List.length_cons, List.length_nil, List.mapM_cons, List.mapM_nil, Option.pure_def, Option.getD_some, and_self, Bool.not_true, Bool.not_false, if_true, if_false, Bool.false_eq_true, Bool.true_eq_false, reduceIte, Nat.reduceAdd, Nat.reduceLT, Nat.reduceSub, a1, a2, a3, a4, a5, bAdd, bSub]
        rfl
      unfold wnB
      simp only [evS, evA, ev, mut?, List.getElem?_cons_zero, List.getElem?_cons_succ, Out.bind, ap, put, List.set_cons_zero, List.set_cons_succ]) (fun _ _ _ _ => rfl) (e := [.val (.tup (rs.map (pvR false false))), .val (.int p), .val (.int v), .own (.lst []), .no, .no, .no]) (h := h) ⟨.no, .no, .no, rfl, rfl⟩
  rw [List.length_map, List.take_length] at he
  subst hh
  have s1 : evS (callN G k) (.for_ (.tp (.cons (.nm 4) (.cons (.nm 5) (.cons (.nm 6) .nil)))) (.iseq (.var 0)) wnB) [.val (.tup (rs.map (pvR false false))), .val (.int p), .val (.int v), .own (.lst []), .no, .no, .no] h' = .ok .next e' h' := by
    rw [evS_for]
    have : evI (callN G k) (.iseq (.var 0)) [.val (.tup (rs.map (pvR false false))), .val (.int p), .val (.int v), .own (.lst []), .no, .no, .no] h' = .ok (rs.map (pvR false false), []) [.val (.tup (rs.map (pvR false false))), .val (.int p), .val (.int v), .own (.lst []), .no, .no, .no] h' := by simp only [evS, evA, evM, evT, evL, evR, evO, evI, Out.bind, Out.noex, lift, rd, v_non, v_bl, v_int, v_str, v_lst, v_tup, v_dic, esc, finish, mk, permute, i_lst, i_tup, lo_lst, List.append_nil, Option.bind_some, Option.bind_none, Option.map_some, Option.map_none, Option.bind_eq_bind, List.getElem?_cons_zero, List.getElem?_cons_succ, List.getElem?_nil, List.set_cons_zero, List.set_cons_succ, List.length_cons, List.length_nil, List.mapM_cons, List.mapM_nil, Option.pure_def, Option.getD_some, and_self, Bool.not_true, Bool.not_false, if_true, if_false, Bool.false_eq_true, Bool.true_eq_false, reduceIte, Nat.reduceAdd, Nat.reduceLT, Nat.reduceSub]
    rw [this, bind_okE, q]
  have ot : opB .tuple [.lst ((rs.map (pt1 p v)).map (pvR false false))] = some (.tup ((rs.map (pt1 p v)).map (pvR false false)), false) := rfl
  rw [c_with_number, wn_body, seq_next s0, seq_next s1, he]
  simp only [evS, evA, evM, evT, evL, evR, evO, evI, Out.bind, Out.noex, lift, rd, v_non, v_bl, v_int, v_str, v_lst, v_tup, v_dic, esc, finish, mk, permute, i_lst, i_tup, lo_lst, List.append_nil, Option.bind_some, Option.bind_none, Option.map_some, Option.map_none, Option.bind_eq_bind, List.getElem?_cons_zero, List.getElem?_cons_succ, List.getElem?_nil, List.set_cons_zero, List.set_cons_succ, List.length_cons, List.length_nil, List.mapM_cons, List.mapM_nil, Option.pure_def, Option.getD_some, and_self, Bool.not_true, Bool.not_false, if_true, if_false, Bool.false_eq_true, Bool.true_eq_false, reduceIte, Nat.reduceAdd, Nat.reduceLT, Nat.reduceSub, ot]
theorem s_put (k : Nat) (ts : Bool) (ls : List (Bool × Bool × Rw)) (m p : Nat) (v : Int) (h : Hs) (hm1 : 2 ≤ m) (hm : m ≤ 100) (S : Sys m ls) (hp : p < m) (hv : v.natAbs < 2 ^ 200) :
    callN G (k + 7) 18 [.int m, pvS ts ls, .int p, .int v] h = .ret (.ref (tR ((rws ls).map (pt1 p v)) h)) false (hR ((rws ls).map (pt1 p v)) h) := by
  have ml : m ≤ line := Nat.le_trans hm line100
  have rl : (rws ls).length ≤ 100 := by simp [rws]; exact S.n
  have cm := s_check_many (k + 4) m (by omega) h
  have ns := s_need_system k ts ls m h (by omega) S.ln ml (Nat.le_trans S.n line100)
  have ib := s_is_below (k + 3) p m h (by omega) (by omega)
  have iw := s_is_whole_int (k + 5) v h
  have wn := s_with (k + 5) (rws ls) m p v h hp hm (fun r hr => by obtain ⟨z, hz, rfl⟩ := List.mem_map.mp hr; exact S.ln z hz) (fun r hr => by obtain ⟨z, hz, rfl⟩ := List.mem_map.mp hr; exact S.sm z hz) hv rl
  have td := s_told_system (k + 4) ((rws ls).map (pt1 p v)) h (by rw [List.length_map]; exact Nat.le_trans rl line100)
  have m1 : ((m : Int) == 1) = false := by simp; omega
  rw [c_put_number, b_put_number]
  simp only [evS, evA, evM, evT, evL, evR, evO, evI, Out.bind, Out.noex, lift, rd, v_non, v_bl, v_int, v_str, v_lst, v_tup, v_dic, esc, finish, mk, permute, i_lst, i_tup, lo_lst, List.append_nil, Option.bind_some, Option.bind_none, Option.map_some, Option.map_none, Option.bind_eq_bind, List.getElem?_cons_zero, List.getElem?_cons_succ, List.getElem?_nil, List.set_cons_zero, List.set_cons_succ, List.length_cons, List.length_nil, List.mapM_cons, List.mapM_nil, Option.pure_def, Option.getD_some, and_self, Bool.not_true, Bool.not_false, if_true, if_false, Bool.false_eq_true, Bool.true_eq_false, reduceIte, Nat.reduceAdd, Nat.reduceLT, Nat.reduceSub, cm, ns, ib, iw, wn, td, opCmp, eqi, m1, truthy]
end K02

namespace K02
open PL
open PySem (Str)
variable {rest : Hs}
/-! a drawn order -/
def rgI (m : Nat) : List Int := (List.range m).map fun (i : Nat) => (i : Int)
def mxB : Sm := (.expr (.meth .append (.var 3) (.cons (.meth .popAt (.var 2) (.cons (.call 20 [] (.cons (.var 0) (.cons (.bcall .len (.cons (.var 2) .nil)) .nil))) .nil)) .nil)))
theorem mx_body : b__law_mixed = (.seq (.par 2 3 (.bcall .list (.cons (.var 1) .nil)) (.lst .nil)) (.seq (.for_ (.nm 4) (.irng1 (.bcall .len (.cons (.var 2) .nil))) mxB) (.ret (.var 3)))) := rfl
theorem er_map : ∀ (l : List Int) (n : Nat), (l.map PV.int).eraseIdx n = (l.eraseIdx n).map .int
  | [], _ => rfl
  | _ :: _, 0 => rfl
  | a :: l, n + 1 => by simp [er_map l n]
theorem er_perm : ∀ (l : List Int) (n : Nat) (h : n < l.length), (l[n] :: l.eraseIdx n).Perm l
  | [], _, h => by simp at h
  | a :: l, 0, _ => by simp
  | a :: l, n + 1, h => by
    have ih := er_perm l n (by simpa using h)
    simp only [List.getElem_cons_succ, List.eraseIdx_cons_succ]
    exact (List.Perm.swap _ _ _).trans (ih.cons a)
theorem popAt_ints (l : List Int) (d : Nat) (h : d < l.length) (h2 : l.length ≤ 1000) : opM .popAt (l.map .int) [.int (d : Int)] = some (.int l[d], (l.eraseIdx d).map .int) := by
  have e : PL.ixN l.length (d : Int) = some d := ixN_nat h
  simp only [opM]
  rw [if_pos (by omega)]
  simp only [List.length_map, e, Option.bind_some, List.getElem?_map, List.getElem?_eq_getElem h, Option.map_some, er_map]
theorem evA_meth {C : Calls} {m : Mn} {o es : Ex} {e e1 e2 : Env} {h h1 h2 : Hs} {ro : Rs} {xs0 xs as ys : List PV} {z : PV} (ho : evA C o e h = .ok ro e1 h1) (m1 : mut? ro e1 h1 = some xs0) (he : evL C es e1 h1 = .ok as e2 h2) (m2 : mut? ro e2 h2 = some xs) (hm : opM m xs as = some (z, ys)) :
    evA C (.meth m o es) e h = .ok (.v z false) (put ro ys e2 h2).1 (put ro ys e2 h2).2 := by
  simp only [evA, ho, Out.bind, m1, he, m2, hm]
theorem evL_one {C : Calls} {a : Ex} {e e1 e2 : Env} {h h1 : Hs} {r : Rs} {p : PV} {fr : Bool} (ha : evA C a e h = .ok r e1 h1) (he : esc r e1 = some (p, fr, e2)) : evL C (.cons a .nil) e h = .ok [p] e2 h1 := by
  simp only [evL, ha, Out.bind, he]
theorem evS_expr {C : Calls} {a : Ex} {e e1 : Env} {h h1 : Hs} {r : Rs} (ha : evA C a e h = .ok r e1 h1) : evS C (.expr a) e h = .ok .next e1 h1 := by
  simp only [evS, ha, Out.bind]
theorem mx_pop (C : Calls) (h h2 : Hs) (tv : PV) (l : List Int) (s3 s4 : SV) (n : Nat) (hn : n < l.length) (q : C 20 [.ref 1, .int (l.length : Int)] h = .ret (.int (n : Int)) false h2)
    (po : opM .popAt (l.map .int) [.int (n : Int)] = some (.int l[n], (l.eraseIdx n).map .int)) :
    evA C (.meth .popAt (.var 2) (.cons (.call 20 [] (.cons (.var 0) (.cons (.bcall .len (.cons (.var 2) .nil)) .nil))) .nil)) [.val (.ref 1), .val tv, .own (.lst (l.map .int)), s3, s4] h
      = .ok (.v (.int l[n]) false) [.val (.ref 1), .val tv, .own (.lst ((l.eraseIdx n).map .int)), s3, s4] h2 := by
  have ll : opB .len [.lst (l.map .int)] = some (.int (l.length : Int), false) := by
    show some (PV.int ((l.map PV.int).length : Int), false) = _
    rw [List.length_map]
  generalize l.map PV.int = lp at *
  generalize (l.eraseIdx n).map PV.int = lq at *
  generalize l[n] = x at *
  generalize (l.length : Int) = y at *
  have e0 : evL C (.cons (.call 20 [] (.cons (.var 0) (.cons (.bcall .len (.cons (.var 2) .nil)) .nil))) .nil) [.val (.ref 1), .val tv, .own (.lst lp), s3, s4] h = .ok [.int (n : Int)] [.val (.ref 1), .val tv, .own (.lst lp), s3, s4] h2 := by
    simp only [evS, evA, evM, evT, evL, evR, evO, evI, Out.bind, Out.noex, lift, rd, v_non, v_bl, v_int, v_str, v_lst, v_tup, v_dic, esc, finish, mk, permute, i_lst, i_tup, lo_lst, List.append_nil, Option.bind_some, Option.bind_none, Option.map_some, Option.map_none, Option.bind_eq_bind, List.getElem?_cons_zero, List.getElem?_cons_succ, List.getElem?_nil, List.set_cons_zero, List.set_cons_succ, List.length_cons, List.length_nil, List.mapM_cons, List.mapM_nil, Option.pure_def, Option.getD_some, and_self, Bool.not_true, Bool.not_false, if_true, if_false, Bool.false_eq_true, Bool.true_eq_false, reduceIte, Nat.reduceAdd, Nat.reduceLT, Nat.reduceSub, ll, q]
  exact evA_meth (xs0 := lp) (xs := lp) (ro := .slot 2) (e1 := [.val (.ref 1), .val tv, .own (.lst lp), s3, s4]) (h1 := h) (by simp only [evA, List.getElem?_cons_zero, List.getElem?_cons_succ]) rfl e0 rfl po
theorem mx_step (C : Calls) (h h2 : Hs) (m : Nat) (l f : List Int) (n : Nat) (hn : n < l.length) (x4 : SV) (i : Nat) (q : C 20 [.ref 1, .int (l.length : Int)] h = .ret (.int (n : Int)) false h2)
    (po : opM .popAt (l.map .int) [.int (n : Int)] = some (.int l[n], (l.eraseIdx n).map .int)) (ap : opM .append (f.map .int) [.int l[n]] = some (.non, (f ++ [l[n]]).map .int)) :
    forStep C (.nm 4) mxB (.int (i : Int)) [.val (.ref 1), .val (.lst ((rgI m).map .int)), .own (.lst (l.map .int)), .own (.lst (f.map .int)), x4] h
      = .ok .next [.val (.ref 1), .val (.lst ((rgI m).map .int)), .own (.lst ((l.eraseIdx n).map .int)), .own (.lst ((f ++ [l[n]]).map .int)), .val (.int (i : Int))] h2 := by
  have e1 := mx_pop C h h2 (.lst ((rgI m).map .int)) l (.own (.lst (f.map .int))) (.val (.int (i : Int))) n hn q po
  have hb : bindT (.nm 4) (.int (i : Int)) [.val (.ref 1), .val (.lst ((rgI m).map .int)), .own (.lst (l.map .int)), .own (.lst (f.map .int)), x4] = some [.val (.ref 1), .val (.lst ((rgI m).map .int)), .own (.lst (l.map .int)), .own (.lst (f.map .int)), .val (.int (i : Int))] := rfl
  unfold forStep mxB
  rw [hb]
  generalize (rgI m).map PV.int = rp at *
  generalize l.map PV.int = lp at *
  generalize (l.eraseIdx n).map PV.int = lq at *
  generalize (f ++ [l[n]]).map PV.int = fq at *
  generalize f.map PV.int = fp at *
  generalize l[n] = x at *
  exact evS_expr (evA_meth (xs0 := fp) (xs := fp) (ro := .slot 3) (e1 := [.val (.ref 1), .val (.lst rp), .own (.lst lp), .own (.lst fp), .val (.int (i : Int))]) (h1 := h) (by simp only [evA, List.getElem?_cons_zero, List.getElem?_cons_succ]) rfl (evL_one e1 rfl) rfl ap)
theorem s_mixed (k c m : Nat) (h : Hs) (s : SI c rest h) (hc : c + 1000 < 1000000) (hm : m ≤ 100) :
    ∃ (o : List Int) (h' : Hs), callN G (k + 2) 22 [.ref 1, .lst ((rgI m).map .int)] h = .ret (.lst (o.map .int)) true h' ∧ o.Perm (rgI m) ∧ SI (c + m) rest h' := by
  have hl0 : (rgI m).length = m := by simp [rgI]
  have s0 : evS (callN G (k + 1)) (.par 2 3 (.bcall .list (.cons (.var 1) .nil)) (.lst .nil)) [.val (.ref 1), .val (.lst ((rgI m).map .int)), .no, .no, .no] h = .ok .next [.val (.ref 1), .val (.lst ((rgI m).map .int)), .own (.lst ((rgI m).map .int)), .own (.lst []), .no] h := by
    have ol : opB .list [.lst ((rgI m).map .int)] = some (.lst ((rgI m).map .int), true) := rfl
    simp only [evS, evA, evM, evT, evL, evR, evO, evI, Out.bind, Out.noex, lift, rd, v_non, v_bl, v_int, v_str, v_lst, v_tup, v_dic, esc, finish, mk, permute, i_lst, i_tup, lo_lst, List.append_nil, Option.bind_some, Option.bind_none, Option.map_some, Option.map_none, Option.bind_eq_bind, List.getElem?_cons_zero, List.getElem?_cons_succ, List.getElem?_nil, List.set_cons_zero, List.set_cons_succ, List.length_cons, List.length_nil, List.mapM_cons, List.mapM_nil, Option.pure_def, Option.getD_some, and_self, Bool.not_true, Bool.not_false, if_true, if_false, Bool.false_eq_true, Bool.true_eq_false, reduceIte, Nat.reduceAdd, Nat.reduceLT, Nat.reduceSub, ol]
  obtain ⟨e', h', q, l, f, x4, he, hln, hp, hs⟩ := forLoop_run (gd := []) (f := forStep (callN G (k + 1)) (.nm 4) mxB) (xs := rngItems 0 m)
    (fun i e h' => ∃ (l f : List Int) (x4 : SV), e = [.val (.ref 1), .val (.lst ((rgI m).map .int)), .own (.lst (l.map .int)), .own (.lst (f.map .int)), x4] ∧ l.length + i = m ∧ (f ++ l).Perm (rgI m) ∧ SI (c + i) rest h')
    (fun i x e h' hx ⟨l, f, x4, he, hln, hp, hs⟩ => by
      obtain ⟨hin, rfl⟩ := rng_get m i x hx
      subst he
      obtain ⟨d, h2, q, s2, d0, d1⟩ := s_draw k (c + i) h' hs (by omega) l.length (by omega) (by omega)
      obtain ⟨n, rfl⟩ : ∃ n : Nat, d = n := ⟨d.toNat, by omega⟩
      have hn : n < l.length := by omega
      have po := popAt_ints l n hn (by omega)
      have hfl : f.length ≤ 100 := by have := hp.length_eq; simp [hl0] at this; omega
      have ap : opM .append (f.map .int) [.int l[n]] = some (.non, (f ++ [l[n]]).map .int) := by
        rw [s_append _ _ (by rw [List.length_map]; exact Nat.lt_of_le_of_lt hfl (by decide))]; simp
      refine ⟨.next, [.val (.ref 1), .val (.lst ((rgI m).map .int)), .own (.lst ((l.eraseIdx n).map .int)), .own (.lst ((f ++ [l[n]]).map .int)), .val (.int (i : Int))], h2, ?_, .inl rfl, l.eraseIdx n, f ++ [l[n]], _, rfl, ?_, ?_, s2⟩
      · exact mx_step (callN G (k + 1)) h' h2 m l f n hn x4 i q po ap
      · rw [List.length_eraseIdx_of_lt hn]; omega
      · refine List.Perm.trans ?_ hp
        rw [List.append_assoc]
        exact (er_perm l n hn).append_left f) (fun _ _ _ _ => rfl) (e := [.val (.ref 1), .val (.lst ((rgI m).map .int)), .own (.lst ((rgI m).map .int)), .own (.lst []), .no]) (h := h) ⟨rgI m, [], .no, rfl, by rw [hl0]; omega, by simp, s.mono (by omega)⟩
  rw [rng_len] at hln hs
  have hl : l = [] := List.length_eq_zero_iff.mp (by omega)
  subst hl
  rw [List.append_nil] at hp
  refine ⟨f, h', ?_, hp, hs⟩
  have s1 : evS (callN G (k + 1)) (.for_ (.nm 4) (.irng1 (.bcall .len (.cons (.var 2) .nil))) mxB) [.val (.ref 1), .val (.lst ((rgI m).map .int)), .own (.lst ((rgI m).map .int)), .own (.lst []), .no] h = .ok .next e' h' := by
    rw [evS_for]
    have ll : opB .len [.lst ((rgI m).map .int)] = some (.int (m : Int), false) := by simp [opB, hl0]
    have : evI (callN G (k + 1)) (.irng1 (.bcall .len (.cons (.var 2) .nil))) [.val (.ref 1), .val (.lst ((rgI m).map .int)), .own (.lst ((rgI m).map .int)), .own (.lst []), .no] h = .ok (rngItems 0 m, []) [.val (.ref 1), .val (.lst ((rgI m).map .int)), .own (.lst ((rgI m).map .int)), .own (.lst []), .no] h := by
      simp only [evS, evA, evM, evT, evL, evR, evO, evI, Out.bind, Out.noex, lift, rd, v_non, v_bl, v_int, v_str, v_lst, v_tup, v_dic, esc, finish, mk, permute, i_lst, i_tup, lo_lst, List.append_nil, Option.bind_some, Option.bind_none, Option.map_some, Option.map_none, Option.bind_eq_bind, List.getElem?_cons_zero, List.getElem?_cons_succ, List.getElem?_nil, List.set_cons_zero, List.set_cons_succ, List.length_cons, List.length_nil, List.mapM_cons, List.mapM_nil, Option.pure_def, Option.getD_some, and_self, Bool.not_true, Bool.not_false, if_true, if_false, Bool.false_eq_true, Bool.true_eq_false, reduceIte, Nat.reduceAdd, Nat.reduceLT, Nat.reduceSub, ll, (sml9 m).mpr (by omega)]
    rw [this, bind_okE, q]
  rw [c__law_mixed, mx_body, seq_next s0, seq_next s1, he]
  simp only [evS, evA, evM, evT, evL, evR, evO, evI, Out.bind, Out.noex, lift, rd, v_non, v_bl, v_int, v_str, v_lst, v_tup, v_dic, esc, finish, mk, permute, i_lst, i_tup, lo_lst, List.append_nil, Option.bind_some, Option.bind_none, Option.map_some, Option.map_none, Option.bind_eq_bind, List.getElem?_cons_zero, List.getElem?_cons_succ, List.getElem?_nil, List.set_cons_zero, List.set_cons_succ, List.length_cons, List.length_nil, List.mapM_cons, List.mapM_nil, Option.pure_def, Option.getD_some, and_self, Bool.not_true, Bool.not_false, if_true, if_false, Bool.false_eq_true, Bool.true_eq_false, reduceIte, Nat.reduceAdd, Nat.reduceLT, Nat.reduceSub]
theorem rgI_nd (m : Nat) : (rgI m).Nodup := List.Pairwise.map _ (fun a b hab e => hab (by omega)) List.nodup_range
theorem OrdOk.of {m : Nat} {o : List Int} (h : o.Perm (rgI m)) : OrdOk m o where
  len := by have := h.length_eq; simpa [rgI] using this
  nd := h.nodup_iff.mpr (rgI_nd m)
  bd := fun x hx => by
    have := h.mem_iff.mp hx
    obtain ⟨i, hi, rfl⟩ := List.mem_map.mp this
    rw [List.mem_range] at hi
    omega
  all := fun n hn => h.mem_iff.mpr (List.mem_map.mpr ⟨n, List.mem_range.mpr hn, rfl⟩)
/-! sums -/
def addL (a b : List Int) : List Int := (a.zip b).map fun z => z.1 + z.2
theorem val_add : ∀ (ns a b : List Int), a.length = ns.length → b.length = ns.length → val ns (addL a b) = val ns a + val ns b
  | [], a, b, _, _ => by simp [val]
  | n :: ns, [], b, h, _ => by simp at h
  | n :: ns, _ :: _, [], _, h => by simp at h
  | n :: ns, x :: a, y :: b, h1, h2 => by
    have ih := val_add ns a b (by simpa using h1) (by simpa using h2)
    simp only [val, addL, List.zip_cons_cons, List.map_cons, List.sum_cons] at ih ⊢
    rw [ih, Int.mul_add]; omega
theorem rh_mv (p pt : List Int) (r : Rw) (h1 : p.length = r.ns.length) (h2 : pt.length = r.ns.length) : rh p (mv pt r) = rh (addL p pt) r := by
  have e := val_add r.ns p pt h1 h2
  unfold rh mv
  simp only
  rw [e]
  cases r.eq
  · simp only [Bool.false_eq_true, if_false]
    exact decide_eq_decide.mpr (by omega)
  · simp only [if_true]
    by_cases h : val r.ns p = r.b - val r.ns pt
    · rw [h]; simp
    · have h3 : (val r.ns p == r.b - val r.ns pt) = false := by simpa using h
      have h4 : (val r.ns p + val r.ns pt == r.b) = false := by simp; omega
      rw [h3, h4]
theorem sum_perm {l l' : List Int} (h : l.Perm l') : l.sum = l'.sum := by
  induction h with
  | nil => rfl
  | cons x _ ih => simp [ih]
  | swap x y l => simp; omega
  | trans _ _ i1 i2 => rw [i1, i2]
theorem val_range : ∀ (m : Nat) (a b : List Int), a.length = m → b.length = m → val a b = ((List.range m).map fun i => a.getD i 0 * b.getD i 0).sum
  | 0, a, b, h1, h2 => by
    rw [List.length_eq_zero_iff.mp h1]; simp [val]
  | m + 1, [], _, h1, _ => by simp at h1
  | m + 1, _ :: _, [], _, h2 => by simp at h2
  | m + 1, x :: a, y :: b, h1, h2 => by
    have ih := val_range m a b (by simpa using h1) (by simpa using h2)
    rw [List.range_succ_eq_map, List.map_cons, List.sum_cons, List.map_map]
    have : val (x :: a) (y :: b) = x * y + val a b := by simp [val]
    rw [this, ih]
    congr 1
theorem fndI_get : ∀ (o : List Int) (p : Nat) (h : p < o.length), o.Nodup → fndI o o[p] = some p
  | [], p, h, _ => by simp at h
  | a :: o, 0, _, _ => by simp [fndI]
  | a :: o, p + 1, h, nd => by
    rw [List.nodup_cons] at nd
    have hp : p < o.length := by simpa using h
    have : a ≠ o[p] := fun e => nd.1 (e ▸ List.getElem_mem hp)
    simp only [List.getElem_cons_succ, fndI]
    rw [if_neg this, fndI_get o p hp nd.2]; rfl
def permS (m : Nat) (o s : List Int) : List Int := (List.range m).map fun i => s.getD (o.getD i 0).toNat 0
theorem rh_ren (m : Nat) (o p : List Int) (O : OrdOk m o) (r : Rw) (ho : o.Perm (rgI m)) (h1 : r.ns.length = m) (h2 : p.length = m) : rh p (ren m o r) = rh (permS m o p) r := by
  have e : val (renN m o r.ns) p = val r.ns (permS m o p) := by
    rw [val_range m _ _ (by simp [renN]) h2, val_range m _ _ h1 (by simp [permS])]
    let f : Int → Int := fun x => r.ns.getD (ixf o x.toNat) 0 * p.getD x.toNat 0
    have a1 : ((List.range m).map fun i => (renN m o r.ns).getD i 0 * p.getD i 0) = (rgI m).map f := by
      rw [rgI, List.map_map]
      refine List.map_congr_left fun i hi => ?_
      rw [List.mem_range] at hi
      simp [renN, f, hi]
    have a2 : ((List.range m).map fun i => r.ns.getD i 0 * (permS m o p).getD i 0) = o.map f := by
      refine List.ext_getElem (by simp [O.len]) fun i h1 h2 => ?_
      have hi : i < m := by simpa using h1
      have hio : i < o.length := by rw [O.len]; exact hi
      have hb := O.bd o[i] (List.getElem_mem hio)
      have e1 : ixf o o[i].toNat = i := by
        unfold ixf
        rw [Int.toNat_of_nonneg hb.1, fndI_get o i hio O.nd]; rfl
      simp only [List.getElem_map, List.getElem_range, f, e1]
      congr 1
      simp [permS, hi, hio]
    rw [a1, a2]
    exact (sum_perm (ho.map f)).symm
  unfold rh ren
  simp only
  rw [e]
end K02

namespace K02
open PL
open PySem (Str)
variable {rest : Hs}
def w1 : Sm := (.asg 1 (.call 19 [] (.cons (.var 0) .nil)))
def w2 : Sm := (.asg 3 (.bin .add (.con (.int (1))) (.call 20 [] (.cons (.var 1) (.cons (.con (.int (5))) .nil)))))
def w3 : Sm := (.asg 4 (.call 32 [] (.cons (.var 1) (.cons (.var 3) (.cons (.call 20 [] (.cons (.var 1) (.cons (.con (.int (6))) .nil))) (.cons (.con (.int (9))) (.cons (.con (.int (20))) .nil)))))))
def w4 : Sm := (.tasg (.tp (.cons (.nm 6) (.cons (.nm 7) .nil))) (.tup (.cons (.lc [18, 5] (.nm 5) (.irng1 (.var 3)) .nil (.one (.call 27 [] (.cons (.var 1) (.cons (.con (.int (5))) .nil))))) (.cons (.call 22 [] (.cons (.var 1) (.cons (.lrng (.var 3)) .nil))) .nil))))
def w5 : Sm := (.asg 8 (.call 26 [] (.cons (.var 1) (.cons (.lst (.cons (.var 4) (.cons (.var 6) (.cons (.var 7) .nil)))) .nil))))
def w6 : Sm := (.asg 9 (.call 25 [] (.cons (.var 8) .nil)))
def w7 : Sm := (.asg 10 (.lc [18, 19, 20, 21] (.tp (.cons (.nm 19) (.cons (.nm 20) (.cons (.nm 21) .nil)))) (.iseq (.var 4)) .nil (.one (.tup (.cons (.bcall .list (.cons (.var 19) .nil)) (.cons (.var 20) (.cons (.bin .sub (.var 21) (.call 28 [] (.cons (.var 19) (.cons (.var 6) .nil)))) .nil)))))))
def w8 : Sm := (.asg 11 (.lc [18, 19, 20, 21] (.tp (.cons (.nm 19) (.cons (.nm 20) (.cons (.nm 21) .nil)))) (.iseq (.var 4)) .nil (.one (.tup (.cons (.lc [18, 22] (.nm 22) (.irng1 (.var 3)) .nil (.one (.idx (.var 19) (.midx (.var 7) (.cons (.var 22) .nil))))) (.cons (.var 20) (.cons (.var 21) .nil)))))))
def w9 : Sm := (.asg 12 (.cell (.lst (.cons (.call 15 [] (.cons (.var 3) (.cons (.idx (.var 8) (.con (.int (0)))) (.cons (.idx (.var 8) (.con (.int (1)))) .nil)))) (.cons (.call 16 [] (.cons (.var 3) (.cons (.idx (.var 8) (.con (.int (0)))) (.cons (.idx (.var 8) (.con (.int (2)))) .nil)))) .nil)))))
def w10 : Sm := (.asg 13 (.lst (.cons (.call 15 [2, 1, 0] (.cons (.bcall .list (.cons (.var 6) .nil)) (.cons (.call 25 [] (.cons (.var 4) .nil)) (.cons (.var 3) .nil)))) (.cons (.call 16 [2, 1, 0] (.cons (.bcall .list (.cons (.var 7) .nil)) (.cons (.call 25 [] (.cons (.var 4) .nil)) (.cons (.var 3) .nil)))) .nil))))
def w11 : Sm := (.ret (.con (.bl false)))
def w12 : Sm := (.ite (.or (.not (.call 23 [] (.cons (.var 12) (.cons (.lst (.cons (.var 10) (.cons (.var 11) .nil))) .nil)))) (.or (.not (.call 23 [] (.cons (.var 13) (.cons (.lst (.cons (.var 10) (.cons (.var 11) .nil))) .nil)))) (.not (.call 23 [] (.cons (.var 8) (.cons (.var 9) .nil)))))) w11 .skip)
def w13 : Sm := (.asg 15 (.lc [18, 5] (.nm 5) (.irng1 (.var 3)) .nil (.one (.call 27 [] (.cons (.var 1) (.cons (.con (.int (4))) .nil))))))
def w14 : Sm := (.ret (.con (.bl false)))
def w15 : Sm := (.ite (.cmp .ne (.call 30 [] (.cons (.var 10) (.cons (.var 15) .nil))) (.call 30 [] (.cons (.var 4) (.cons (.lc [18, 23, 24] (.tp (.cons (.nm 23) (.cons (.nm 24) .nil))) (.izip (.var 15) (.var 6)) .nil (.one (.bin .add (.var 23) (.var 24)))) .nil)))) w14 .skip)
def w16 : Sm := (.ret (.con (.bl false)))
def w17 : Sm := (.ite (.cmp .ne (.call 30 [] (.cons (.var 11) (.cons (.var 15) .nil))) (.call 30 [] (.cons (.var 4) (.cons (.lc [18, 5] (.nm 5) (.irng1 (.var 3)) .nil (.one (.idx (.var 15) (.idx (.var 7) (.var 5))))) .nil)))) w16 .skip)
def w18b : Sm := (.seq w13 (.seq w15 w17))
def w18 : Sm := (.for_ (.nm 14) (.irng1 (.con (.int (3)))) w18b)
def w19 : Sm := (.expr (.call 24 [] (.cons (.var 12) .nil)))
def w20 : Sm := (.tasg (.tp (.cons (.nm 5) (.cons (.nm 16) .nil))) (.tup (.cons (.call 20 [] (.cons (.var 1) (.cons (.var 3) .nil))) (.cons (.call 27 [] (.cons (.var 1) (.cons (.con (.int (9))) .nil))) .nil))))
def w21 : Sm := (.asg 17 (.lc [18, 19, 20, 21] (.tp (.cons (.nm 19) (.cons (.nm 20) (.cons (.nm 21) .nil)))) (.iseq (.var 4)) .nil (.one (.tup (.cons (.bin .add (.bcall .list (.cons (.sli (.var 19) .nil (.var 5)) .nil)) (.bcall .list (.cons (.sli (.var 19) (.bin .add (.var 5) (.con (.int (1)))) .nil) .nil))) (.cons (.var 20) (.cons (.bin .sub (.var 21) (.bin .mul (.idx (.var 19) (.var 5)) (.var 16))) .nil)))))))
def w22 : Sm := (.asg 12 (.cell (.lst (.cons (.call 18 [] (.cons (.var 3) (.cons (.idx (.var 8) (.con (.int (0)))) (.cons (.var 5) (.cons (.var 16) .nil))))) (.cons (.call 18 [3, 2, 1, 0] (.cons (.var 16) (.cons (.var 5) (.cons (.call 25 [] (.cons (.var 4) .nil)) (.cons (.var 3) .nil))))) .nil)))))
def w23 : Sm := (.ret (.con (.bl false)))
def w24 : Sm := (.ite (.not (.call 23 [] (.cons (.var 12) (.cons (.lst (.cons (.var 17) (.cons (.var 17) .nil))) .nil)))) w23 .skip)
def w25 : Sm := (.expr (.call 24 [] (.cons (.var 12) .nil)))
def w26 : Sm := (.ret (.con (.bl false)))
def w27 : Sm := (.ite (.not (.call 23 [] (.cons (.call 18 [] (.cons (.var 3) (.cons (.call 25 [] (.cons (.var 4) .nil)) (.cons (.var 5) (.cons (.var 16) .nil))))) (.cons (.var 17) .nil)))) w26 .skip)
def w28a : Sm := (.seq w20 (.seq w21 (.seq w22 (.seq w24 (.seq w25 w27)))))
def w28 : Sm := (.ite (.cmp .gt (.var 3) (.con (.int (1)))) w28a .skip)
def w29 : Sm := (.ret (.con (.bl false)))
def w30 : Sm := (.ite (.or (.not (.call 23 [] (.cons (.lst (.cons (.call 15 [] (.cons (.var 3) (.cons (.call 25 [] (.cons (.var 4) .nil)) (.cons (.bcall .list (.cons (.var 6) .nil)) .nil)))) (.cons (.call 16 [] (.cons (.var 3) (.cons (.call 25 [] (.cons (.var 4) .nil)) (.cons (.bcall .list (.cons (.var 7) .nil)) .nil)))) .nil))) (.cons (.lst (.cons (.var 10) (.cons (.var 11) .nil))) .nil)))) (.not (.call 23 [] (.cons (.var 8) (.cons (.var 9) .nil))))) w29 .skip)
def w31b : Sm := (.seq w2 (.seq w3 (.seq w4 (.seq w5 (.seq w6 (.seq w7 (.seq w8 (.seq w9 (.seq w10 (.seq w12 (.seq w18 (.seq w19 (.seq w28 w30)))))))))))))
def w31 : Sm := (.for_ (.nm 2) (.irng1 (.con (.int (5)))) w31b)
def w32 : Sm := (.ret (.call 23 [] (.cons (.call 18 [] (.cons (.con (.int (2))) (.cons (.lst (.cons (.tup (.cons (.lst (.cons (.con (.int (1))) (.cons (.con (.int (1))) .nil))) (.cons (.con (.str ">=")) (.cons (.con (.int (2))) .nil)))) .nil)) (.cons (.con (.int (0))) (.cons (.con (.int (5))) .nil))))) (.cons (.lst (.cons (.tup (.cons (.lst (.cons (.con (.int (1))) .nil)) (.cons (.con (.str ">=")) (.cons (.neg (.con (.int (3)))) .nil)))) .nil)) .nil))))
theorem w_body : b_law = (.seq w1 (.seq w31 w32)) := rfl

def LE (s0 s2 s3 s4 s5 s6 s7 s8 s9 s10 s11 s12 s13 s14 s15 s16 s17 : SV) : Env := [s0, .val (.ref 1), s2, s3, s4, s5, s6, s7, s8, s9, s10, s11, s12, s13, s14, s15, s16, s17, .no, .no, .no, .no, .no, .no, .no]
def Pl (s : SV) : Prop := s = .no ∨ ∃ v, s = .val v
theorem rng_rgI (m : Nat) : rngItems 0 m = (rgI m).map .int := by simp [rngItems, rgI]
theorem rows_comp (C : Calls) (own : List Nat) (tg : Tg) (body : Ex) (E0 e : Env) (h : Hs) (rs : List Rw) (F : Rw → Rw) (hl : rs.length ≤ line) (he : evI C (.iseq (.var 4)) e h = .ok (rs.map (pvR false true), []) E0 h) (E1 : Env) (hE : wipeE own (frzAt own E0) = E1) (hb : backE own (frzAt own E0) E1 = E0)
    (step : ∀ r ∈ rs, ∃ e', lcStep C tg .nil body own (pvR false true r) E1 h = .ok [pvR false true (F r)] e' h ∧ wipeE own e' = E1) :
    evA C (.lc own tg (.iseq (.var 4)) .nil body) e h = .ok (.v (rowsP (rs.map F)) true) E0 h := by
  obtain ⟨ps, h', q, p1, p2⟩ := lc_gen (gd := []) (C := C) (own := own) (tg := tg) (ifs := .nil) (it := .iseq (.var 4)) (body := body) (e := e) (e1 := E0) (h := h) (h1 := h) (xs := rs.map (pvR false true))
    he (fun i acc h1 => acc = ((rs.take i).map F).map (pvR false true) ∧ h1 = h) (fun _ => E1) hE (fun i x h1 acc hx ⟨ha, hh1⟩ => by
      subst hh1
      rw [List.getElem?_map, Option.map_eq_some_iff] at hx
      obtain ⟨r, hr, rfl⟩ := hx
      obtain ⟨e', q, w⟩ := step r (List.mem_of_getElem? hr)
      exact ⟨_, _, e', q, w, by rw [ha, List.take_succ, hr]; simp, rfl⟩) (fun _ _ _ _ => rfl) ⟨rfl, rfl⟩ (fun ps h' ⟨hp, _⟩ => by rw [hp]; simpa using hl)
  rw [List.length_map, List.take_length] at p1
  subst p1; subst p2
  rw [hb] at q
  exact q
section
variable (k m : Nat) (h : Hs) (s0 s2 s3 s4 s5 s6 s7 s8 s9 s10 s11 s12 s13 s14 s15 s16 s17 : SV)
theorem L4 (c : Nat) (s : SI c rest h) (hc : c + 2000 < 1000000) (hm : m ≤ 6) (h5 : Pl s5) :
    ∃ (pts o : List Int) (h' : Hs), evS (callN G (k + 2)) w4 (LE s0 s2 (.val (.int m)) s4 s5 s6 s7 s8 s9 s10 s11 s12 s13 s14 s15 s16 s17) h = .ok .next (LE s0 s2 (.val (.int m)) s4 s5 (.val (LL pts)) (.val (LL o)) s8 s9 s10 s11 s12 s13 s14 s15 s16 s17) h' ∧ pts.length = m ∧ Bdd 5 pts ∧ o.Perm (rgI m) ∧ SI (c + m + m) rest h' := by
  obtain ⟨pts, h1, q1, l1, l2, s1⟩ := ints_lc (k := k) (own := [18, 5]) (t := 5) (tg := .nil) (arg := .nil) (e := LE s0 s2 (.val (.int m)) s4 s5 s6 s7 s8 s9 s10 s11 s12 s13 s14 s15 s16 s17) 5 (by decide) (by decide) m (by omega) s (by omega) (.irng1 (.var 3)) (.call 27 [] (.cons (.var 1) (.cons (.con (.int (5))) .nil)))
    (by unfold LE; simp only [evS, evA, evM, evT, evL, evR, evO, evI, Out.bind, Out.noex, lift, rd, v_non, v_bl, v_int, v_str, v_lst, v_tup, v_dic, esc, finish, mk, pm0, pm2, pm3, i_lst, i_tup, lo_lst, List.append_nil, Option.bind_some, Option.bind_none, Option.map_some, Option.map_none, Option.bind_eq_bind, List.getElem?_cons_zero, List.getElem?_cons_succ, List.getElem?_nil, List.set_cons_zero, List.set_cons_succ, List.length_cons, List.length_nil, List.mapM_cons, List.mapM_nil, Option.pure_def, Option.getD_some, and_self, Bool.not_true, Bool.not_false, if_true, if_false, Bool.false_eq_true, Bool.true_eq_false, reduceIte, Nat.reduceAdd, Nat.reduceLT, Nat.reduceSub, (sml9 m).mpr (by omega)]) (by rcases h5 with rfl | ⟨v, rfl⟩ <;> rfl) (by rcases h5 with rfl | ⟨v, rfl⟩ <;> rfl) (fun i h => ⟨(LE s0 s2 (.val (.int m)) s4 .no s6 s7 s8 s9 s10 s11 s12 s13 s14 s15 s16 s17).set 5 (.val (.int i)), rfl, rfl, by
      unfold LE
      simp only [evS, evA, evM, evT, evL, evR, evO, evI, Out.bind, Out.noex, lift, rd, v_non, v_bl, v_int, v_str, v_lst, v_tup, v_dic, esc, finish, mk, pm0, pm2, pm3, i_lst, i_tup, lo_lst, List.append_nil, Option.bind_some, Option.bind_none, Option.map_some, Option.map_none, Option.bind_eq_bind, List.getElem?_cons_zero, List.getElem?_cons_succ, List.getElem?_nil, List.set_cons_zero, List.set_cons_succ, List.length_cons, List.length_nil, List.mapM_cons, List.mapM_nil, Option.pure_def, Option.getD_some, and_self, Bool.not_true, Bool.not_false, if_true, if_false, Bool.false_eq_true, Bool.true_eq_false, reduceIte, Nat.reduceAdd, Nat.reduceLT, Nat.reduceSub]
      cases callN G (k + 2) 27 [.ref 1, .int 5] h <;> rfl⟩)
  obtain ⟨o, h2, q2, l3, s2'⟩ := s_mixed k (c + m) m h1 s1 (by omega) (by omega)
  refine ⟨pts, o, h2, ?_, l1, l2, l3, s2'⟩
  have e3 : evA (callN G (k + 2)) (.lrng (.var 3)) (LE s0 s2 (.val (.int m)) s4 s5 s6 s7 s8 s9 s10 s11 s12 s13 s14 s15 s16 s17) h1 = .ok (.v (.lst ((rgI m).map .int)) true) (LE s0 s2 (.val (.int m)) s4 s5 s6 s7 s8 s9 s10 s11 s12 s13 s14 s15 s16 s17) h1 := by
    have : -4611686018427387904 ≤ (m : Int) ∧ (m : Int) ≤ 16777216 := by omega
    unfold LE
    simp only [evS, evA, evM, evT, evL, evR, evO, evI, Out.bind, Out.noex, lift, rd, v_non, v_bl, v_int, v_str, v_lst, v_tup, v_dic, esc, finish, mk, pm0, pm2, pm3, i_lst, i_tup, lo_lst, List.append_nil, Option.bind_some, Option.bind_none, Option.map_some, Option.map_none, Option.bind_eq_bind, List.getElem?_cons_zero, List.getElem?_cons_succ, List.getElem?_nil, List.set_cons_zero, List.set_cons_succ, List.length_cons, List.length_nil, List.mapM_cons, List.mapM_nil, Option.pure_def, Option.getD_some, and_self, Bool.not_true, Bool.not_false, if_true, if_false, Bool.false_eq_true, Bool.true_eq_false, reduceIte, Nat.reduceAdd, Nat.reduceLT, Nat.reduceSub]
    rw [if_pos this, rng_rgI]
  have e4 : evL (callN G (k + 2)) (.cons (.var 1) (.cons (.lrng (.var 3)) .nil)) (LE s0 s2 (.val (.int m)) s4 s5 s6 s7 s8 s9 s10 s11 s12 s13 s14 s15 s16 s17) h1 = .ok [.ref 1, .lst ((rgI m).map .int)] (LE s0 s2 (.val (.int m)) s4 s5 s6 s7 s8 s9 s10 s11 s12 s13 s14 s15 s16 s17) h1 := by
    have := evL_one e3 (p := .lst ((rgI m).map .int)) (fr := true) rfl
    unfold LE at this ⊢
    simp only [evS, evA, evM, evT, evL, evR, evO, evI, Out.bind, Out.noex, lift, rd, v_non, v_bl, v_int, v_str, v_lst, v_tup, v_dic, esc, finish, mk, pm0, pm2, pm3, i_lst, i_tup, lo_lst, List.append_nil, Option.bind_some, Option.bind_none, Option.map_some, Option.map_none, Option.bind_eq_bind, List.getElem?_cons_zero, List.getElem?_cons_succ, List.getElem?_nil, List.set_cons_zero, List.set_cons_succ, List.length_cons, List.length_nil, List.mapM_cons, List.mapM_nil, Option.pure_def, Option.getD_some, and_self, Bool.not_true, Bool.not_false, if_true, if_false, Bool.false_eq_true, Bool.true_eq_false, reduceIte, Nat.reduceAdd, Nat.reduceLT, Nat.reduceSub, this]
  have e5 : evA (callN G (k + 2)) (.tup (.cons (.lc [18, 5] (.nm 5) (.irng1 (.var 3)) .nil (.one (.call 27 [] (.cons (.var 1) (.cons (.con (.int (5))) .nil))))) (.cons (.call 22 [] (.cons (.var 1) (.cons (.lrng (.var 3)) .nil))) .nil))) (LE s0 s2 (.val (.int m)) s4 s5 s6 s7 s8 s9 s10 s11 s12 s13 s14 s15 s16 s17) h = .ok (.v (.tup [LL pts, LL o]) false) (LE s0 s2 (.val (.int m)) s4 s5 s6 s7 s8 s9 s10 s11 s12 s13 s14 s15 s16 s17) h2 := by
    have c1 : evA (callN G (k + 2)) (.call 22 [] (.cons (.var 1) (.cons (.lrng (.var 3)) .nil))) (LE s0 s2 (.val (.int m)) s4 s5 s6 s7 s8 s9 s10 s11 s12 s13 s14 s15 s16 s17) h1 = .ok (.v (LL o) true) (LE s0 s2 (.val (.int m)) s4 s5 s6 s7 s8 s9 s10 s11 s12 s13 s14 s15 s16 s17) h2 := by
      simp only [evA, e4, Out.bind, permute, q2]
      rfl
    have c2 := evL_one c1 (p := LL o) (fr := true) rfl
    simp only [evA]
    simp only [evL] at c2 ⊢
    simp only [q1, Out.bind, esc] at c2 ⊢
    rw [c2]
    rfl
  unfold w4
  simp only [evS, e5, Out.bind, esc]
  rfl
end
end K02

namespace K02
open PL
open PySem (Str)
variable {rest : Hs}
theorem rowsP_sys (rs : List Rw) : rowsP rs = sysP rs := rfl
section
variable (k m : Nat) (rs : List Rw) (pt o : List Int) (t tS t1 t2 : Bool) (l : List (Bool × Bool × Rw)) (h : Hs) (s0 s2 s3 s4 s5 s6 s7 s8 s9 s10 s11 s12 s13 s14 s15 s16 s17 : SV)
theorem L5 (h' : Hs) (q : callN G k 26 [.ref 1, .lst [sysP rs, LL pt, LL o]] h = .ret (hdP t tS t1 t2 l pt o) t h') :
    evS (callN G k) w5 (LE s0 s2 s3 (.own (sysP rs)) s5 (.val (LL pt)) (.val (LL o)) s8 s9 s10 s11 s12 s13 s14 s15 s16 s17) h = .ok .next (LE s0 s2 s3 (.val (sysP rs)) s5 (.val (LL pt)) (.val (LL o)) (sl t (hdP t tS t1 t2 l pt o)) s9 s10 s11 s12 s13 s14 s15 s16 s17) h' := by
  rw [← mk_hd]
  unfold w5
  refine asg_of (r := .v (hdP t tS t1 t2 l pt o) t) (e1 := LE s0 s2 s3 (.val (sysP rs)) s5 (.val (LL pt)) (.val (LL o)) s8 s9 s10 s11 s12 s13 s14 s15 s16 s17) (h1 := h') ?_ rfl (by show 8 < 25; decide)
  unfold LE
  simp only [evS, evA, evM, evT, evL, evR, evO, evI, Out.bind, Out.noex, lift, rd, v_non, v_bl, v_int, v_str, v_lst, v_tup, v_dic, esc, finish, mk, pm0, pm2, pm3, i_lst, i_tup, lo_lst, List.append_nil, Option.bind_some, Option.bind_none, Option.map_some, Option.map_none, Option.bind_eq_bind, List.getElem?_cons_zero, List.getElem?_cons_succ, List.getElem?_nil, List.set_cons_zero, List.set_cons_succ, List.length_cons, List.length_nil, List.mapM_cons, List.mapM_nil, Option.pure_def, Option.getD_some, and_self, Bool.not_true, Bool.not_false, if_true, if_false, Bool.false_eq_true, Bool.true_eq_false, reduceIte, Nat.reduceAdd, Nat.reduceLT, Nat.reduceSub, q]
theorem L6 (hm : m ≤ 100) (S : Sys m l) (h1 : pt.length = m) (h2 : o.length = m) :
    evS (callN G (k + 5)) w6 (LE s0 s2 s3 s4 s5 s6 s7 (sl t (hdP t tS t1 t2 l pt o)) s9 s10 s11 s12 s13 s14 s15 s16 s17) h = .ok .next (LE s0 s2 s3 s4 s5 s6 s7 (.val (hdP t tS t1 t2 l pt o)) (sl t (hdP t tS t1 t2 l pt o)) s10 s11 s12 s13 s14 s15 s16 s17) h := by
  have c := s_copied 4 (hdP t tS t1 t2 l pt o) k h (dat_hd t tS t1 t2 l pt o m hm S h1 h2)
  rw [fr_hd] at c
  have e : evA (callN G (k + 5)) (.call 25 [] (.cons (.var 8) .nil)) (LE s0 s2 s3 s4 s5 s6 s7 (sl t (hdP t tS t1 t2 l pt o)) s9 s10 s11 s12 s13 s14 s15 s16 s17) h = .ok (.v (hdP t tS t1 t2 l pt o) t) (LE s0 s2 s3 s4 s5 s6 s7 (.val (hdP t tS t1 t2 l pt o)) s9 s10 s11 s12 s13 s14 s15 s16 s17) h := by
    unfold LE
    cases t <;> simp only [sl, evS, evA, evM, evT, evL, evR, evO, evI, Out.bind, Out.noex, lift, rd, v_non, v_bl, v_int, v_str, v_lst, v_tup, v_dic, esc, finish, mk, pm0, pm2, pm3, i_lst, i_tup, lo_lst, List.append_nil, Option.bind_some, Option.bind_none, Option.map_some, Option.map_none, Option.bind_eq_bind, List.getElem?_cons_zero, List.getElem?_cons_succ, List.getElem?_nil, List.set_cons_zero, List.set_cons_succ, List.length_cons, List.length_nil, List.mapM_cons, List.mapM_nil, Option.pure_def, Option.getD_some, and_self, Bool.not_true, Bool.not_false, if_true, if_false, Bool.false_eq_true, Bool.true_eq_false, reduceIte, Nat.reduceAdd, Nat.reduceLT, Nat.reduceSub, c]
  have := asg_of (i := 9) e rfl (by show 9 < 25; decide)
  rw [mk_hd] at this
  exact this
theorem L7 (hl2 : rs.length ≤ 100) (hm : m ≤ 100) (hl : ∀ r ∈ rs, r.ns.length = m) (h1 : ∀ r ∈ rs, Sml r.ns) (h2 : Sml pt) :
    evS (callN G (k + 1)) w7 (LE s0 s2 s3 (.val (sysP rs)) s5 (.val (LL pt)) s7 s8 s9 s10 s11 s12 s13 s14 s15 s16 s17) h = .ok .next (LE s0 s2 s3 (.val (sysP rs)) s5 (.val (LL pt)) s7 s8 s9 (.own (rowsP (rs.map (mv pt)))) s11 s12 s13 s14 s15 s16 s17) h := by
  let E0 : Env := LE s0 s2 s3 (.val (sysP rs)) s5 (.val (LL pt)) s7 s8 s9 s10 s11 s12 s13 s14 s15 s16 s17
  have q := rows_comp (callN G (k + 1)) [18, 19, 20, 21] (.tp (.cons (.nm 19) (.cons (.nm 20) (.cons (.nm 21) .nil)))) (.one (.tup (.cons (.bcall .list (.cons (.var 19) .nil)) (.cons (.var 20) (.cons (.bin .sub (.var 21) (.call 28 [] (.cons (.var 19) (.cons (.var 6) .nil)))) .nil))))) E0 E0 h rs (mv pt) (Nat.le_trans hl2 line100)
    (by simp only [E0, LE, sysP, evS, evA, evM, evT, evL, evR, evO, evI, Out.bind, Out.noex, lift, rd, v_non, v_bl, v_int, v_str, v_lst, v_tup, v_dic, esc, finish, mk, pm0, pm2, pm3, i_lst, i_tup, lo_lst, List.append_nil, Option.bind_some, Option.bind_none, Option.map_some, Option.map_none, Option.bind_eq_bind, List.getElem?_cons_zero, List.getElem?_cons_succ, List.getElem?_nil, List.set_cons_zero, List.set_cons_succ, List.length_cons, List.length_nil, List.mapM_cons, List.mapM_nil, Option.pure_def, Option.getD_some, and_self, Bool.not_true, Bool.not_false, if_true, if_false, Bool.false_eq_true, Bool.true_eq_false, reduceIte, Nat.reduceAdd, Nat.reduceLT, Nat.reduceSub]) E0 rfl rfl (fun r hr => by
      have v := s_law_value k r.ns pt h (by rw [hl r hr]; exact Nat.le_trans hm line100) (h1 r hr) h2
      have ol : opB .list [.lst (r.ns.map .int)] = some (.lst (r.ns.map .int), true) := rfl
      refine ⟨((E0.set 19 (.val (.lst (r.ns.map .int)))).set 20 (.val (.str (wd r.eq)))).set 21 (.val (.int r.b)), ?_, rfl⟩
      rw [lcStep_nil (e' := ((E0.set 19 (.val (.lst (r.ns.map .int)))).set 20 (.val (.str (wd r.eq)))).set 21 (.val (.int r.b))) rfl, pvR_ft (mv pt r)]
      simp only [E0, LE, LL, evS, evA, evM, evT, evL, evR, evO, evI, Out.bind, Out.noex, lift, rd, v_non, v_bl, v_int, v_str, v_lst, v_tup, v_dic, esc, finish, mk, pm0, pm2, pm3, i_lst, i_tup, lo_lst, List.append_nil, Option.bind_some, Option.bind_none, Option.map_some, Option.map_none, Option.bind_eq_bind, List.getElem?_cons_zero, List.getElem?_cons_succ, List.getElem?_nil, List.set_cons_zero, List.set_cons_succ, List.length_cons, List.length_nil, List.mapM_cons, List.mapM_nil, Option.pure_def, Option.getD_some, and_self, Bool.not_true, Bool.not_false, if_true, if_false, Bool.false_eq_true, Bool.true_eq_false, reduceIte, Nat.reduceAdd, Nat.reduceLT, Nat.reduceSub, ol, v, bSub, mv])
  exact asg_of q rfl (by show 10 < 25; decide)
theorem nm_inner (C : Calls) (hm : m ≤ 100) (O : OrdOk m o) (r : Rw) (hr : r.ns.length = m) (x20 x21 : SV) :
    evA C (.lc [18, 22] (.nm 22) (.irng1 (.var 3)) .nil (.one (.idx (.var 19) (.midx (.var 7) (.cons (.var 22) .nil))))) [s0, .val (.ref 1), s2, .val (.int m), s4, s5, s6, .val (LL o), s8, s9, s10, s11, s12, s13, s14, s15, s16, s17, .no, .val (.lst (r.ns.map .int)), x20, x21, .no, .no, .no] h
      = .ok (.v (.lst ((renN m o r.ns).map .int)) true) [s0, .val (.ref 1), s2, .val (.int m), s4, s5, s6, .val (LL o), s8, s9, s10, s11, s12, s13, s14, s15, s16, s17, .no, .val (.lst (r.ns.map .int)), x20, x21, .no, .no, .no] h := by
  let E0 : Env := [s0, .val (.ref 1), s2, .val (.int m), s4, s5, s6, .val (LL o), s8, s9, s10, s11, s12, s13, s14, s15, s16, s17, .no, .val (.lst (r.ns.map .int)), x20, x21, .no, .no, .no]
  have lc := lc_map (gd := []) (C := C) (own := [18, 22]) (tg := .nm 22) (it := .irng1 (.var 3)) (body := .one (.idx (.var 19) (.midx (.var 7) (.cons (.var 22) .nil)))) (e := E0) (e1 := E0) (h := h) (h1 := h) (xs := rngItems 0 m)
    (by simp only [evS, evA, evM, evT, evL, evR, evO, evI, Out.bind, Out.noex, lift, rd, v_non, v_bl, v_int, v_str, v_lst, v_tup, v_dic, esc, finish, mk, pm0, pm2, pm3, i_lst, i_tup, lo_lst, List.append_nil, Option.bind_some, Option.bind_none, Option.map_some, Option.map_none, Option.bind_eq_bind, List.getElem?_cons_zero, List.getElem?_cons_succ, List.getElem?_nil, List.set_cons_zero, List.set_cons_succ, List.length_cons, List.length_nil, List.mapM_cons, List.mapM_nil, Option.pure_def, Option.getD_some, and_self, Bool.not_true, Bool.not_false, if_true, if_false, Bool.false_eq_true, Bool.true_eq_false, reduceIte, Nat.reduceAdd, Nat.reduceLT, Nat.reduceSub, E0, (sml9 m).mpr (by omega)]) rfl (fun x => match x with | .int i => .int (r.ns.getD (ixf o i.toNat) 0) | _ => .non) E0 rfl (by rw [rng_len]; exact Nat.le_trans hm line100) (fun p hp => by
      obtain ⟨i, hi⟩ := List.getElem?_of_mem hp
      obtain ⟨him, rfl⟩ := rng_get m i p hi
      refine ⟨E0.set 22 (.val (.int (i : Int))), ?_, rfl⟩
      rw [lcStep_nil (e' := E0.set 22 (.val (.int (i : Int)))) rfl]
      have b0 : ((allInts (o.map .int)).bind fun is => fndI is (i : Int)) = some (ixf o i) := by
        have : allInts (o.map .int) = some o := by
          have := allInts_map o (fun x => x); simpa using this
        rw [this]; exact (O.fnd him).1
      have b2 : opIdx (.lst (r.ns.map .int)) (.int (ixf o i : Nat)) = some (.int (r.ns.getD (ixf o i) 0)) := idx_lst (by rw [hr]; exact (O.fnd him).2)
      simp only [evS, evA, evM, evT, evL, evR, evO, evI, Out.bind, Out.noex, lift, rd, v_non, v_bl, v_int, v_str, v_lst, v_tup, v_dic, esc, finish, mk, pm0, pm2, pm3, i_lst, i_tup, lo_lst, List.append_nil, Option.bind_some, Option.bind_none, Option.map_some, Option.map_none, Option.bind_eq_bind, List.getElem?_cons_zero, List.getElem?_cons_succ, List.getElem?_nil, List.set_cons_zero, List.set_cons_succ, List.length_cons, List.length_nil, List.mapM_cons, List.mapM_nil, Option.pure_def, Option.getD_some, and_self, Bool.not_true, Bool.not_false, if_true, if_false, Bool.false_eq_true, Bool.true_eq_false, reduceIte, Nat.reduceAdd, Nat.reduceLT, Nat.reduceSub, E0, LL, b0, b2, Int.toNat_natCast])
  have hz : ((rngItems 0 m).map fun x => match x with | .int i => PV.int (r.ns.getD (ixf o i.toNat) 0) | _ => .non) = (renN m o r.ns).map .int := by
    simp [rngItems, renN, List.map_map, Function.comp_def]
  rw [hz] at lc
  exact lc
theorem L8 (hl2 : rs.length ≤ 100) (hm : m ≤ 100) (hl : ∀ r ∈ rs, r.ns.length = m) (O : OrdOk m o) :
    evS (callN G k) w8 (LE s0 s2 (.val (.int m)) (.val (sysP rs)) s5 s6 (.val (LL o)) s8 s9 s10 s11 s12 s13 s14 s15 s16 s17) h = .ok .next (LE s0 s2 (.val (.int m)) (.val (sysP rs)) s5 s6 (.val (LL o)) s8 s9 s10 (.own (rowsP (rs.map (ren m o)))) s12 s13 s14 s15 s16 s17) h := by
  let E0 : Env := LE s0 s2 (.val (.int m)) (.val (sysP rs)) s5 s6 (.val (LL o)) s8 s9 s10 s11 s12 s13 s14 s15 s16 s17
  have q := rows_comp (callN G k) [18, 19, 20, 21] (.tp (.cons (.nm 19) (.cons (.nm 20) (.cons (.nm 21) .nil)))) (.one (.tup (.cons (.lc [18, 22] (.nm 22) (.irng1 (.var 3)) .nil (.one (.idx (.var 19) (.midx (.var 7) (.cons (.var 22) .nil))))) (.cons (.var 20) (.cons (.var 21) .nil))))) E0 E0 h rs (ren m o) (Nat.le_trans hl2 line100)
    (by simp only [E0, LE, sysP, evS, evA, evM, evT, evL, evR, evO, evI, Out.bind, Out.noex, lift, rd, v_non, v_bl, v_int, v_str, v_lst, v_tup, v_dic, esc, finish, mk, pm0, pm2, pm3, i_lst, i_tup, lo_lst, List.append_nil, Option.bind_some, Option.bind_none, Option.map_some, Option.map_none, Option.bind_eq_bind, List.getElem?_cons_zero, List.getElem?_cons_succ, List.getElem?_nil, List.set_cons_zero, List.set_cons_succ, List.length_cons, List.length_nil, List.mapM_cons, List.mapM_nil, Option.pure_def, Option.getD_some, and_self, Bool.not_true, Bool.not_false, if_true, if_false, Bool.false_eq_true, Bool.true_eq_false, reduceIte, Nat.reduceAdd, Nat.reduceLT, Nat.reduceSub]) E0 rfl rfl (fun r hr => by
      have inn := nm_inner m o h s0 s2 (.val (sysP rs)) s5 s6 s8 s9 s10 s11 s12 s13 s14 s15 s16 s17 (callN G k) hm O r (hl r hr) (.val (.str (wd r.eq))) (.val (.int r.b))
      refine ⟨((E0.set 19 (.val (.lst (r.ns.map .int)))).set 20 (.val (.str (wd r.eq)))).set 21 (.val (.int r.b)), ?_, rfl⟩
      rw [lcStep_nil (e' := ((E0.set 19 (.val (.lst (r.ns.map .int)))).set 20 (.val (.str (wd r.eq)))).set 21 (.val (.int r.b))) rfl, pvR_ft (ren m o r)]
      simp only [E0, LE, evS, evA, evM, evT, evL, evR, evO, evI, Out.bind, Out.noex, lift, rd, v_non, v_bl, v_int, v_str, v_lst, v_tup, v_dic, esc, finish, mk, pm0, pm2, pm3, i_lst, i_tup, lo_lst, List.append_nil, Option.bind_some, Option.bind_none, Option.map_some, Option.map_none, Option.bind_eq_bind, List.getElem?_cons_zero, List.getElem?_cons_succ, List.getElem?_nil, List.set_cons_zero, List.set_cons_succ, List.length_cons, List.length_nil, List.mapM_cons, List.mapM_nil, Option.pure_def, Option.getD_some, and_self, Bool.not_true, Bool.not_false, if_true, if_false, Bool.false_eq_true, Bool.true_eq_false, reduceIte, Nat.reduceAdd, Nat.reduceLT, Nat.reduceSub, inn, ren])
  exact asg_of q rfl (by show 11 < 25; decide)
/-- the two told lists -/
def Dr (rs : List Rw) (pt : List Int) : List Rw := rs.map (mv pt)
def Nr (rs : List Rw) (m : Nat) (o : List Int) : List Rw := rs.map (ren m o)
def h2 (D N : List Rw) (h : Hs) : Hs := hR N (hR D h)
def hT (D N : List Rw) (h : Hs) : Hs := h2 D N h ++ [.lst [.ref (tR D h), .ref (tR N (hR D h))]]
theorem L9 (hm : m ≤ 100) (hm1 : 1 ≤ m) (S : Sys m l) (hl : rws l = rs) (O : OrdOk m o) (hp : pt.length = m) (h2' : Sml pt) :
    evS (callN G (k + 7)) w9 (LE s0 s2 (.val (.int m)) s4 s5 s6 s7 (.val (hdP t tS t1 t2 l pt o)) s9 s10 s11 s12 s13 s14 s15 s16 s17) h = .ok .next (LE s0 s2 (.val (.int m)) s4 s5 s6 s7 (.val (hdP t tS t1 t2 l pt o)) s9 s10 s11 (.val (.ref (h2 (Dr rs pt) (Nr rs m o) h).length)) s13 s14 s15 s16 s17) (hT (Dr rs pt) (Nr rs m o) h) := by
  have a := s_shifted k tS t1 l m pt h hm1 hm S hp h2'
  have b := s_renamed k tS t2 l m o (hR (Dr rs pt) h) hm1 hm S O
  rw [hl] at a b
  have a' : callN G (k + 7) 15 [.int m, pvS tS l, sq t1 (pt.map .int)] h = .ret (.ref (tR (Dr rs pt) h)) false (hR (Dr rs pt) h) := a
  have b' : callN G (k + 7) 16 [.int m, pvS tS l, sq t2 (o.map .int)] (hR (Dr rs pt) h) = .ret (.ref (tR (Nr rs m o) (hR (Dr rs pt) h))) false (h2 (Dr rs pt) (Nr rs m o) h) := b
  unfold w9 LE
  simp only [evS, evA, evM, evT, evL, evR, evO, evI, Out.bind, Out.noex, lift, rd, v_non, v_bl, v_int, v_str, v_lst, v_tup, v_dic, esc, finish, mk, pm0, pm2, pm3, i_lst, i_tup, lo_lst, List.append_nil, Option.bind_some, Option.bind_none, Option.map_some, Option.map_none, Option.bind_eq_bind, List.getElem?_cons_zero, List.getElem?_cons_succ, List.getElem?_nil, List.set_cons_zero, List.set_cons_succ, List.length_cons, List.length_nil, List.mapM_cons, List.mapM_nil, Option.pure_def, Option.getD_some, and_self, Bool.not_true, Bool.not_false, if_true, if_false, Bool.false_eq_true, Bool.true_eq_false, reduceIte, Nat.reduceAdd, Nat.reduceLT, Nat.reduceSub, view_hd, hd0, hd1, hd2, a', b']
  rfl
theorem L10 (hm : m ≤ 100) (hm1 : 1 ≤ m) (hr : ∀ r ∈ rs, OkR m r) (hn : rs.length ≤ 6) (O : OrdOk m o) (hp : pt.length = m) (h2' : Sml pt) :
    evS (callN G (k + 7)) w10 (LE s0 s2 (.val (.int m)) (.val (sysP rs)) s5 (.val (LL pt)) (.val (LL o)) s8 s9 s10 s11 s12 s13 s14 s15 s16 s17) h = .ok .next (LE s0 s2 (.val (.int m)) (.val (sysP rs)) s5 (.val (LL pt)) (.val (LL o)) s8 s9 s10 s11 s12 (.own (.lst [.ref (tR (Dr rs pt) h), .ref (tR (Nr rs m o) (hR (Dr rs pt) h))])) s14 s15 s16 s17) (h2 (Dr rs pt) (Nr rs m o) h) := by
  have SF := sysF_ok hr hn
  have a := s_shifted k true true (sysF rs) m pt h hm1 hm SF hp h2'
  have b := s_renamed k true true (sysF rs) m o (hR (Dr rs pt) h) hm1 hm SF O
  rw [sysF_rws, sysF_pv] at a b
  have a' : callN G (k + 7) 15 [.int m, sysP rs, LL pt] h = .ret (.ref (tR (Dr rs pt) h)) false (hR (Dr rs pt) h) := a
  have b' : callN G (k + 7) 16 [.int m, sysP rs, LL o] (hR (Dr rs pt) h) = .ret (.ref (tR (Nr rs m o) (hR (Dr rs pt) h))) false (h2 (Dr rs pt) (Nr rs m o) h) := b
  have c18 : ∀ h, callN G (k + 7) 25 [sysP rs] h = .ret (sysP rs) true h := fun h => by
    have d := dat_S true (sysF rs) m hm SF
    rw [sysF_pv] at d
    exact s_copied 3 _ (k + 3) h d
  have o1 : opB .list [LL pt] = some (LL pt, true) := rfl
  have o2 : opB .list [LL o] = some (LL o, true) := rfl
  have v1 : ∀ h, view h (LL pt) = LL pt := fun _ => rfl
  have v2 : ∀ h, view h (LL o) = LL o := fun _ => rfl
  unfold w10 LE
  simp only [evS, evA, evM, evT, evL, evR, evO, evI, Out.bind, Out.noex, lift, rd, v_non, v_bl, v_int, v_str, v_lst, v_tup, v_dic, esc, finish, mk, pm0, pm2, pm3, i_lst, i_tup, lo_lst, List.append_nil, Option.bind_some, Option.bind_none, Option.map_some, Option.map_none, Option.bind_eq_bind, List.getElem?_cons_zero, List.getElem?_cons_succ, List.getElem?_nil, List.set_cons_zero, List.set_cons_succ, List.length_cons, List.length_nil, List.mapM_cons, List.mapM_nil, Option.pure_def, Option.getD_some, and_self, Bool.not_true, Bool.not_false, if_true, if_false, Bool.false_eq_true, Bool.true_eq_false, reduceIte, Nat.reduceAdd, Nat.reduceLT, Nat.reduceSub, c18, o1, o2, v1, v2, a', b']
end
end K02

namespace K02
open PL
open PySem (Str)
variable {rest : Hs}
structure RsOk (rs : List Rw) : Prop where
  n : rs.length ≤ 100
  l : ∀ r ∈ rs, r.ns.length ≤ 200
theorem RsOk.a {rs : List Rw} (R : RsOk rs) : rs.length ≤ line ∧ rs.length < line := ⟨Nat.le_trans R.n line100, Nat.lt_of_le_of_lt R.n (by decide)⟩
theorem RsOk.b {rs : List Rw} (R : RsOk rs) : (∀ r ∈ rs, r.ns.length ≤ line) ∧ ∀ r ∈ rs, r.ns.length < line := ⟨fun r hr => Nat.le_trans (R.l r hr) (by decide), fun r hr => Nat.lt_of_le_of_lt (R.l r hr) (by decide)⟩
theorem h2_app (D N : List Rw) (h : Hs) : ∃ x, h2 D N h = hR D h ++ x := hR_app N (hR D h)
theorem hT_top (D N : List Rw) (h : Hs) : (hT D N h)[(h2 D N h).length]? = some (.lst [.ref (tR D h), .ref (tR N (hR D h))]) := by
  unfold hT
  rw [List.getElem?_append_right (Nat.le_refl _)]; simp
theorem hT_appD (D N : List Rw) (h : Hs) : ∃ x, hT D N h = hR D h ++ x := by
  obtain ⟨x, e⟩ := h2_app D N h
  exact ⟨x ++ [.lst [.ref (tR D h), .ref (tR N (hR D h))]], by unfold hT; rw [e, List.append_assoc]⟩
theorem hT_appN (D N : List Rw) (h : Hs) : ∃ x, hT D N h = hR N (hR D h) ++ x := ⟨_, rfl⟩
theorem R_two {h : Hs} {a b a' b' : PV} {n : Nat} (h1 : Rp h n a a') (h2 : Rp h n b b') : Rp h (n + 1) (.lst [a, b]) (.lst [a', b']) := by
  refine .lst rfl (by show 2 ≤ line; decide) fun i x y q1 q2 => ?_
  match i with
  | 0 => simp at q1 q2; subst q1; subst q2; exact h1
  | 1 => simp at q1 q2; subst q1; subst q2; exact h2
  | i + 2 => simp at q1
theorem R_toldC (D N : List Rw) (h h' : Hs) (RD : RsOk D) (RN : RsOk N) (hh : ∃ x, h' = hT D N h ++ x) : Rp h' 4 (.ref (h2 D N h).length) (.lst [rowsP D, rowsP N]) := by
  obtain ⟨x, rfl⟩ := hh
  obtain ⟨y, ey⟩ := hT_appD D N h
  obtain ⟨z, ez⟩ := hT_appN D N h
  refine .ref (app_get (hT_top D N h)) rfl (by show 2 ≤ line; decide) fun i a b q1 q2 => ?_
  match i with
  | 0 => simp at q1 q2; subst q1; subst q2; exact R_hR D h _ ⟨y ++ x, by rw [ey, List.append_assoc]⟩ RD.b.1 RD.a.1
  | 1 => simp at q1 q2; subst q1; subst q2; exact R_hR N (hR D h) _ ⟨z ++ x, by rw [ez, List.append_assoc]⟩ RN.b.1 RN.a.1
  | i + 2 => simp at q1
theorem R_toldL (D N : List Rw) (h h' : Hs) (RD : RsOk D) (RN : RsOk N) (hh : ∃ x, h' = h2 D N h ++ x) : Rp h' 4 (.lst [.ref (tR D h), .ref (tR N (hR D h))]) (.lst [rowsP D, rowsP N]) := by
  obtain ⟨x, rfl⟩ := hh
  obtain ⟨y, ey⟩ := h2_app D N h
  exact R_two (R_hR D h _ ⟨y ++ x, by rw [ey, List.append_assoc]⟩ RD.b.1 RD.a.1) (R_hR N (hR D h) _ ⟨x, rfl⟩ RN.b.1 RN.a.1)
/-- told lists spoilt: nothing ahead of them is touched -/
theorem sp_pair (k : Nat) (D N : List Rw) (h0 h : Hs) (RD : RsOk D) (RN : RsOk N) (hs : ∀ i, h0.length ≤ i → i < (hT D N h0).length → h[i]? = (hT D N h0)[i]?) :
    ∃ h', callN G (k + 5) 24 [.ref (h2 D N h0).length] h = .ret .non false h' ∧ h'.length = h.length ∧ ∀ i, i < h0.length → h'[i]? = h[i]? := by
  have lD : (hR D h0).length = h0.length + D.length + 1 := hR_len D h0
  have lN : (h2 D N h0).length = (hR D h0).length + N.length + 1 := hR_len N (hR D h0)
  have lT : (hT D N h0).length = (h2 D N h0).length + 1 := by simp [hT]
  obtain ⟨y, ey⟩ := hT_appD D N h0
  obtain ⟨z, ez⟩ := hT_appN D N h0
  have hD : ∀ i, h0.length ≤ i → i < (hR D h0).length → h[i]? = (hR D h0)[i]? := fun i h1 h2' => by
    rw [hs i h1 (by omega), ey, List.getElem?_append_left h2']
  have hN : ∀ i, h0.length ≤ i → i < (hR N (hR D h0)).length → h[i]? = (hR N (hR D h0))[i]? := fun i h1 h2' => by
    have : i < (h2 D N h0).length := h2'
    rw [hs i h1 (by omega), ez, List.getElem?_append_left h2']
  obtain ⟨h1, q1, ln1, g1⟩ := sp_told k h0.length (h0.length + D.length) D h (by rw [hD _ (by omega) (by omega)]; exact hR_top D h0) (Nat.le_refl _) (fun i r hr => by
    have := (List.getElem?_eq_some_iff.mp hr).1
    rw [hD _ (by omega) (by omega)]; exact hR_cell D h0 i r hr) RD.b.2 RD.a.2
  obtain ⟨h2', q2, ln2, g2⟩ := sp_told k (hR D h0).length ((hR D h0).length + N.length) N h1 (by rw [g1 _ (by omega), hN _ (by omega) (by rw [show (hR N (hR D h0)).length = (h2 D N h0).length from rfl]; omega)]; exact hR_top N (hR D h0)) (Nat.le_refl _) (fun i r hr => by
    have := (List.getElem?_eq_some_iff.mp hr).1
    rw [g1 _ (by omega), hN _ (by omega) (by rw [show (hR N (hR D h0)).length = (h2 D N h0).length from rfl]; omega)]; exact hR_cell N (hR D h0) i r hr) RN.b.2 RN.a.2
  have ht : h[(h2 D N h0).length]? = some (.lst [.ref (tR D h0), .ref (tR N (hR D h0))]) := by
    rw [hs _ (by omega) (by omega)]; exact hT_top D N h0
  have c := sp_two (k + 3) (h2 D N h0).length (tR D h0) (tR N (hR D h0)) h h1 h2' ht q1 (g1 _ (by omega)) q2 (g2 _ (by omega))
  refine ⟨_, c, by rw [List.length_set, ln2, ln1], fun i hi => ?_⟩
  rw [List.getElem?_set_ne (by omega), g2 i (by omega), g1 i (by omega)]
section
variable (k m : Nat) (rs : List Rw) (pt o : List Int) (t tS t1 t2 : Bool) (l : List (Bool × Bool × Rw)) (h : Hs) (s0 s2 s3 s4 s5 s6 s7 s8 s9 s10 s11 s12 s13 s14 s15 s16 s17 : SV)
def hF (D N : List Rw) (h : Hs) : Hs := h2 D N (hT D N h)
def tN (D N : List Rw) (h : Hs) : PV := .lst [.ref (tR D (hT D N h)), .ref (tR N (hR D (hT D N h)))]
theorem L12 (D N : List Rw) (RD : RsOk D) (RN : RsOk N) (hm : m ≤ 100) (S : Sys m l) (h1 : pt.length = m) (h2' : o.length = m) :
    evS (callN G (k + 5)) w12 (LE s0 s2 s3 s4 s5 s6 s7 (.val (hdP t tS t1 t2 l pt o)) (sl t (hdP t tS t1 t2 l pt o)) (.own (rowsP D)) (.own (rowsP N)) (.val (.ref (h2 D N h).length)) (.own (tN D N h)) s14 s15 s16 s17) (hF D N h)
      = .ok .next (LE s0 s2 s3 s4 s5 s6 s7 (.val (hdP t tS t1 t2 l pt o)) (.val (hdP t tS t1 t2 l pt o)) (.val (rowsP D)) (.val (rowsP N)) (.val (.ref (h2 D N h).length)) (.val (tN D N h)) s14 s15 s16 s17) (hF D N h) := by
  obtain ⟨x, ex⟩ := hR_app D (hT D N h)
  obtain ⟨y, ey⟩ := hR_app N (hR D (hT D N h))
  have eF : hF D N h = hT D N h ++ (x ++ y) := by
    show hR N (hR D (hT D N h)) = _
    rw [ey, ex, List.append_assoc]
  have c1 : callN G (k + 5) 23 [.ref (h2 D N h).length, .lst [rowsP D, rowsP N]] (hF D N h) = .ret (.bl true) false (hF D N h) := s_sameR 4 _ _ k _ (R_toldC D N h _ RD RN ⟨x ++ y, eF⟩)
  have c2 : callN G (k + 5) 23 [tN D N h, .lst [rowsP D, rowsP N]] (hF D N h) = .ret (.bl true) false (hF D N h) := s_sameR 4 _ _ k _ (R_toldL D N (hT D N h) _ RD RN ⟨[], by simp [hF]⟩)
  have c3 : callN G (k + 5) 23 [hdP t tS t1 t2 l pt o, hdP t tS t1 t2 l pt o] (hF D N h) = .ret (.bl true) false (hF D N h) := s_same 4 _ k _ (dat_hd t tS t1 t2 l pt o m hm S h1 h2')
  unfold w12 w11 LE
  cases t <;> simp only [sl, evS, evA, evM, evT, evL, evR, evO, evI, Out.bind, Out.noex, lift, rd, v_non, v_bl, v_int, v_str, v_lst, v_tup, v_dic, esc, finish, mk, pm0, pm2, pm3, i_lst, i_tup, lo_lst, List.append_nil, Option.bind_some, Option.bind_none, Option.map_some, Option.map_none, Option.bind_eq_bind, List.getElem?_cons_zero, List.getElem?_cons_succ, List.getElem?_nil, List.set_cons_zero, List.set_cons_succ, List.length_cons, List.length_nil, List.mapM_cons, List.mapM_nil, Option.pure_def, Option.getD_some, and_self, Bool.not_true, Bool.not_false, if_true, if_false, Bool.false_eq_true, Bool.true_eq_false, reduceIte, Nat.reduceAdd, Nat.reduceLT, Nat.reduceSub, c1, c2, c3, truthy]
/-! points -/
theorem L13 (c : Nat) (s : SI c rest h) (hc : c + 50 < 1000000) (hm : m ≤ 6) (h5 : Pl s5) :
    ∃ (ps : List Int) (h' : Hs), evS (callN G (k + 2)) w13 (LE s0 s2 (.val (.int m)) s4 s5 s6 s7 s8 s9 s10 s11 s12 s13 s14 s15 s16 s17) h = .ok .next (LE s0 s2 (.val (.int m)) s4 s5 s6 s7 s8 s9 s10 s11 s12 s13 s14 (.own (LL ps)) s16 s17) h' ∧ ps.length = m ∧ Bdd 4 ps ∧ SI (c + m) rest h' := by
  obtain ⟨pts, h1, q1, l1, l2, s1⟩ := ints_lc (k := k) (own := [18, 5]) (t := 5) (tg := .nil) (arg := .nil) (e := LE s0 s2 (.val (.int m)) s4 s5 s6 s7 s8 s9 s10 s11 s12 s13 s14 s15 s16 s17) 4 (by decide) (by decide) m (by omega) s (by omega) (.irng1 (.var 3)) (.call 27 [] (.cons (.var 1) (.cons (.con (.int (4))) .nil)))
    (by unfold LE; simp only [evS, evA, evM, evT, evL, evR, evO, evI, Out.bind, Out.noex, lift, rd, v_non, v_bl, v_int, v_str, v_lst, v_tup, v_dic, esc, finish, mk, pm0, pm2, pm3, i_lst, i_tup, lo_lst, List.append_nil, Option.bind_some, Option.bind_none, Option.map_some, Option.map_none, Option.bind_eq_bind, List.getElem?_cons_zero, List.getElem?_cons_succ, List.getElem?_nil, List.set_cons_zero, List.set_cons_succ, List.length_cons, List.length_nil, List.mapM_cons, List.mapM_nil, Option.pure_def, Option.getD_some, and_self, Bool.not_true, Bool.not_false, if_true, if_false, Bool.false_eq_true, Bool.true_eq_false, reduceIte, Nat.reduceAdd, Nat.reduceLT, Nat.reduceSub, (sml9 m).mpr (by omega)]) (by rcases h5 with rfl | ⟨v, rfl⟩ <;> rfl) (by rcases h5 with rfl | ⟨v, rfl⟩ <;> rfl) (fun i h => ⟨(LE s0 s2 (.val (.int m)) s4 .no s6 s7 s8 s9 s10 s11 s12 s13 s14 s15 s16 s17).set 5 (.val (.int i)), rfl, rfl, by
      unfold LE
      simp only [evS, evA, evM, evT, evL, evR, evO, evI, Out.bind, Out.noex, lift, rd, v_non, v_bl, v_int, v_str, v_lst, v_tup, v_dic, esc, finish, mk, pm0, pm2, pm3, i_lst, i_tup, lo_lst, List.append_nil, Option.bind_some, Option.bind_none, Option.map_some, Option.map_none, Option.bind_eq_bind, List.getElem?_cons_zero, List.getElem?_cons_succ, List.getElem?_nil, List.set_cons_zero, List.set_cons_succ, List.length_cons, List.length_nil, List.mapM_cons, List.mapM_nil, Option.pure_def, Option.getD_some, and_self, Bool.not_true, Bool.not_false, if_true, if_false, Bool.false_eq_true, Bool.true_eq_false, reduceIte, Nat.reduceAdd, Nat.reduceLT, Nat.reduceSub]
      cases callN G (k + 2) 27 [.ref 1, .int 4] h <;> rfl⟩)
  exact ⟨pts, h1, asg_of q1 rfl (by show 15 < 25; decide), l1, l2, s1⟩
theorem bl_eq (a b : Bool) : opEq (.bl a) (.bl b) = some (a == b) := by simp [opEq, okD, dep, eqv]
theorem all_cg {rs : List Rw} {f g : Rw → Bool} (h : ∀ r ∈ rs, f r = g r) : rs.all f = rs.all g := by
  induction rs with
  | nil => rfl
  | cons a l ih => rw [List.all_cons, List.all_cons, h a List.mem_cons_self, ih fun r hr => h r (List.mem_cons_of_mem _ hr)]
theorem all_mv (ps : List Int) (hl : ∀ r ∈ rs, r.ns.length = m) (hp : ps.length = m) (hpt : pt.length = m) : (Dr rs pt).all (rh ps) = rs.all (rh (addL ps pt)) := by
  unfold Dr
  rw [List.all_map]
  exact all_cg fun r hr => rh_mv ps pt r (by rw [hp, hl r hr]) (by rw [hpt, hl r hr])
theorem all_ren (ps : List Int) (O : OrdOk m o) (ho : o.Perm (rgI m)) (hl : ∀ r ∈ rs, r.ns.length = m) (hp : ps.length = m) : (Nr rs m o).all (rh ps) = rs.all (rh (permS m o ps)) := by
  unfold Nr
  rw [List.all_map]
  exact all_cg fun r hr => rh_ren m o ps O r ho (hl r hr) hp
def addG : PV → PV := fun p => match p with | .tup [.int a, .int b] => .int (a + b) | _ => .non
theorem add_comp (C : Calls) (ps : List Int) (hp : ps.length ≤ 100) : evA C (.lc [18, 23, 24] (.tp (.cons (.nm 23) (.cons (.nm 24) .nil))) (.izip (.var 15) (.var 6)) .nil (.one (.bin .add (.var 23) (.var 24)))) (LE s0 s2 s3 s4 s5 (.val (LL pt)) s7 s8 s9 s10 s11 s12 s13 s14 (.val (LL ps)) s16 s17) h
    = .ok (.v (LL (addL ps pt)) true) (LE s0 s2 s3 s4 s5 (.val (LL pt)) s7 s8 s9 s10 s11 s12 s13 s14 (.val (LL ps)) s16 s17) h := by
  let E0 : Env := LE s0 s2 s3 s4 s5 (.val (LL pt)) s7 s8 s9 s10 s11 s12 s13 s14 (.val (LL ps)) s16 s17
  have lc := lc_map (gd := []) (C := C) (own := [18, 23, 24]) (tg := .tp (.cons (.nm 23) (.cons (.nm 24) .nil))) (it := .izip (.var 15) (.var 6)) (body := .one (.bin .add (.var 23) (.var 24))) (e := E0) (e1 := E0) (h := h) (h1 := h) (xs := (ps.zip pt).map fun z => PV.tup [.int z.1, .int z.2])
    (by simp only [evS, evA, evM, evT, evL, evR, evO, evI, Out.bind, Out.noex, lift, rd, v_non, v_bl, v_int, v_str, v_lst, v_tup, v_dic, esc, finish, mk, pm0, pm2, pm3, i_lst, i_tup, lo_lst, List.append_nil, Option.bind_some, Option.bind_none, Option.map_some, Option.map_none, Option.bind_eq_bind, List.getElem?_cons_zero, List.getElem?_cons_succ, List.getElem?_nil, List.set_cons_zero, List.set_cons_succ, List.length_cons, List.length_nil, List.mapM_cons, List.mapM_nil, Option.pure_def, Option.getD_some, and_self, Bool.not_true, Bool.not_false, if_true, if_false, Bool.false_eq_true, Bool.true_eq_false, reduceIte, Nat.reduceAdd, Nat.reduceLT, Nat.reduceSub, E0, LE, LL, zip_int]) rfl addG E0 rfl (by simp; exact Nat.le_trans (Nat.le_trans (Nat.min_le_left _ _) hp) line100) (fun p hp => by
      obtain ⟨z, hz, rfl⟩ := List.mem_map.mp hp
      refine ⟨(E0.set 23 (.val (.int z.1))).set 24 (.val (.int z.2)), ?_, rfl⟩
      rw [lcStep_nil (e' := (E0.set 23 (.val (.int z.1))).set 24 (.val (.int z.2))) rfl]
      simp only [evS, evA, evM, evT, evL, evR, evO, evI, Out.bind, Out.noex, lift, rd, v_non, v_bl, v_int, v_str, v_lst, v_tup, v_dic, esc, finish, mk, pm0, pm2, pm3, i_lst, i_tup, lo_lst, List.append_nil, Option.bind_some, Option.bind_none, Option.map_some, Option.map_none, Option.bind_eq_bind, List.getElem?_cons_zero, List.getElem?_cons_succ, List.getElem?_nil, List.set_cons_zero, List.set_cons_succ, List.length_cons, List.length_nil, List.mapM_cons, List.mapM_nil, Option.pure_def, Option.getD_some, and_self, Bool.not_true, Bool.not_false, if_true, if_false, Bool.false_eq_true, Bool.true_eq_false, reduceIte, Nat.reduceAdd, Nat.reduceLT, Nat.reduceSub, E0, LE, bAdd, addG])
  have hz : ((ps.zip pt).map fun z => PV.tup [.int z.1, .int z.2]).map addG = (addL ps pt).map .int := by
    rw [List.map_map, addL, List.map_map]; rfl
  rw [hz] at lc
  exact lc
theorem perm_comp (C : Calls) (ps : List Int) (hm : m ≤ 100) (hp : ps.length = m) (O : OrdOk m o) (h5 : Pl s5) : evA C (.lc [18, 5] (.nm 5) (.irng1 (.var 3)) .nil (.one (.idx (.var 15) (.idx (.var 7) (.var 5))))) (LE s0 s2 (.val (.int m)) s4 s5 s6 (.val (LL o)) s8 s9 s10 s11 s12 s13 s14 (.val (LL ps)) s16 s17) h
    = .ok (.v (LL (permS m o ps)) true) (LE s0 s2 (.val (.int m)) s4 s5 s6 (.val (LL o)) s8 s9 s10 s11 s12 s13 s14 (.val (LL ps)) s16 s17) h := by
  let E0 : Env := LE s0 s2 (.val (.int m)) s4 s5 s6 (.val (LL o)) s8 s9 s10 s11 s12 s13 s14 (.val (LL ps)) s16 s17
  let E1 : Env := LE s0 s2 (.val (.int m)) s4 .no s6 (.val (LL o)) s8 s9 s10 s11 s12 s13 s14 (.val (LL ps)) s16 s17
  have lc := lc_map (gd := []) (C := C) (own := [18, 5]) (tg := .nm 5) (it := .irng1 (.var 3)) (body := .one (.idx (.var 15) (.idx (.var 7) (.var 5)))) (e := E0) (e1 := E0) (h := h) (h1 := h) (xs := rngItems 0 m)
    (by simp only [evS, evA, evM, evT, evL, evR, evO, evI, Out.bind, Out.noex, lift, rd, v_non, v_bl, v_int, v_str, v_lst, v_tup, v_dic, esc, finish, mk, pm0, pm2, pm3, i_lst, i_tup, lo_lst, List.append_nil, Option.bind_some, Option.bind_none, Option.map_some, Option.map_none, Option.bind_eq_bind, List.getElem?_cons_zero, List.getElem?_cons_succ, List.getElem?_nil, List.set_cons_zero, List.set_cons_succ, List.length_cons, List.length_nil, List.mapM_cons, List.mapM_nil, Option.pure_def, Option.getD_some, and_self, Bool.not_true, Bool.not_false, if_true, if_false, Bool.false_eq_true, Bool.true_eq_false, reduceIte, Nat.reduceAdd, Nat.reduceLT, Nat.reduceSub, E0, LE, (sml9 m).mpr (by omega)]) rfl (fun x => match x with | .int i => .int (ps.getD (o.getD i.toNat 0).toNat 0) | _ => .non) E1 (by rcases h5 with rfl | ⟨v, rfl⟩ <;> rfl) (by rw [rng_len]; exact Nat.le_trans hm line100) (fun p hp' => by
      obtain ⟨i, hi⟩ := List.getElem?_of_mem hp'
      obtain ⟨him, rfl⟩ := rng_get m i p hi
      refine ⟨E1.set 5 (.val (.int (i : Int))), ?_, rfl⟩
      rw [lcStep_nil (e' := E1.set 5 (.val (.int (i : Int)))) rfl]
      have hio : i < o.length := by rw [O.len]; exact him
      have b1 : opIdx (.lst (o.map .int)) (.int (i : Int)) = some (.int (o.getD i 0)) := idx_lst hio
      have hb := O.bd (o.getD i 0) (by rw [List.getD_eq_getElem?_getD, List.getElem?_eq_getElem hio]; exact List.getElem_mem hio)
      have b2 : opIdx (.lst (ps.map .int)) (.int (o.getD i 0)) = some (.int (ps.getD (o.getD i 0).toNat 0)) := by
        have := idx_lst (xs := ps) (j := (o.getD i 0).toNat) (by omega)
        rw [Int.toNat_of_nonneg hb.1] at this
        exact this
      simp only [evS, evA, evM, evT, evL, evR, evO, evI, Out.bind, Out.noex, lift, rd, v_non, v_bl, v_int, v_str, v_lst, v_tup, v_dic, esc, finish, mk, pm0, pm2, pm3, i_lst, i_tup, lo_lst, List.append_nil, Option.bind_some, Option.bind_none, Option.map_some, Option.map_none, Option.bind_eq_bind, List.getElem?_cons_zero, List.getElem?_cons_succ, List.getElem?_nil, List.set_cons_zero, List.set_cons_succ, List.length_cons, List.length_nil, List.mapM_cons, List.mapM_nil, Option.pure_def, Option.getD_some, and_self, Bool.not_true, Bool.not_false, if_true, if_false, Bool.false_eq_true, Bool.true_eq_false, reduceIte, Nat.reduceAdd, Nat.reduceLT, Nat.reduceSub, E1, LE, LL, b1, b2, Int.toNat_natCast])
  have hz : ((rngItems 0 m).map fun x => match x with | .int i => PV.int (ps.getD (o.getD i.toNat 0).toNat 0) | _ => .non) = (permS m o ps).map .int := by
    simp [rngItems, permS, List.map_map, Function.comp_def]
  rw [hz] at lc
  have hE : backE [18, 5] (frzAt [18, 5] E0) E1 = E0 := by rcases h5 with rfl | ⟨v, rfl⟩ <;> rfl
  rw [hE] at lc
  exact lc
theorem addL_sml {a b : List Int} {x y : Int} (h1 : Bdd x a) (h2 : Bdd y b) (hx : x + y < 1000) : Sml (addL a b) := fun z hz => by
  obtain ⟨w, hw, rfl⟩ := List.mem_map.mp hz
  have a1 := h1 w.1 (List.of_mem_zip (a := w.1) (b := w.2) hw).1
  have a2 := h2 w.2 (List.of_mem_zip (a := w.1) (b := w.2) hw).2
  exact Nat.lt_trans (show (w.1 + w.2).natAbs < 1000 by omega) (by decide)
theorem permS_sml {s : List Int} (h1 : Sml s) : Sml (permS m o s) := fun z hz => by
  obtain ⟨i, _, rfl⟩ := List.mem_map.mp hz
  exact getD_small h1 _
theorem L15 (ps : List Int) (hn : rs.length ≤ 100) (hm : m ≤ 100) (hl : ∀ r ∈ rs, r.ns.length = m) (h1 : ∀ r ∈ rs, Sml r.ns) (hp : ps.length = m) (hpt : pt.length = m) (b1 : Bdd 4 ps) (b2 : Bdd 5 pt) :
    evS (callN G (k + 3)) w15 (LE s0 s2 s3 (.val (sysP rs)) s5 (.val (LL pt)) s7 s8 s9 (.val (rowsP (Dr rs pt))) s11 s12 s13 s14 (.own (LL ps)) s16 s17) h = .ok .next (LE s0 s2 s3 (.val (sysP rs)) s5 (.val (LL pt)) s7 s8 s9 (.val (rowsP (Dr rs pt))) s11 s12 s13 s14 (.val (LL ps)) s16 s17) h := by
  have ml : m ≤ line := Nat.le_trans hm line100
  have nl : rs.length ≤ line := Nat.le_trans hn line100
  have a := s_law_holds k (Dr rs pt) ps h (fun r hr => by obtain ⟨z, hz, rfl⟩ := List.mem_map.mp hr; show z.ns.length ≤ line; rw [hl z hz]; exact ml) (fun r hr => by obtain ⟨z, hz, rfl⟩ := List.mem_map.mp hr; exact h1 z hz) (b1.sml (by decide)) (by simpa [Dr] using nl)
  have b := s_law_holds k rs (addL ps pt) h (fun r hr => by rw [hl r hr]; exact ml) h1 (addL_sml b1 b2 (by decide)) nl
  rw [all_mv m rs pt ps hl hp hpt] at a
  have a' : callN G (k + 3) 30 [rowsP (Dr rs pt), LL ps] h = .ret (.bl (rs.all (rh (addL ps pt)))) false h := a
  have b' : callN G (k + 3) 30 [sysP rs, LL (addL ps pt)] h = .ret (.bl (rs.all (rh (addL ps pt)))) false h := b
  have lc := add_comp pt h s0 s2 s3 (.val (sysP rs)) s5 s7 s8 s9 (.val (rowsP (Dr rs pt))) s11 s12 s13 s14 s16 s17 (callN G (k + 3)) ps (by omega)
  have cc : ((Option.map (fun x => !x) (opEq (.bl (rs.all (rh (addL ps pt)))) (.bl (rs.all (rh (addL ps pt)))))) : Option Bool) = some false := by rw [bl_eq]; simp
  unfold w15 w14
  unfold LE at lc ⊢
  simp only [evS, evA, evM, evT, evL, evR, evO, evI, Out.bind, Out.noex, lift, rd, v_non, v_bl, v_int, v_str, v_lst, v_tup, v_dic, esc, finish, mk, pm0, pm2, pm3, i_lst, i_tup, lo_lst, List.append_nil, Option.bind_some, Option.bind_none, Option.map_some, Option.map_none, Option.bind_eq_bind, List.getElem?_cons_zero, List.getElem?_cons_succ, List.getElem?_nil, List.set_cons_zero, List.set_cons_succ, List.length_cons, List.length_nil, List.mapM_cons, List.mapM_nil, Option.pure_def, Option.getD_some, and_self, Bool.not_true, Bool.not_false, if_true, if_false, Bool.false_eq_true, Bool.true_eq_false, reduceIte, Nat.reduceAdd, Nat.reduceLT, Nat.reduceSub, a', lc, b', opCmp, cc, truthy]
theorem L17 (ps : List Int) (hn : rs.length ≤ 100) (hm : m ≤ 100) (hl : ∀ r ∈ rs, r.ns.length = m) (h1 : ∀ r ∈ rs, Sml r.ns) (hp : ps.length = m) (b1 : Bdd 4 ps) (O : OrdOk m o) (ho : o.Perm (rgI m)) (h5 : Pl s5) :
    evS (callN G (k + 3)) w17 (LE s0 s2 (.val (.int m)) (.val (sysP rs)) s5 s6 (.val (LL o)) s8 s9 s10 (.val (rowsP (Nr rs m o))) s12 s13 s14 (.val (LL ps)) s16 s17) h = .ok .next (LE s0 s2 (.val (.int m)) (.val (sysP rs)) s5 s6 (.val (LL o)) s8 s9 s10 (.val (rowsP (Nr rs m o))) s12 s13 s14 (.val (LL ps)) s16 s17) h := by
  have ml : m ≤ line := Nat.le_trans hm line100
  have nl : rs.length ≤ line := Nat.le_trans hn line100
  have a := s_law_holds k (Nr rs m o) ps h (fun r hr => by obtain ⟨z, hz, rfl⟩ := List.mem_map.mp hr; show (renN m o z.ns).length ≤ line; simpa [renN] using ml) (fun r hr => by
    obtain ⟨z, hz, rfl⟩ := List.mem_map.mp hr
    intro x hx
    obtain ⟨i, _, rfl⟩ := List.mem_map.mp hx
    exact getD_small (h1 z hz) _) (b1.sml (by decide)) (by simpa [Nr] using nl)
  have b := s_law_holds k rs (permS m o ps) h (fun r hr => by rw [hl r hr]; exact ml) h1 (permS_sml m o (b1.sml (by decide))) nl
  rw [all_ren m rs o ps O ho hl hp] at a
  have a' : callN G (k + 3) 30 [rowsP (Nr rs m o), LL ps] h = .ret (.bl (rs.all (rh (permS m o ps)))) false h := a
  have b' : callN G (k + 3) 30 [sysP rs, LL (permS m o ps)] h = .ret (.bl (rs.all (rh (permS m o ps)))) false h := b
  have lc := perm_comp m o h s0 s2 (.val (sysP rs)) s5 s6 s8 s9 s10 (.val (rowsP (Nr rs m o))) s12 s13 s14 s16 s17 (callN G (k + 3)) ps hm hp O h5
  have cc : ((Option.map (fun x => !x) (opEq (.bl (rs.all (rh (permS m o ps)))) (.bl (rs.all (rh (permS m o ps)))))) : Option Bool) = some false := by rw [bl_eq]; simp
  unfold w17 w16
  unfold LE at lc ⊢
  simp only [evS, evA, evM, evT, evL, evR, evO, evI, Out.bind, Out.noex, lift, rd, v_non, v_bl, v_int, v_str, v_lst, v_tup, v_dic, esc, finish, mk, pm0, pm2, pm3, i_lst, i_tup, lo_lst, List.append_nil, Option.bind_some, Option.bind_none, Option.map_some, Option.map_none, Option.bind_eq_bind, List.getElem?_cons_zero, List.getElem?_cons_succ, List.getElem?_nil, List.set_cons_zero, List.set_cons_succ, List.length_cons, List.length_nil, List.mapM_cons, List.mapM_nil, Option.pure_def, Option.getD_some, and_self, Bool.not_true, Bool.not_false, if_true, if_false, Bool.false_eq_true, Bool.true_eq_false, reduceIte, Nat.reduceAdd, Nat.reduceLT, Nat.reduceSub, a', lc, b', opCmp, cc, truthy]
end
end K02

namespace K02
open PL
open PySem (Str)
variable {rest : Hs}
theorem SI.get {c c' : Nat} {rest : Hs} {h h' : Hs} (s : SI c rest h) (s' : SI c' rest h') : h'.length = h.length ∧ ∀ i, 2 ≤ i → h'[i]? = h[i]? := by
  obtain ⟨_, _, _, _, rfl, _⟩ := s
  obtain ⟨_, _, _, _, rfl, _⟩ := s'
  refine ⟨by simp, fun i hi => ?_⟩
  match i, hi with
  | i + 2, _ => simp
/-- all that a turn has drawn -/
structure Drawn (m : Nat) (rs : List Rw) (pt o : List Int) (l : List (Bool × Bool × Rw)) : Prop where
  m1 : 1 ≤ m
  m6 : m ≤ 6
  n : rs.length ≤ 6
  ok : ∀ r ∈ rs, OkR m r
  pl : pt.length = m
  pb : Bdd 5 pt
  op : o.Perm (rgI m)
  rl : rws l = rs
section
variable {m : Nat} {rs : List Rw} {pt o : List Int} {l : List (Bool × Bool × Rw)} (W : Drawn m rs pt o l)
theorem Drawn.m100 (W : Drawn m rs pt o l) : m ≤ 100 := by have := W.m6; omega
theorem Drawn.O (W : Drawn m rs pt o l) : OrdOk m o := OrdOk.of W.op
theorem Drawn.S (W : Drawn m rs pt o l) : Sys m l := form_ok W.rl W.ok W.n
theorem Drawn.rl1 (W : Drawn m rs pt o l) : ∀ r ∈ rs, r.ns.length = m := fun r hr => (W.ok r hr).1
theorem Drawn.sm (W : Drawn m rs pt o l) : ∀ r ∈ rs, Sml r.ns := fun r hr => (W.ok r hr).2.sml (by decide)
theorem Drawn.n100 (W : Drawn m rs pt o l) : rs.length ≤ 100 := by have := W.n; omega
theorem Drawn.RD (W : Drawn m rs pt o l) : RsOk (Dr rs pt) := ⟨by simpa [Dr] using W.n100, fun r hr => by
  obtain ⟨z, hz, rfl⟩ := List.mem_map.mp hr
  show z.ns.length ≤ 200
  rw [W.rl1 z hz]; have := W.m6; omega⟩
theorem Drawn.RN (W : Drawn m rs pt o l) : RsOk (Nr rs m o) := ⟨by simpa [Nr] using W.n100, fun r hr => by
  obtain ⟨z, hz, rfl⟩ := List.mem_map.mp hr
  show (renN m o z.ns).length ≤ 200
  simp only [renN, List.length_map, List.length_range]; have := W.m6; omega⟩
theorem Drawn.RP (W : Drawn m rs pt o l) (p : Nat) (v : Int) : RsOk (rs.map (pt1 p v)) := ⟨by simpa using W.n100, fun r hr => by
  obtain ⟨z, hz, rfl⟩ := List.mem_map.mp hr
  show (z.ns.take p ++ z.ns.drop (p + 1)).length ≤ 200
  have := W.rl1 z hz
  have := W.m6
  simp; omega⟩
end
section
variable (k m : Nat) (rs : List Rw) (pt o : List Int) (t tS t1 t2 : Bool) (l : List (Bool × Bool × Rw)) (h : Hs) (s0 s2 s3 s4 s5 s6 s7 s8 s9 s10 s11 s12 s13 s14 s15 s16 s17 : SV)
theorem L18 (W : Drawn m rs pt o l) (c : Nat) (s : SI c rest h) (hc : c + 100 < 1000000) (h5 : Pl s5) :
    ∃ x14 x15 h', evS (callN G (k + 3)) w18 (LE s0 s2 (.val (.int m)) (.val (sysP rs)) s5 (.val (LL pt)) (.val (LL o)) s8 s9 (.val (rowsP (Dr rs pt))) (.val (rowsP (Nr rs m o))) s12 s13 s14 s15 s16 s17) h = .ok .next (LE s0 s2 (.val (.int m)) (.val (sysP rs)) s5 (.val (LL pt)) (.val (LL o)) s8 s9 (.val (rowsP (Dr rs pt))) (.val (rowsP (Nr rs m o))) s12 s13 x14 x15 s16 s17) h' ∧ SI (c + 18) rest h' := by
  have m6 := W.m6
  obtain ⟨e2, h6, qf, x14, x15, he, s6'⟩ := forLoop_run (gd := []) (f := forStep (callN G (k + 3)) (.nm 14) w18b) (xs := rngItems 0 3)
    (fun j e h => ∃ x14 x15, e = LE s0 s2 (.val (.int m)) (.val (sysP rs)) s5 (.val (LL pt)) (.val (LL o)) s8 s9 (.val (rowsP (Dr rs pt))) (.val (rowsP (Nr rs m o))) s12 s13 x14 x15 s16 s17 ∧ SI (c + j * 6) rest h)
    (fun j x e h hx ⟨x14, x15, he, hs⟩ => by
      obtain ⟨hin, _⟩ := rng_get 3 j x hx
      subst he
      obtain ⟨ps, h', q1, l1, l2, s'⟩ := L13 (k + 1) m h s0 s2 (.val (sysP rs)) s5 (.val (LL pt)) (.val (LL o)) s8 s9 (.val (rowsP (Dr rs pt))) (.val (rowsP (Nr rs m o))) s12 s13 (.val x) x15 s16 s17 (c + j * 6) hs (by omega) m6 h5
      have q2 := L15 k m rs pt h' s0 s2 (.val (.int m)) s5 (.val (LL o)) s8 s9 (.val (rowsP (Nr rs m o))) s12 s13 (.val x) s16 s17 ps W.n100 W.m100 W.rl1 W.sm l1 W.pl l2 W.pb
      have q3 := L17 k m rs o h' s0 s2 s5 (.val (LL pt)) s8 s9 (.val (rowsP (Dr rs pt))) s12 s13 (.val x) s16 s17 ps W.n100 W.m100 W.rl1 W.sm l1 l2 W.O W.op h5
      refine ⟨.next, LE s0 s2 (.val (.int m)) (.val (sysP rs)) s5 (.val (LL pt)) (.val (LL o)) s8 s9 (.val (rowsP (Dr rs pt))) (.val (rowsP (Nr rs m o))) s12 s13 (.val x) (.val (LL ps)) s16 s17, h', ?_, .inl rfl, _, _, rfl, s'.mono (by omega)⟩
      have hb : bindT (.nm 14) x (LE s0 s2 (.val (.int m)) (.val (sysP rs)) s5 (.val (LL pt)) (.val (LL o)) s8 s9 (.val (rowsP (Dr rs pt))) (.val (rowsP (Nr rs m o))) s12 s13 x14 x15 s16 s17) = some (LE s0 s2 (.val (.int m)) (.val (sysP rs)) s5 (.val (LL pt)) (.val (LL o)) s8 s9 (.val (rowsP (Dr rs pt))) (.val (rowsP (Nr rs m o))) s12 s13 (.val x) x15 s16 s17) := rfl
      unfold forStep
      rw [hb]
      show evS (callN G (k + 3)) w18b _ _ = _
      unfold w18b
      rw [seq_next q1, seq_next q2, q3])
    (fun _ _ _ _ => rfl) (e := LE s0 s2 (.val (.int m)) (.val (sysP rs)) s5 (.val (LL pt)) (.val (LL o)) s8 s9 (.val (rowsP (Dr rs pt))) (.val (rowsP (Nr rs m o))) s12 s13 s14 s15 s16 s17) (h := h) ⟨s14, s15, rfl, s.mono (by omega)⟩
  have e4 : (rngItems 0 3).length = 3 := rng_len 3
  rw [e4] at s6'
  refine ⟨x14, x15, h6, ?_, s6'⟩
  unfold w18
  rw [evS_for]
  have : evI (callN G (k + 3)) (.irng1 (.con (.int 3))) (LE s0 s2 (.val (.int m)) (.val (sysP rs)) s5 (.val (LL pt)) (.val (LL o)) s8 s9 (.val (rowsP (Dr rs pt))) (.val (rowsP (Nr rs m o))) s12 s13 s14 s15 s16 s17) h = .ok (rngItems 0 3, []) (LE s0 s2 (.val (.int m)) (.val (sysP rs)) s5 (.val (LL pt)) (.val (LL o)) s8 s9 (.val (rowsP (Dr rs pt))) (.val (rowsP (Nr rs m o))) s12 s13 s14 s15 s16 s17) h := by
    simp only [evS, evA, evM, evT, evL, evR, evO, evI, Out.bind, Out.noex, lift, rd, v_non, v_bl, v_int, v_str, v_lst, v_tup, v_dic, esc, finish, mk, pm0, pm2, pm3, i_lst, i_tup, lo_lst, List.append_nil, Option.bind_some, Option.bind_none, Option.map_some, Option.map_none, Option.bind_eq_bind, List.getElem?_cons_zero, List.getElem?_cons_succ, List.getElem?_nil, List.set_cons_zero, List.set_cons_succ, List.length_cons, List.length_nil, List.mapM_cons, List.mapM_nil, Option.pure_def, Option.getD_some, and_self, Bool.not_true, Bool.not_false, if_true, if_false, Bool.false_eq_true, Bool.true_eq_false, reduceIte, Nat.reduceAdd, Nat.reduceLT, Nat.reduceSub, show small62 3 = true by decide]
  rw [this, bind_okE, qf, he]
theorem L19 (n : Nat) (h' : Hs) (q : callN G k 24 [.ref n] h = .ret .non false h') :
    evS (callN G k) w19 (LE s0 s2 s3 s4 s5 s6 s7 s8 s9 s10 s11 (.val (.ref n)) s13 s14 s15 s16 s17) h = .ok .next (LE s0 s2 s3 s4 s5 s6 s7 s8 s9 s10 s11 (.val (.ref n)) s13 s14 s15 s16 s17) h' := by
  unfold w19 LE
  simp only [evS, evA, evM, evT, evL, evR, evO, evI, Out.bind, Out.noex, lift, rd, v_non, v_bl, v_int, v_str, v_lst, v_tup, v_dic, esc, finish, mk, pm0, pm2, pm3, i_lst, i_tup, lo_lst, List.append_nil, Option.bind_some, Option.bind_none, Option.map_some, Option.map_none, Option.bind_eq_bind, List.getElem?_cons_zero, List.getElem?_cons_succ, List.getElem?_nil, List.set_cons_zero, List.set_cons_succ, List.length_cons, List.length_nil, List.mapM_cons, List.mapM_nil, Option.pure_def, Option.getD_some, and_self, Bool.not_true, Bool.not_false, if_true, if_false, Bool.false_eq_true, Bool.true_eq_false, reduceIte, Nat.reduceAdd, Nat.reduceLT, Nat.reduceSub, q]
theorem L25 (n : Nat) (h' : Hs) (q : callN G k 24 [.ref n] h = .ret .non false h') :
    evS (callN G k) w25 (LE s0 s2 s3 s4 s5 s6 s7 s8 s9 s10 s11 (.val (.ref n)) s13 s14 s15 s16 s17) h = .ok .next (LE s0 s2 s3 s4 s5 s6 s7 s8 s9 s10 s11 (.val (.ref n)) s13 s14 s15 s16 s17) h' := by
  unfold w25 LE
  simp only [evS, evA, evM, evT, evL, evR, evO, evI, Out.bind, Out.noex, lift, rd, v_non, v_bl, v_int, v_str, v_lst, v_tup, v_dic, esc, finish, mk, pm0, pm2, pm3, i_lst, i_tup, lo_lst, List.append_nil, Option.bind_some, Option.bind_none, Option.map_some, Option.map_none, Option.bind_eq_bind, List.getElem?_cons_zero, List.getElem?_cons_succ, List.getElem?_nil, List.set_cons_zero, List.set_cons_succ, List.length_cons, List.length_nil, List.mapM_cons, List.mapM_nil, Option.pure_def, Option.getD_some, and_self, Bool.not_true, Bool.not_false, if_true, if_false, Bool.false_eq_true, Bool.true_eq_false, reduceIte, Nat.reduceAdd, Nat.reduceLT, Nat.reduceSub, q]
/-! a number put -/
theorem L20 (c : Nat) (s : SI c rest h) (hc : c + 50 < 1000000) (hm1 : 1 ≤ m) (hm : m ≤ 6) :
    ∃ (p : Nat) (v : Int) (h' : Hs), evS (callN G (k + 2)) w20 (LE s0 s2 (.val (.int m)) s4 s5 s6 s7 s8 s9 s10 s11 s12 s13 s14 s15 s16 s17) h = .ok .next (LE s0 s2 (.val (.int m)) s4 (.val (.int p)) s6 s7 s8 s9 s10 s11 s12 s13 s14 s15 (.val (.int v)) s17) h' ∧ p < m ∧ -9 ≤ v ∧ v ≤ 9 ∧ SI (c + 2) rest h' := by
  obtain ⟨d, h1, q1, s1, d0, d1⟩ := s_draw (k + 1) c h s (by omega) m (by omega) (by omega)
  obtain ⟨v, h2, q2, s2', v0, v1⟩ := s_integer k (c + 1) h1 s1 (by omega) 9 (by decide) (by decide)
  obtain ⟨p, rfl⟩ : ∃ p : Nat, d = p := ⟨d.toNat, by omega⟩
  refine ⟨p, v, h2, ?_, by omega, v0, v1, s2'⟩
  unfold w20 LE
  simp only [evS, evA, evM, evT, evL, evR, evO, evI, Out.bind, Out.noex, lift, rd, v_non, v_bl, v_int, v_str, v_lst, v_tup, v_dic, esc, finish, mk, permute, bindT, bindTs, i_lst, i_tup, lo_lst, List.append_nil, Option.bind_some, Option.bind_none, Option.map_some, Option.map_none, Option.bind_eq_bind, List.getElem?_cons_zero, List.getElem?_cons_succ, List.getElem?_nil, List.set_cons_zero, List.set_cons_succ, List.length_cons, List.length_nil, List.mapM_cons, List.mapM_nil, Option.pure_def, Option.getD_some, and_self, Bool.not_true, Bool.not_false, if_true, if_false, Bool.false_eq_true, Bool.true_eq_false, reduceIte, Nat.reduceAdd, Nat.reduceLT, Nat.reduceSub, q1, q2]
theorem L21 (W : Drawn m rs pt o l) (p : Nat) (v : Int) (hp : p < m) (v0 : -9 ≤ v) (v1 : v ≤ 9) :
    evS (callN G k) w21 (LE s0 s2 s3 (.val (sysP rs)) (.val (.int p)) s6 s7 s8 s9 s10 s11 s12 s13 s14 s15 (.val (.int v)) s17) h = .ok .next (LE s0 s2 s3 (.val (sysP rs)) (.val (.int p)) s6 s7 s8 s9 s10 s11 s12 s13 s14 s15 (.val (.int v)) (.own (rowsP (rs.map (pt1 p v))))) h := by
  let E0 : Env := LE s0 s2 s3 (.val (sysP rs)) (.val (.int p)) s6 s7 s8 s9 s10 s11 s12 s13 s14 s15 (.val (.int v)) s17
  have hv : v.natAbs < 2 ^ 200 := Nat.lt_trans (show v.natAbs < 100 by omega) (by decide)
  have q := rows_comp (callN G k) [18, 19, 20, 21] (.tp (.cons (.nm 19) (.cons (.nm 20) (.cons (.nm 21) .nil)))) (.one (.tup (.cons (.bin .add (.bcall .list (.cons (.sli (.var 19) .nil (.var 5)) .nil)) (.bcall .list (.cons (.sli (.var 19) (.bin .add (.var 5) (.con (.int (1)))) .nil) .nil))) (.cons (.var 20) (.cons (.bin .sub (.var 21) (.bin .mul (.idx (.var 19) (.var 5)) (.var 16))) .nil))))) E0 E0 h rs (pt1 p v) (Nat.le_trans W.n100 line100)
    (by simp only [E0, LE, sysP, evS, evA, evM, evT, evL, evR, evO, evI, Out.bind, Out.noex, lift, rd, v_non, v_bl, v_int, v_str, v_lst, v_tup, v_dic, esc, finish, mk, pm0, pm2, pm3, i_lst, i_tup, lo_lst, List.append_nil, Option.bind_some, Option.bind_none, Option.map_some, Option.map_none, Option.bind_eq_bind, List.getElem?_cons_zero, List.getElem?_cons_succ, List.getElem?_nil, List.set_cons_zero, List.set_cons_succ, List.length_cons, List.length_nil, List.mapM_cons, List.mapM_nil, Option.pure_def, Option.getD_some, and_self, Bool.not_true, Bool.not_false, if_true, if_false, Bool.false_eq_true, Bool.true_eq_false, reduceIte, Nat.reduceAdd, Nat.reduceLT, Nat.reduceSub]) E0 rfl rfl (fun r hr => by
      have hrl := W.rl1 r hr
      have hlm : p < (r.ns.map PV.int).length := by rw [List.length_map, hrl]; exact hp
      have a1 := sll_lo (r.ns.map .int) p hlm
      have a2 := sll_hi (r.ns.map .int) p hlm
      have m6 := W.m6
      have a3 := bAddLs ((r.ns.map PV.int).take p) ((r.ns.map PV.int).drop (p + 1)) (by simp; exact Nat.le_trans (show min p r.ns.length + (r.ns.length - (p + 1)) ≤ 200 by omega) (by decide))
      have a4 := idx_lst (xs := r.ns) (j := p) (by rw [hrl]; exact hp)
      have a5 := bMul (mulOk_of (r.ns.getD p 0) v (getD_small (W.sm r hr) p) hv)
      have a6 : (r.ns.map PV.int).take p ++ (r.ns.map PV.int).drop (p + 1) = (pt1 p v r).ns.map .int := by simp [pt1]
      rw [a6] at a3
      have o1 : opB .list [.lst ((r.ns.map PV.int).take p)] = some (.lst ((r.ns.map PV.int).take p), true) := rfl
      have o2 : opB .list [.lst ((r.ns.map PV.int).drop (p + 1))] = some (.lst ((r.ns.map PV.int).drop (p + 1)), true) := rfl
      refine ⟨((E0.set 19 (.val (.lst (r.ns.map .int)))).set 20 (.val (.str (wd r.eq)))).set 21 (.val (.int r.b)), ?_, rfl⟩
      rw [lcStep_nil (e' := ((E0.set 19 (.val (.lst (r.ns.map .int)))).set 20 (.val (.str (wd r.eq)))).set 21 (.val (.int r.b))) rfl, pvR_ft (pt1 p v r)]
      generalize (pt1 p v r).ns.map PV.int = zz at *
      simp only [E0, LE, evS, evA, evM, evT, evL, evR, evO, evI, Out.bind, Out.noex, lift, rd, v_non, v_bl, v_int, v_str, v_lst, v_tup, v_dic, esc, finish, mk, pm0, pm2, pm3, i_lst, i_tup, lo_lst, List.append_nil, Option.bind_some, Option.bind_none, Option.map_some, Option.map_none, Option.bind_eq_bind, List.getElem?_cons_zero, List.getElem?_cons_succ, List.getElem?_nil, List.set_cons_zero, List.set_cons_succ, List.length_cons, List.length_nil, List.mapM_cons, List.mapM_nil, Option.pure_def, Option.getD_some, and_self, Bool.not_true, Bool.not_false, if_true, if_false, Bool.false_eq_true, Bool.true_eq_false, reduceIte, Nat.reduceAdd, Nat.reduceLT, Nat.reduceSub, a1, a2, o1, o2, a3, a4, a5, bAdd, bSub]
      rfl)
  exact asg_of q rfl (by show 17 < 25; decide)
theorem c18_sys (W : Drawn m rs pt o l) (h : Hs) : callN G (k + 7) 25 [sysP rs] h = .ret (sysP rs) true h := by
  have d := dat_S true (sysF rs) m W.m100 (sysF_ok W.ok W.n)
  rw [sysF_pv] at d
  exact s_copied 3 _ (k + 3) h d
theorem put_sys (W : Drawn m rs pt o l) (p : Nat) (v : Int) (hm2 : 2 ≤ m) (hp : p < m) (v0 : -9 ≤ v) (v1 : v ≤ 9) (h : Hs) : callN G (k + 7) 18 [.int m, sysP rs, .int p, .int v] h = .ret (.ref (tR (rs.map (pt1 p v)) h)) false (hR (rs.map (pt1 p v)) h) := by
  have := s_put k true (sysF rs) m p v h hm2 W.m100 (sysF_ok W.ok W.n) hp (Nat.lt_trans (show v.natAbs < 100 by omega) (by decide))
  rw [sysF_rws, sysF_pv] at this
  exact this
theorem L22 (W : Drawn m rs pt o l) (p : Nat) (v : Int) (hm2 : 2 ≤ m) (hp : p < m) (v0 : -9 ≤ v) (v1 : v ≤ 9) :
    evS (callN G (k + 7)) w22 (LE s0 s2 (.val (.int m)) (.val (sysP rs)) (.val (.int p)) s6 s7 (.val (hdP t tS t1 t2 l pt o)) s9 s10 s11 s12 s13 s14 s15 (.val (.int v)) s17) h
      = .ok .next (LE s0 s2 (.val (.int m)) (.val (sysP rs)) (.val (.int p)) s6 s7 (.val (hdP t tS t1 t2 l pt o)) s9 s10 s11 (.val (.ref (h2 (rs.map (pt1 p v)) (rs.map (pt1 p v)) h).length)) s13 s14 s15 (.val (.int v)) s17) (hT (rs.map (pt1 p v)) (rs.map (pt1 p v)) h) := by
  have a := s_put k tS l m p v h hm2 W.m100 W.S hp (Nat.lt_trans (show v.natAbs < 100 by omega) (by decide))
  rw [W.rl] at a
  have b : callN G (k + 7) 18 [.int m, sysP rs, .int p, .int v] (hR (rs.map (pt1 p v)) h) = .ret (.ref (tR (rs.map (pt1 p v)) (hR (rs.map (pt1 p v)) h))) false (h2 (rs.map (pt1 p v)) (rs.map (pt1 p v)) h) := put_sys k m rs pt o l W p v hm2 hp v0 v1 _
  have c18 := fun h => c18_sys k m rs pt o l W h
  unfold w22 LE
  simp only [evS, evA, evM, evT, evL, evR, evO, evI, Out.bind, Out.noex, lift, rd, v_non, v_bl, v_int, v_str, v_lst, v_tup, v_dic, esc, finish, mk, pm0, pm2, pm3, i_lst, i_tup, lo_lst, List.append_nil, Option.bind_some, Option.bind_none, Option.map_some, Option.map_none, Option.bind_eq_bind, List.getElem?_cons_zero, List.getElem?_cons_succ, List.getElem?_nil, List.set_cons_zero, List.set_cons_succ, List.length_cons, List.length_nil, List.mapM_cons, List.mapM_nil, Option.pure_def, Option.getD_some, and_self, Bool.not_true, Bool.not_false, if_true, if_false, Bool.false_eq_true, Bool.true_eq_false, reduceIte, Nat.reduceAdd, Nat.reduceLT, Nat.reduceSub, pm4, view_hd, hd0, a, b, c18]
  rfl
theorem L24 (P : List Rw) (RP : RsOk P) :
    evS (callN G (k + 5)) w24 (LE s0 s2 s3 s4 s5 s6 s7 s8 s9 s10 s11 (.val (.ref (h2 P P h).length)) s13 s14 s15 s16 (.own (rowsP P))) (hT P P h) = .ok .next (LE s0 s2 s3 s4 s5 s6 s7 s8 s9 s10 s11 (.val (.ref (h2 P P h).length)) s13 s14 s15 s16 (.val (rowsP P))) (hT P P h) := by
  have c1 : callN G (k + 5) 23 [.ref (h2 P P h).length, .lst [rowsP P, rowsP P]] (hT P P h) = .ret (.bl true) false (hT P P h) := s_sameR 4 _ _ k _ (R_toldC P P h _ RP RP ⟨[], by simp⟩)
  unfold w24 w23 LE
  simp only [evS, evA, evM, evT, evL, evR, evO, evI, Out.bind, Out.noex, lift, rd, v_non, v_bl, v_int, v_str, v_lst, v_tup, v_dic, esc, finish, mk, pm0, pm2, pm3, i_lst, i_tup, lo_lst, List.append_nil, Option.bind_some, Option.bind_none, Option.map_some, Option.map_none, Option.bind_eq_bind, List.getElem?_cons_zero, List.getElem?_cons_succ, List.getElem?_nil, List.set_cons_zero, List.set_cons_succ, List.length_cons, List.length_nil, List.mapM_cons, List.mapM_nil, Option.pure_def, Option.getD_some, and_self, Bool.not_true, Bool.not_false, if_true, if_false, Bool.false_eq_true, Bool.true_eq_false, reduceIte, Nat.reduceAdd, Nat.reduceLT, Nat.reduceSub, c1, truthy]
theorem L27 (W : Drawn m rs pt o l) (p : Nat) (v : Int) (hm2 : 2 ≤ m) (hp : p < m) (v0 : -9 ≤ v) (v1 : v ≤ 9) :
    evS (callN G (k + 7)) w27 (LE s0 s2 (.val (.int m)) (.val (sysP rs)) (.val (.int p)) s6 s7 s8 s9 s10 s11 s12 s13 s14 s15 (.val (.int v)) (.val (rowsP (rs.map (pt1 p v))))) h
      = .ok .next (LE s0 s2 (.val (.int m)) (.val (sysP rs)) (.val (.int p)) s6 s7 s8 s9 s10 s11 s12 s13 s14 s15 (.val (.int v)) (.val (rowsP (rs.map (pt1 p v))))) (hR (rs.map (pt1 p v)) h) := by
  have b := put_sys k m rs pt o l W p v hm2 hp v0 v1 h
  have c18 := fun h => c18_sys k m rs pt o l W h
  have RP := W.RP p v
  have c1 : callN G (k + 7) 23 [.ref (tR (rs.map (pt1 p v)) h), rowsP (rs.map (pt1 p v))] (hR (rs.map (pt1 p v)) h) = .ret (.bl true) false (hR (rs.map (pt1 p v)) h) := s_sameR 3 _ _ (k + 3) _ (R_hR _ h _ ⟨[], by simp⟩ RP.b.1 RP.a.1)
  unfold w27 w26 LE
  simp only [evS, evA, evM, evT, evL, evR, evO, evI, Out.bind, Out.noex, lift, rd, v_non, v_bl, v_int, v_str, v_lst, v_tup, v_dic, esc, finish, mk, pm0, pm2, pm3, i_lst, i_tup, lo_lst, List.append_nil, Option.bind_some, Option.bind_none, Option.map_some, Option.map_none, Option.bind_eq_bind, List.getElem?_cons_zero, List.getElem?_cons_succ, List.getElem?_nil, List.set_cons_zero, List.set_cons_succ, List.length_cons, List.length_nil, List.mapM_cons, List.mapM_nil, Option.pure_def, Option.getD_some, and_self, Bool.not_true, Bool.not_false, if_true, if_false, Bool.false_eq_true, Bool.true_eq_false, reduceIte, Nat.reduceAdd, Nat.reduceLT, Nat.reduceSub, c18, b, c1, truthy]
theorem L30 (W : Drawn m rs pt o l) :
    evS (callN G (k + 7)) w30 (LE s0 s2 (.val (.int m)) (.val (sysP rs)) s5 (.val (LL pt)) (.val (LL o)) (.val (hdP t tS t1 t2 l pt o)) (.val (hdP t tS t1 t2 l pt o)) (.val (rowsP (Dr rs pt))) (.val (rowsP (Nr rs m o))) s12 s13 s14 s15 s16 s17) h
      = .ok .next (LE s0 s2 (.val (.int m)) (.val (sysP rs)) s5 (.val (LL pt)) (.val (LL o)) (.val (hdP t tS t1 t2 l pt o)) (.val (hdP t tS t1 t2 l pt o)) (.val (rowsP (Dr rs pt))) (.val (rowsP (Nr rs m o))) s12 s13 s14 s15 s16 s17) (h2 (Dr rs pt) (Nr rs m o) h) := by
  have SF := sysF_ok W.ok W.n
  have a := s_shifted k true true (sysF rs) m pt h W.m1 W.m100 SF W.pl (W.pb.sml (by decide))
  have b := s_renamed k true true (sysF rs) m o (hR (Dr rs pt) h) W.m1 W.m100 SF W.O
  rw [sysF_rws, sysF_pv] at a b
  have a' : callN G (k + 7) 15 [.int m, sysP rs, LL pt] h = .ret (.ref (tR (Dr rs pt) h)) false (hR (Dr rs pt) h) := a
  have b' : callN G (k + 7) 16 [.int m, sysP rs, LL o] (hR (Dr rs pt) h) = .ret (.ref (tR (Nr rs m o) (hR (Dr rs pt) h))) false (h2 (Dr rs pt) (Nr rs m o) h) := b
  have c18 := fun h => c18_sys k m rs pt o l W h
  have o1 : opB .list [LL pt] = some (LL pt, true) := rfl
  have o2 : opB .list [LL o] = some (LL o, true) := rfl
  have v1 : ∀ h, view h (LL pt) = LL pt := fun _ => rfl
  have v2 : ∀ h, view h (LL o) = LL o := fun _ => rfl
  have c2 : callN G (k + 7) 23 [.lst [.ref (tR (Dr rs pt) h), .ref (tR (Nr rs m o) (hR (Dr rs pt) h))], .lst [rowsP (Dr rs pt), rowsP (Nr rs m o)]] (h2 (Dr rs pt) (Nr rs m o) h) = .ret (.bl true) false (h2 (Dr rs pt) (Nr rs m o) h) := s_sameR 4 _ _ (k + 2) _ (R_toldL _ _ h _ W.RD W.RN ⟨[], by simp⟩)
  have c3 : callN G (k + 7) 23 [hdP t tS t1 t2 l pt o, hdP t tS t1 t2 l pt o] (h2 (Dr rs pt) (Nr rs m o) h) = .ret (.bl true) false (h2 (Dr rs pt) (Nr rs m o) h) := s_same 4 _ (k + 2) _ (dat_hd t tS t1 t2 l pt o m W.m100 W.S W.pl W.O.len)
  unfold w30 w29 LE
  simp only [evS, evA, evM, evT, evL, evR, evO, evI, Out.bind, Out.noex, lift, rd, v_non, v_bl, v_int, v_str, v_lst, v_tup, v_dic, esc, finish, mk, pm0, pm2, pm3, i_lst, i_tup, lo_lst, List.append_nil, Option.bind_some, Option.bind_none, Option.map_some, Option.map_none, Option.bind_eq_bind, List.getElem?_cons_zero, List.getElem?_cons_succ, List.getElem?_nil, List.set_cons_zero, List.set_cons_succ, List.length_cons, List.length_nil, List.mapM_cons, List.mapM_nil, Option.pure_def, Option.getD_some, and_self, Bool.not_true, Bool.not_false, if_true, if_false, Bool.false_eq_true, Bool.true_eq_false, reduceIte, Nat.reduceAdd, Nat.reduceLT, Nat.reduceSub, c18, o1, o2, v1, v2, a', b', c2, c3, truthy]
end
end K02

namespace K02
open PL
open PySem (Str)
variable {rest : Hs}
theorem SI.hR {c : Nat} {h : Hs} (s : SI c rest h) (rs : List Rw) : ∃ rest', SI c rest' (hR rs h) := by
  obtain ⟨x, e⟩ := hR_app rs h
  rw [e]; exact ⟨_, s.app x⟩
theorem SI.hT {c : Nat} {h : Hs} (s : SI c rest h) (D N : List Rw) : ∃ rest', SI c rest' (hT D N h) := by
  obtain ⟨r1, s1⟩ := s.hR D
  obtain ⟨r2, s2⟩ := s1.hR N
  exact ⟨_, s2.app [.lst [.ref (tR D h), .ref (tR N (K02.hR D h))]]⟩
section
variable (k m : Nat) (rs : List Rw) (pt o : List Int) (t tS t1 t2 : Bool) (l : List (Bool × Bool × Rw)) (h : Hs) (s0 s2 s3 s4 s5 s6 s7 s8 s9 s10 s11 s12 s13 s14 s15 s16 s17 : SV)
theorem L28 (W : Drawn m rs pt o l) (c : Nat) (s : SI c rest h) (hc : c + 100 < 1000000) (h5 : Pl s5) :
    ∃ x5 x12 x16 x17 h' rest', evS (callN G (k + 10)) w28 (LE s0 s2 (.val (.int m)) (.val (sysP rs)) s5 s6 s7 (.val (hdP t tS t1 t2 l pt o)) s9 s10 s11 s12 s13 s14 s15 s16 s17) h = .ok .next (LE s0 s2 (.val (.int m)) (.val (sysP rs)) x5 s6 s7 (.val (hdP t tS t1 t2 l pt o)) s9 s10 s11 x12 s13 s14 s15 x16 x17) h' ∧ Pl x5 ∧ SI (c + 2) rest' h' := by
  have m1 := W.m1
  by_cases hm2 : 2 ≤ m
  · obtain ⟨p, v, h1, q20, hp, v0, v1, s1⟩ := L20 (k + 8) m h s0 s2 (.val (sysP rs)) s5 s6 s7 (.val (hdP t tS t1 t2 l pt o)) s9 s10 s11 s12 s13 s14 s15 s16 s17 c s (by omega) m1 W.m6
    have q21 := L21 (k + 10) m rs pt o l h1 s0 s2 (.val (.int m)) s6 s7 (.val (hdP t tS t1 t2 l pt o)) s9 s10 s11 s12 s13 s14 s15 s17 W p v hp v0 v1
    have q22 := L22 (k + 3) m rs pt o t tS t1 t2 l h1 s0 s2 s6 s7 s9 s10 s11 s12 s13 s14 s15 (.own (rowsP (rs.map (pt1 p v)))) W p v hm2 hp v0 v1
    have RP := W.RP p v
    have q24 := L24 (k + 5) h1 s0 s2 (.val (.int m)) (.val (sysP rs)) (.val (.int p)) s6 s7 (.val (hdP t tS t1 t2 l pt o)) s9 s10 s11 s13 s14 s15 (.val (.int v)) (rs.map (pt1 p v)) RP
    obtain ⟨h2', c25, ln, g⟩ := sp_pair (k + 5) (rs.map (pt1 p v)) (rs.map (pt1 p v)) h1 (hT (rs.map (pt1 p v)) (rs.map (pt1 p v)) h1) RP RP (fun _ _ _ => rfl)
    have q25 := L25 (k + 10) (hT (rs.map (pt1 p v)) (rs.map (pt1 p v)) h1) s0 s2 (.val (.int m)) (.val (sysP rs)) (.val (.int p)) s6 s7 (.val (hdP t tS t1 t2 l pt o)) s9 s10 s11 s13 s14 s15 (.val (.int v)) (.val (rowsP (rs.map (pt1 p v)))) (h2 (rs.map (pt1 p v)) (rs.map (pt1 p v)) h1).length h2' c25
    have two := s1.two
    obtain ⟨r2, s2'⟩ := s1.hT (rs.map (pt1 p v)) (rs.map (pt1 p v))
    obtain ⟨r3, s3'⟩ := s2'.of ln (fun i hi => g i (by omega))
    have q27 := L27 (k + 3) m rs pt o l h2' s0 s2 s6 s7 (.val (hdP t tS t1 t2 l pt o)) s9 s10 s11 (.val (.ref (h2 (rs.map (pt1 p v)) (rs.map (pt1 p v)) h1).length)) s13 s14 s15 W p v hm2 hp v0 v1
    obtain ⟨r4, s4'⟩ := s3'.hR (rs.map (pt1 p v))
    refine ⟨.val (.int p), .val (.ref (h2 (rs.map (pt1 p v)) (rs.map (pt1 p v)) h1).length), .val (.int v), .val (rowsP (rs.map (pt1 p v))), hR (rs.map (pt1 p v)) h2', r4, ?_, .inr ⟨_, rfl⟩, s4'⟩
    have tt : evT (callN G (k + 10)) (.cmp .gt (.var 3) (.con (.int (1)))) (LE s0 s2 (.val (.int m)) (.val (sysP rs)) s5 s6 s7 (.val (hdP t tS t1 t2 l pt o)) s9 s10 s11 s12 s13 s14 s15 s16 s17) h = .ok true (LE s0 s2 (.val (.int m)) (.val (sysP rs)) s5 s6 s7 (.val (hdP t tS t1 t2 l pt o)) s9 s10 s11 s12 s13 s14 s15 s16 s17) h := by
      have hd : decide ((1 : Int) < m) = true := by simp; omega
      unfold LE
      simp only [evS, evA, evM, evT, evL, evR, evO, evI, Out.bind, Out.noex, lift, rd, v_non, v_bl, v_int, v_str, v_lst, v_tup, v_dic, esc, finish, mk, pm0, pm2, pm3, i_lst, i_tup, lo_lst, List.append_nil, Option.bind_some, Option.bind_none, Option.map_some, Option.map_none, Option.bind_eq_bind, List.getElem?_cons_zero, List.getElem?_cons_succ, List.getElem?_nil, List.set_cons_zero, List.set_cons_succ, List.length_cons, List.length_nil, List.mapM_cons, List.mapM_nil, Option.pure_def, Option.getD_some, and_self, Bool.not_true, Bool.not_false, if_true, if_false, Bool.false_eq_true, Bool.true_eq_false, reduceIte, Nat.reduceAdd, Nat.reduceLT, Nat.reduceSub, opCmp, truthy, hd]
    unfold w28
    rw [ite_yes tt]
    unfold w28a
    rw [seq_next q20, seq_next q21, seq_next q22, seq_next q24, seq_next q25, q27]
  · refine ⟨s5, s12, s16, s17, h, rest, ?_, h5, s.mono (by omega)⟩
    have tt : evT (callN G (k + 10)) (.cmp .gt (.var 3) (.con (.int (1)))) (LE s0 s2 (.val (.int m)) (.val (sysP rs)) s5 s6 s7 (.val (hdP t tS t1 t2 l pt o)) s9 s10 s11 s12 s13 s14 s15 s16 s17) h = .ok false (LE s0 s2 (.val (.int m)) (.val (sysP rs)) s5 s6 s7 (.val (hdP t tS t1 t2 l pt o)) s9 s10 s11 s12 s13 s14 s15 s16 s17) h := by
      have hd : decide ((1 : Int) < m) = false := by simp; omega
      unfold LE
      simp only [evS, evA, evM, evT, evL, evR, evO, evI, Out.bind, Out.noex, lift, rd, v_non, v_bl, v_int, v_str, v_lst, v_tup, v_dic, esc, finish, mk, pm0, pm2, pm3, i_lst, i_tup, lo_lst, List.append_nil, Option.bind_some, Option.bind_none, Option.map_some, Option.map_none, Option.bind_eq_bind, List.getElem?_cons_zero, List.getElem?_cons_succ, List.getElem?_nil, List.set_cons_zero, List.set_cons_succ, List.length_cons, List.length_nil, List.mapM_cons, List.mapM_nil, Option.pure_def, Option.getD_some, and_self, Bool.not_true, Bool.not_false, if_true, if_false, Bool.false_eq_true, Bool.true_eq_false, reduceIte, Nat.reduceAdd, Nat.reduceLT, Nat.reduceSub, opCmp, truthy, hd]
    unfold w28
    rw [ite_no tt]
    simp only [evS]
end
theorem body_step (k c : Nat) (h : Hs) (s : SI c rest h) (hc : c + 3000 < 1000000) (s0 s2 s3 s4 s5 s6 s7 s8 s9 s10 s11 s12 s13 s14 s15 s16 s17 : SV) (h5 : Pl s5) (i : PV) :
    ∃ x3 x4 x5 x6 x7 x8 x9 x10 x11 x12 x13 x14 x15 x16 x17 h' rest', forStep (callN G (k + 10)) (.nm 2) w31b i (LE s0 s2 s3 s4 s5 s6 s7 s8 s9 s10 s11 s12 s13 s14 s15 s16 s17) h = .ok .next (LE s0 (.val i) x3 x4 x5 x6 x7 x8 x9 x10 x11 x12 x13 x14 x15 x16 x17) h' ∧ Pl x5 ∧ SI (c + 400) rest' h' := by
  obtain ⟨d, h1, q1, s1, d0, d1⟩ := s_draw (k + 9) c h s (by omega) 5 (by decide) (by decide)
  obtain ⟨m, hm⟩ : ∃ m : Nat, 1 + d = m := ⟨(1 + d).toNat, by omega⟩
  have hm1 : 1 ≤ m := by omega
  have hm6 : m ≤ 6 := by omega
  obtain ⟨d2, h2', q2, s2', e0, e1⟩ := s_draw (k + 9) (c + 1) h1 s1 (by omega) 6 (by decide) (by decide)
  obtain ⟨n, hn⟩ : ∃ n : Nat, d2 = n := ⟨d2.toNat, by omega⟩
  subst hn
  obtain ⟨rs, h3, q3, hl3, hr3, s3'⟩ := s_system 9 20 (by decide) (by decide) (by decide) (by decide) (k + 6) (c + 2) h2' s2' (by omega) m n hm6 (by omega)
  have x2 : evS (callN G (k + 10)) w2 (LE s0 (.val i) s3 s4 s5 s6 s7 s8 s9 s10 s11 s12 s13 s14 s15 s16 s17) h = .ok .next (LE s0 (.val i) (.val (.int m)) s4 s5 s6 s7 s8 s9 s10 s11 s12 s13 s14 s15 s16 s17) h1 := by
    unfold w2 LE; simp only [evS, evA, evM, evT, evL, evR, evO, evI, Out.bind, Out.noex, lift, rd, v_non, v_bl, v_int, v_str, v_lst, v_tup, v_dic, esc, finish, mk, pm0, pm2, pm3, i_lst, i_tup, lo_lst, List.append_nil, Option.bind_some, Option.bind_none, Option.map_some, Option.map_none, Option.bind_eq_bind, List.getElem?_cons_zero, List.getElem?_cons_succ, List.getElem?_nil, List.set_cons_zero, List.set_cons_succ, List.length_cons, List.length_nil, List.mapM_cons, List.mapM_nil, Option.pure_def, Option.getD_some, and_self, Bool.not_true, Bool.not_false, if_true, if_false, Bool.false_eq_true, Bool.true_eq_false, reduceIte, Nat.reduceAdd, Nat.reduceLT, Nat.reduceSub, q1, bAdd, hm]
  have x3 : evS (callN G (k + 10)) w3 (LE s0 (.val i) (.val (.int m)) s4 s5 s6 s7 s8 s9 s10 s11 s12 s13 s14 s15 s16 s17) h1 = .ok .next (LE s0 (.val i) (.val (.int m)) (.own (sysP rs)) s5 s6 s7 s8 s9 s10 s11 s12 s13 s14 s15 s16 s17) h3 := by
    unfold w3 LE sysP; simp only [evS, evA, evM, evT, evL, evR, evO, evI, Out.bind, Out.noex, lift, rd, v_non, v_bl, v_int, v_str, v_lst, v_tup, v_dic, esc, finish, mk, pm0, pm2, pm3, i_lst, i_tup, lo_lst, List.append_nil, Option.bind_some, Option.bind_none, Option.map_some, Option.map_none, Option.bind_eq_bind, List.getElem?_cons_zero, List.getElem?_cons_succ, List.getElem?_nil, List.set_cons_zero, List.set_cons_succ, List.length_cons, List.length_nil, List.mapM_cons, List.mapM_nil, Option.pure_def, Option.getD_some, and_self, Bool.not_true, Bool.not_false, if_true, if_false, Bool.false_eq_true, Bool.true_eq_false, reduceIte, Nat.reduceAdd, Nat.reduceLT, Nat.reduceSub, q2, q3]
  obtain ⟨pt, o, h4, x4, pl, pb, op, s4'⟩ := L4 (k + 8) m h3 s0 (.val i) (.own (sysP rs)) s5 s6 s7 s8 s9 s10 s11 s12 s13 s14 s15 s16 s17 (c + 2 + 100) s3' (by omega) hm6 h5
  have ol : o.length = m := (OrdOk.of op).len
  obtain ⟨t, tS, t1, t2, l, h6, q5, rl, s6'⟩ := loose_three (k + 5) (c + 2 + 100 + m + m) rs pt o h4 s4' (by omega) m (by omega) hl3 (fun r hr => (hr3 r hr).1) hm1 pl ol
  have W : Drawn m rs pt o l := ⟨hm1, hm6, hl3, hr3, pl, pb, op, rl⟩
  have x5 := L5 (k + 10) rs pt o t tS t1 t2 l h4 s0 (.val i) (.val (.int m)) s5 s8 s9 s10 s11 s12 s13 s14 s15 s16 s17 h6 q5
  have x6 := L6 (k + 5) m pt o t tS t1 t2 l h6 s0 (.val i) (.val (.int m)) (.val (sysP rs)) s5 (.val (LL pt)) (.val (LL o)) s9 s10 s11 s12 s13 s14 s15 s16 s17 W.m100 W.S pl ol
  have x7 := L7 (k + 9) m rs pt h6 s0 (.val i) (.val (.int m)) s5 (.val (LL o)) (.val (hdP t tS t1 t2 l pt o)) (sl t (hdP t tS t1 t2 l pt o)) s10 s11 s12 s13 s14 s15 s16 s17 W.n100 W.m100 W.rl1 W.sm (pb.sml (by decide))
  have x8 := L8 (k + 10) m rs o h6 s0 (.val i) s5 (.val (LL pt)) (.val (hdP t tS t1 t2 l pt o)) (sl t (hdP t tS t1 t2 l pt o)) (.own (rowsP (Dr rs pt))) s11 s12 s13 s14 s15 s16 s17 W.n100 W.m100 W.rl1 W.O
  have x9 := L9 (k + 3) m rs pt o t tS t1 t2 l h6 s0 (.val i) (.val (sysP rs)) s5 (.val (LL pt)) (.val (LL o)) (sl t (hdP t tS t1 t2 l pt o)) (.own (rowsP (Dr rs pt))) (.own (rowsP (Nr rs m o))) s12 s13 s14 s15 s16 s17 W.m100 hm1 W.S rl W.O pl (pb.sml (by decide))
  have x10 := L10 (k + 3) m rs pt o (hT (Dr rs pt) (Nr rs m o) h6) s0 (.val i) s5 (.val (hdP t tS t1 t2 l pt o)) (sl t (hdP t tS t1 t2 l pt o)) (.own (rowsP (Dr rs pt))) (.own (rowsP (Nr rs m o))) (.val (.ref (h2 (Dr rs pt) (Nr rs m o) h6).length)) s13 s14 s15 s16 s17 W.m100 hm1 hr3 hl3 W.O pl (pb.sml (by decide))
  have x12 := L12 (k + 5) m pt o t tS t1 t2 l h6 s0 (.val i) (.val (.int m)) (.val (sysP rs)) s5 (.val (LL pt)) (.val (LL o)) s14 s15 s16 s17 (Dr rs pt) (Nr rs m o) W.RD W.RN W.m100 W.S pl ol
  obtain ⟨r7, s7'⟩ := s6'.hT (Dr rs pt) (Nr rs m o)
  obtain ⟨r8, s8'⟩ := s7'.hR (Dr rs pt)
  obtain ⟨r9, s9'⟩ : ∃ r9, SI (c + 2 + 100 + m + m + 91) r9 (hF (Dr rs pt) (Nr rs m o) h6) := s8'.hR (Nr rs m o)
  obtain ⟨y14, y15, h10, x18, s10'⟩ := L18 (k + 7) m rs pt o l (hF (Dr rs pt) (Nr rs m o) h6) s0 (.val i) s5 (.val (hdP t tS t1 t2 l pt o)) (.val (hdP t tS t1 t2 l pt o)) (.val (.ref (h2 (Dr rs pt) (Nr rs m o) h6).length)) (.val (tN (Dr rs pt) (Nr rs m o) h6)) s14 s15 s16 s17 W (c + 2 + 100 + m + m + 91) s9' (by omega) h5
  obtain ⟨ln10, g10⟩ := s9'.get s10'
  have two6 := s6'.two
  obtain ⟨x, ex⟩ := hR_app (Dr rs pt) (hT (Dr rs pt) (Nr rs m o) h6)
  obtain ⟨y, ey⟩ := hR_app (Nr rs m o) (hR (Dr rs pt) (hT (Dr rs pt) (Nr rs m o) h6))
  have eF : hF (Dr rs pt) (Nr rs m o) h6 = hT (Dr rs pt) (Nr rs m o) h6 ++ (x ++ y) := by
    show hR (Nr rs m o) (hR (Dr rs pt) (hT (Dr rs pt) (Nr rs m o) h6)) = _
    rw [ey, ex, List.append_assoc]
  obtain ⟨h11, c19, ln11, g11⟩ := sp_pair (k + 5) (Dr rs pt) (Nr rs m o) h6 h10 W.RD W.RN (fun j h1 h2'' => by rw [g10 j (by omega), eF, List.getElem?_append_left h2''])
  have x19 := L19 (k + 10) h10 s0 (.val i) (.val (.int m)) (.val (sysP rs)) s5 (.val (LL pt)) (.val (LL o)) (.val (hdP t tS t1 t2 l pt o)) (.val (hdP t tS t1 t2 l pt o)) (.val (rowsP (Dr rs pt))) (.val (rowsP (Nr rs m o))) (.val (tN (Dr rs pt) (Nr rs m o) h6)) y14 y15 s16 s17 (h2 (Dr rs pt) (Nr rs m o) h6).length h11 c19
  obtain ⟨r11, s11'⟩ := s10'.of ln11 (fun j hj => g11 j (by omega))
  obtain ⟨z5, z12, z16, z17, h12, r12, x28, z5p, s12'⟩ := L28 k m rs pt o t tS t1 t2 l h11 s0 (.val i) s5 (.val (LL pt)) (.val (LL o)) (.val (hdP t tS t1 t2 l pt o)) (.val (rowsP (Dr rs pt))) (.val (rowsP (Nr rs m o))) (.val (.ref (h2 (Dr rs pt) (Nr rs m o) h6).length)) (.val (tN (Dr rs pt) (Nr rs m o) h6)) y14 y15 s16 s17 W _ s11' (by omega) h5
  have x30 := L30 (k + 3) m rs pt o t tS t1 t2 l h12 s0 (.val i) z5 z12 (.val (tN (Dr rs pt) (Nr rs m o) h6)) y14 y15 z16 z17 W
  obtain ⟨r13, s13'⟩ := s12'.hR (Dr rs pt)
  obtain ⟨r14, s14'⟩ : ∃ r, SI (c + 2 + 100 + m + m + 91 + 18 + 2) r (h2 (Dr rs pt) (Nr rs m o) h12) := s13'.hR (Nr rs m o)
  refine ⟨.val (.int m), .val (sysP rs), z5, .val (LL pt), .val (LL o), .val (hdP t tS t1 t2 l pt o), .val (hdP t tS t1 t2 l pt o), .val (rowsP (Dr rs pt)), .val (rowsP (Nr rs m o)), z12, .val (tN (Dr rs pt) (Nr rs m o) h6), y14, y15, z16, z17, h2 (Dr rs pt) (Nr rs m o) h12, r14, ?_, z5p, s14'.mono (by omega)⟩
  have hb : bindT (.nm 2) i (LE s0 s2 s3 s4 s5 s6 s7 s8 s9 s10 s11 s12 s13 s14 s15 s16 s17) = some (LE s0 (.val i) s3 s4 s5 s6 s7 s8 s9 s10 s11 s12 s13 s14 s15 s16 s17) := rfl
  unfold forStep
  rw [hb]
  show evS (callN G (k + 10)) w31b _ _ = _
  unfold w31b
  rw [seq_next x2, seq_next x3, seq_next x4, seq_next x5, seq_next x6, seq_next x7]
  show evS (callN G (k + 10)) (.seq w8 _) (LE s0 (.val i) (.val (.int m)) (.val (sysP rs)) s5 (.val (LL pt)) (.val (LL o)) (.val (hdP t tS t1 t2 l pt o)) (sl t (hdP t tS t1 t2 l pt o)) (.own (rowsP (Dr rs pt))) s11 s12 s13 s14 s15 s16 s17) h6 = _
  rw [seq_next x8]
  show evS (callN G (k + 10)) (.seq w9 _) (LE s0 (.val i) (.val (.int m)) (.val (sysP rs)) s5 (.val (LL pt)) (.val (LL o)) (.val (hdP t tS t1 t2 l pt o)) (sl t (hdP t tS t1 t2 l pt o)) (.own (rowsP (Dr rs pt))) (.own (rowsP (Nr rs m o))) s12 s13 s14 s15 s16 s17) h6 = _
  rw [seq_next x9, seq_next x10]
  show evS (callN G (k + 10)) (.seq w12 _) (LE s0 (.val i) (.val (.int m)) (.val (sysP rs)) s5 (.val (LL pt)) (.val (LL o)) (.val (hdP t tS t1 t2 l pt o)) (sl t (hdP t tS t1 t2 l pt o)) (.own (rowsP (Dr rs pt))) (.own (rowsP (Nr rs m o))) (.val (.ref (h2 (Dr rs pt) (Nr rs m o) h6).length)) (.own (tN (Dr rs pt) (Nr rs m o) h6)) s14 s15 s16 s17) (hF (Dr rs pt) (Nr rs m o) h6) = _
  rw [seq_next x12, seq_next x18, seq_next x19, seq_next x28, x30]
theorem law_run (ns : List Int) (hns : ns.length ≤ 63) : ∃ fr hh, callN G 30 33 [.scr (ns.map .int)] [] = .ret (.bl true) fr hh := by
  obtain ⟨h0, q0, s0⟩ := s_stream 28 ns hns
  have a1 : evS (callN G 29) w1 [.val (.scr (ns.map .int)), .no, .no, .no, .no, .no, .no, .no, .no, .no, .no, .no, .no, .no, .no, .no, .no, .no, .no, .no, .no, .no, .no, .no, .no] [] = .ok .next (LE (.val (.scr (ns.map .int))) .no .no .no .no .no .no .no .no .no .no .no .no .no .no .no .no) h0 := by
    unfold w1 LE; simp only [evS, evA, evM, evT, evL, evR, evO, evI, Out.bind, Out.noex, lift, rd, v_non, v_bl, v_int, v_str, v_lst, v_tup, v_dic, esc, finish, mk, pm0, pm2, pm3, i_lst, i_tup, lo_lst, List.append_nil, Option.bind_some, Option.bind_none, Option.map_some, Option.map_none, Option.bind_eq_bind, List.getElem?_cons_zero, List.getElem?_cons_succ, List.getElem?_nil, List.set_cons_zero, List.set_cons_succ, List.length_cons, List.length_nil, List.mapM_cons, List.mapM_nil, Option.pure_def, Option.getD_some, and_self, Bool.not_true, Bool.not_false, if_true, if_false, Bool.false_eq_true, Bool.true_eq_false, reduceIte, Nat.reduceAdd, Nat.reduceLT, Nat.reduceSub, q0]
  obtain ⟨e2, h1, q1, x2, x3, x4, x5, x6, x7, x8, x9, x10, x11, x12, x13, x14, x15, x16, x17, he, h5, rest, s1⟩ := forLoop_run (gd := []) (f := forStep (callN G 29) (.nm 2) w31b) (xs := rngItems 0 5)
    (fun j e h => ∃ x2 x3 x4 x5 x6 x7 x8 x9 x10 x11 x12 x13 x14 x15 x16 x17, e = LE (.val (.scr (ns.map .int))) x2 x3 x4 x5 x6 x7 x8 x9 x10 x11 x12 x13 x14 x15 x16 x17 ∧ Pl x5 ∧ ∃ rest, SI (j * 400) rest h)
    (fun j x e h hx ⟨x2, x3, x4, x5, x6, x7, x8, x9, x10, x11, x12, x13, x14, x15, x16, x17, he, h5, rest, hs⟩ => by
      obtain ⟨hin, _⟩ := rng_get 5 j x hx
      subst he
      obtain ⟨y3, y4, y5, y6, y7, y8, y9, y10, y11, y12, y13, y14, y15, y16, y17, h', rest', q, yp, s'⟩ := body_step 19 (j * 400) h hs (by omega) (.val (.scr (ns.map .int))) x2 x3 x4 x5 x6 x7 x8 x9 x10 x11 x12 x13 x14 x15 x16 x17 h5 x
      exact ⟨.next, _, h', q, .inl rfl, _, y3, y4, y5, y6, y7, y8, y9, y10, y11, y12, y13, y14, y15, y16, y17, rfl, yp, rest', s'.mono (by omega)⟩)
    (fun _ _ _ _ => rfl) (e := LE (.val (.scr (ns.map .int))) .no .no .no .no .no .no .no .no .no .no .no .no .no .no .no .no) (h := h0) ⟨_, _, _, _, _, _, _, _, _, _, _, _, _, _, _, _, rfl, .inl rfl, [], by simpa using s0⟩
  have x8' : evS (callN G 29) w31 (LE (.val (.scr (ns.map .int))) .no .no .no .no .no .no .no .no .no .no .no .no .no .no .no .no) h0 = .ok .next e2 h1 := by
    unfold w31
    rw [evS_for]
    have : evI (callN G 29) (.irng1 (.con (.int 5))) (LE (.val (.scr (ns.map .int))) .no .no .no .no .no .no .no .no .no .no .no .no .no .no .no .no) h0 = .ok (rngItems 0 5, []) (LE (.val (.scr (ns.map .int))) .no .no .no .no .no .no .no .no .no .no .no .no .no .no .no .no) h0 := by
      simp only [evS, evA, evM, evT, evL, evR, evO, evI, Out.bind, Out.noex, lift, rd, v_non, v_bl, v_int, v_str, v_lst, v_tup, v_dic, esc, finish, mk, pm0, pm2, pm3, i_lst, i_tup, lo_lst, List.append_nil, Option.bind_some, Option.bind_none, Option.map_some, Option.map_none, Option.bind_eq_bind, List.getElem?_cons_zero, List.getElem?_cons_succ, List.getElem?_nil, List.set_cons_zero, List.set_cons_succ, List.length_cons, List.length_nil, List.mapM_cons, List.mapM_nil, Option.pure_def, Option.getD_some, and_self, Bool.not_true, Bool.not_false, if_true, if_false, Bool.false_eq_true, Bool.true_eq_false, reduceIte, Nat.reduceAdd, Nat.reduceLT, Nat.reduceSub, show small62 5 = true by decide]
    rw [this, bind_okE, q1]
  let r0 : Rw := ⟨[1, 1], false, 2⟩
  have S : Sys 2 [(false, true, r0)] := ⟨fun z hz => by simp at hz; subst hz; rfl, fun z hz => by simp at hz; subst hz; exact fun x hx => by simp [r0] at hx; subst hx; decide, by decide⟩
  have p := s_put 22 true [(false, true, r0)] 2 0 5 h1 (by decide) (by decide) S (by decide) (by decide)
  let P : List Rw := [pt1 0 5 r0]
  have p' : callN G 29 18 [.int 2, .lst [.tup [.lst [.int 1, .int 1], .str ">=", .int 2]], .int 0, .int 5] h1 = .ret (.ref (tR P h1)) false (hR P h1) := p
  have RP : RsOk P := ⟨by decide, fun r hr => by simp [P] at hr; subst hr; decide⟩
  have c := s_sameR 3 _ _ 25 _ (R_hR P h1 (hR P h1) ⟨[], by simp⟩ RP.b.1 RP.a.1)
  have eP : rowsP P = .lst [.tup [.lst [.int 1], .str ">=", .int (-3)]] := by rfl
  rw [eP] at c
  have c' : callN G 29 23 [.ref (tR P h1), .lst [.tup [.lst [.int 1], .str ">=", .int (-3)]]] (hR P h1) = .ret (.bl true) false (hR P h1) := c
  refine ⟨false, hR P h1, ?_⟩
  rw [c_law, w_body, seq_next a1, seq_next x8', he]
  clear_value P
  unfold w32 LE
  simp only [evS, evA, evM, evT, evL, evR, evO, evI, Out.bind, Out.noex, lift, rd, v_non, v_bl, v_int, v_str, v_lst, v_tup, v_dic, esc, finish, mk, pm0, pm2, pm3, i_lst, i_tup, lo_lst, List.append_nil, Option.bind_some, Option.bind_none, Option.map_some, Option.map_none, Option.bind_eq_bind, List.getElem?_cons_zero, List.getElem?_cons_succ, List.getElem?_nil, List.set_cons_zero, List.set_cons_succ, List.length_cons, List.length_nil, List.mapM_cons, List.mapM_nil, Option.pure_def, Option.getD_some, and_self, Bool.not_true, Bool.not_false, if_true, if_false, Bool.false_eq_true, Bool.true_eq_false, reduceIte, Nat.reduceAdd, Nat.reduceLT, Nat.reduceSub, p', c']
end K02

namespace K02
open PL PySem PySem.Spec PyProof.Rows L2
def top (i : Nat) : Stmt := PySem.Challenge.pw_pointswhole_k02_whole_systems_moved.main.body.getD i (.Pass ⟨0, 0, 0, 0⟩)
abbrev lawAt : Nat := 44
abbrev lawIx : Nat := 33
def zs : List FD := [
  ⟨"is_list", top 1, ["thing"], ["thing"], []⟩,
  ⟨"is_whole", top 2, ["thing"], ["thing"], []⟩,
  ⟨"is_number", top 3, ["thing"], ["thing"], []⟩,
  ⟨"is_below", top 4, ["thing", "most"], ["thing", "most"], []⟩,
  ⟨"is_row", top 5, ["thing", "many"], ["thing", "many"], []⟩,
  ⟨"check_many", top 15, ["many"], ["many"], []⟩,
  ⟨"kept_numbers", top 16, ["many", "thing", ".0", "number"], ["many", "thing"], []⟩,
  ⟨"kept_line", top 17, ["many", "thing", "numbers"], ["many", "thing"], []⟩,
  ⟨"kept_system", top 18, ["many", "thing", "found", ".0", "row"], ["many", "thing"], []⟩,
  ⟨"need_system", top 19, ["many", "system", "kept"], ["many", "system"], []⟩,
  ⟨"need_point", top 20, ["many", "point", "kept"], ["many", "point"], []⟩,
  ⟨"sum_at", top 21, ["numbers", "point", ".0", "number", "value"], ["numbers", "point"], []⟩,
  ⟨"told_line", top 22, ["row"], ["row"], [0]⟩,
  ⟨"told_system", top 23, ["system", ".0", "row"], ["system"], [0]⟩,
  ⟨"moved_by", top 24, ["system", "point", ".0", "numbers", "word", "bound"], ["system", "point"], []⟩,
  ⟨"shifted", top 25, ["many", "system", "point", "kept"], ["many", "system", "point"], []⟩,
  ⟨"renamed", top 26, ["many", "system", "order", "kept", "back", ".0", "one", "unknown", "name", "numbers", "word", "bound"], ["many", "system", "order"], [86011, 86013]⟩,
  ⟨"with_number", top 27, ["system", "place", "number", "found", "numbers", "word", "bound"], ["system", "place", "number"], []⟩,
  ⟨"put_number", top 28, ["many", "system", "place", "number", "kept"], ["many", "system", "place", "number"], []⟩,
  ⟨"_law_stream", top 30, ["script"], ["script"], [0]⟩,
  ⟨"_law_draw", top 31, ["stream", "many", "cell", "digit", "mixed"], ["stream", "many"], []⟩,
  ⟨"_law_pick", top 32, ["stream", "things"], ["stream", "things"], []⟩,
  ⟨"_law_mixed", top 33, ["stream", "things", "left", "found", "k"], ["stream", "things"], []⟩,
  ⟨"_law_same", top 34, ["found", "due", ".0", "mine", "theirs"], ["found", "due"], []⟩,
  ⟨"_law_spoilt", top 35, ["thing", "part"], ["thing"], []⟩,
  ⟨"_law_copied", top 36, ["thing", "some", ".0", "key", "one"], ["thing"], []⟩,
  ⟨"_law_loose", top 37, ["stream", "thing", "some", ".0", "part"], ["stream", "thing"], []⟩,
  ⟨"_law_integer", top 38, ["stream", "most"], ["stream", "most"], []⟩,
  ⟨"_law_value", top 39, ["numbers", "point", ".0", "one", "other"], ["numbers", "point"], []⟩,
  ⟨"_law_row_holds", top 40, ["row", "point", "found"], ["row", "point"], []⟩,
  ⟨"_law_holds", top 41, ["system", "point", ".0", "row"], ["system", "point"], []⟩,
  ⟨"_law_row", top 42, ["stream", "many", "most", "bound", ".0", "place"], ["stream", "many", "most", "bound"], []⟩,
  ⟨"_law_system", top 43, ["stream", "many", "rows", "most", "bound", "found", "point", "k", "numbers", "word", "number", ".0", "place"], ["stream", "many", "rows", "most", "bound"], []⟩,
  ⟨"law", top 44, ["script", "stream", "turn", "many", "system", "place", "point", "order", "handed", "was", "due", "names", "told", "named", "k", "some", "number", "due_put", ".0", "numbers", "word", "bound", "name", "one", "more"], ["script"], [183015, 197019]⟩]
def loose : List Str := [("is_list" : Str), ("is_whole" : Str), ("is_number" : Str), ("is_below" : Str), ("is_row" : Str), ("WholeError" : Str), ("BadMany" : Str), ("BadSystem" : Str), ("BadPoint" : Str), ("BadOrder" : Str), ("BadPlace" : Str), ("BadNumber" : Str), ("check_many" : Str), ("kept_numbers" : Str), ("kept_line" : Str), ("kept_system" : Str), ("need_system" : Str), ("need_point" : Str), ("sum_at" : Str), ("told_line" : Str), ("told_system" : Str), ("moved_by" : Str), ("shifted" : Str), ("renamed" : Str), ("with_number" : Str), ("put_number" : Str), ("_law_stream" : Str), ("_law_draw" : Str), ("_law_pick" : Str), ("_law_mixed" : Str), ("_law_same" : Str), ("_law_spoilt" : Str), ("_law_copied" : Str), ("_law_loose" : Str), ("_law_integer" : Str), ("_law_value" : Str), ("_law_row_holds" : Str), ("_law_holds" : Str), ("_law_row" : Str), ("_law_system" : Str)]
def kws : List (Nat × Nat × List Str × List Nat) := [(15, 0, ["point", "system", "many"], [2, 1, 0]), (16, 0, ["order", "system", "many"], [2, 1, 0]), (18, 0, ["number", "place", "system", "many"], [3, 2, 1, 0])]
def free : List Str := ["len", "all", "any", "sum", "abs", "int", "list", "tuple", "max", "min", "isinstance", "range", "zip", "enumerate", "bool", "str", "dict", "sorted", "reversed"]
theorem bindN : ∀ z ∈ zs, BindN z := by
  unfold zs
  refine List.forall_mem_cons.mpr ⟨(fun _ _ _ _ _ _ us hl => match us, hl with | [_], _ => rfl), ?_⟩
  refine List.forall_mem_cons.mpr ⟨(fun _ _ _ _ _ _ us hl => match us, hl with | [_], _ => rfl), ?_⟩
  refine List.forall_mem_cons.mpr ⟨(fun _ _ _ _ _ _ us hl => match us, hl with | [_], _ => rfl), ?_⟩
  refine List.forall_mem_cons.mpr ⟨(fun _ _ _ _ _ _ us hl => match us, hl with | [_, _], _ => rfl), ?_⟩
  refine List.forall_mem_cons.mpr ⟨(fun _ _ _ _ _ _ us hl => match us, hl with | [_, _], _ => rfl), ?_⟩
  refine List.forall_mem_cons.mpr ⟨(fun _ _ _ _ _ _ us hl => match us, hl with | [_], _ => rfl), ?_⟩
  refine List.forall_mem_cons.mpr ⟨(fun _ _ _ _ _ _ us hl => match us, hl with | [_, _], _ => rfl), ?_⟩
  refine List.forall_mem_cons.mpr ⟨(fun _ _ _ _ _ _ us hl => match us, hl with | [_, _], _ => rfl), ?_⟩
  refine List.forall_mem_cons.mpr ⟨(fun _ _ _ _ _ _ us hl => match us, hl with | [_, _], _ => rfl), ?_⟩
  refine List.forall_mem_cons.mpr ⟨(fun _ _ _ _ _ _ us hl => match us, hl with | [_, _], _ => rfl), ?_⟩
  refine List.forall_mem_cons.mpr ⟨(fun _ _ _ _ _ _ us hl => match us, hl with | [_, _], _ => rfl), ?_⟩
  refine List.forall_mem_cons.mpr ⟨(fun _ _ _ _ _ _ us hl => match us, hl with | [_, _], _ => rfl), ?_⟩
  refine List.forall_mem_cons.mpr ⟨(fun _ _ _ _ _ _ us hl => match us, hl with | [_], _ => rfl), ?_⟩
  refine List.forall_mem_cons.mpr ⟨(fun _ _ _ _ _ _ us hl => match us, hl with | [_], _ => rfl), ?_⟩
  refine List.forall_mem_cons.mpr ⟨(fun _ _ _ _ _ _ us hl => match us, hl with | [_, _], _ => rfl), ?_⟩
  refine List.forall_mem_cons.mpr ⟨(fun _ _ _ _ _ _ us hl => match us, hl with | [_, _, _], _ => rfl), ?_⟩
  refine List.forall_mem_cons.mpr ⟨(fun _ _ _ _ _ _ us hl => match us, hl with | [_, _, _], _ => rfl), ?_⟩
  refine List.forall_mem_cons.mpr ⟨(fun _ _ _ _ _ _ us hl => match us, hl with | [_, _, _], _ => rfl), ?_⟩
  refine List.forall_mem_cons.mpr ⟨(fun _ _ _ _ _ _ us hl => match us, hl with | [_, _, _, _], _ => rfl), ?_⟩
  refine List.forall_mem_cons.mpr ⟨(fun _ _ _ _ _ _ us hl => match us, hl with | [_], _ => rfl), ?_⟩
  refine List.forall_mem_cons.mpr ⟨(fun _ _ _ _ _ _ us hl => match us, hl with | [_, _], _ => rfl), ?_⟩
  refine List.forall_mem_cons.mpr ⟨(fun _ _ _ _ _ _ us hl => match us, hl with | [_, _], _ => rfl), ?_⟩
  refine List.forall_mem_cons.mpr ⟨(fun _ _ _ _ _ _ us hl => match us, hl with | [_, _], _ => rfl), ?_⟩
  refine List.forall_mem_cons.mpr ⟨(fun _ _ _ _ _ _ us hl => match us, hl with | [_, _], _ => rfl), ?_⟩
  refine List.forall_mem_cons.mpr ⟨(fun _ _ _ _ _ _ us hl => match us, hl with | [_], _ => rfl), ?_⟩
  refine List.forall_mem_cons.mpr ⟨(fun _ _ _ _ _ _ us hl => match us, hl with | [_], _ => rfl), ?_⟩
  refine List.forall_mem_cons.mpr ⟨(fun _ _ _ _ _ _ us hl => match us, hl with | [_, _], _ => rfl), ?_⟩
  refine List.forall_mem_cons.mpr ⟨(fun _ _ _ _ _ _ us hl => match us, hl with | [_, _], _ => rfl), ?_⟩
  refine List.forall_mem_cons.mpr ⟨(fun _ _ _ _ _ _ us hl => match us, hl with | [_, _], _ => rfl), ?_⟩
  refine List.forall_mem_cons.mpr ⟨(fun _ _ _ _ _ _ us hl => match us, hl with | [_, _], _ => rfl), ?_⟩
  refine List.forall_mem_cons.mpr ⟨(fun _ _ _ _ _ _ us hl => match us, hl with | [_, _], _ => rfl), ?_⟩
  refine List.forall_mem_cons.mpr ⟨(fun _ _ _ _ _ _ us hl => match us, hl with | [_, _, _, _], _ => rfl), ?_⟩
  refine List.forall_mem_cons.mpr ⟨(fun _ _ _ _ _ _ us hl => match us, hl with | [_, _, _, _, _], _ => rfl), ?_⟩
  refine List.forall_mem_cons.mpr ⟨(fun _ _ _ _ _ _ us hl => match us, hl with | [_], _ => rfl), ?_⟩
  exact fun _ h => by simp at h
theorem bindK : ∀ q ∈ kws, BindK zs q := by
  unfold kws
  refine List.forall_mem_cons.mpr ⟨(fun z hz => by cases hz; exact fun _ _ _ _ _ _ us ws h1 h2 => match us, ws, h1, h2 with | [], [_, _, _], _, _ => rfl), ?_⟩
  refine List.forall_mem_cons.mpr ⟨(fun z hz => by cases hz; exact fun _ _ _ _ _ _ us ws h1 h2 => match us, ws, h1, h2 with | [], [_, _, _], _, _ => rfl), ?_⟩
  refine List.forall_mem_cons.mpr ⟨(fun z hz => by cases hz; exact fun _ _ _ _ _ _ us ws h1 h2 => match us, ws, h1, h2 with | [], [_, _, _, _], _, _ => rfl), ?_⟩
  exact fun _ h => by simp at h
theorem scs : zs.all (fun z => C8.scC z.N z.ps (defScope z.st)) = true := by kernel_rfl
def fn : List He.DefD := zs.map FD.d
def fa : List He.Fa := zs.map (fun z => He.Fa.glo z.x) ++ free.map He.Fa.free
abbrev R : PySem.W.OpenRow := PySem.W.OpenLaw.row PySem.Challenge.rw_pointswhole_k02_whole_systems_moved
abbrev hk : PySem.W.Hook := He.hookD 4 fa fn
def ob (s : PySem.W.SharedT) : He.AlD := He.obsDG 4 fa fn (HandSHeadRun.getT s)
theorem ob_eq (s : PySem.W.SharedT) : ob s = hk.obs s.abs := He.obsDG_eq (HandSHeadRun.getT_eq s)
theorem run (w : World) : HandSHeadRun.RunEq R (PySem.W.view R.prog [lawAt]) hk ob 4000 loose w := by
  intro os
  kernel_rfl
theorem G_eq : progOf zs free kws = G := by kernel_rfl
theorem law_ok : ∀ ns : List Int, ns.length ≤ 63 → ∃ fr h1, callN (progOf zs free kws) 30 lawIx [.scr (ns.map .int)] [] = .ret (.bl true) fr h1 := by
  rw [G_eq]; exact law_run
end K02
open PySem PySem.W PySem.Calls PyProof.Rows
theorem PySem.Challenge.cw_pointswhole_k02_whole_systems_moved_holds : PySem.Challenge.rw_pointswhole_k02_whole_systems_moved.Holds := by
  w_on; o_law
  refine HandSHeadRun.head_any (r := OpenLaw.row PySem.Challenge.rw_pointswhole_k02_whole_systems_moved) (q := view (OpenLaw.row PySem.Challenge.rw_pointswhole_k02_whole_systems_moved).prog [K02.lawAt]) (H := K02.hk) (ob := K02.ob) (M := 4000) (loose := K02.loose) (d := HandSHeadRun.topDef (OpenLaw.row PySem.Challenge.rw_pointswhole_k02_whole_systems_moved).prog K02.lawAt) (kwd := []) K02.ob_eq
    (by kernel_rfl) (fun s => by kernel_rfl) K02.run (by kernel_rfl) (by kernel_rfl) (by kernel_rfl) (by rfl) (by first | assumption | decide +kernel) (by decide +kernel) ⟨rfl, rfl, rfl, rfl, rfl, by decide +kernel⟩ ?hw ?hc
  case hw => w_witness2
  case hc =>
    refine L2.walk_ofE (l := PySem.Challenge.rw_pointswhole_k02_whole_systems_moved) (n := 63) (k := 32) (x := "script") (CX := L2.CX0) rfl (by decide) (by kernel_rfl) ⟨rfl, by decide, by decide⟩ ?F (fun _ _ _ _ z => z)
    intro w mg fa h Y G hmg0
    obtain ⟨K, KX, c⟩ := Y
    have hmg : mg ("law" : PySem.Str) = some (.ref fa) := by
      have e : (HandSHeadRun.topDef (OpenLaw.row PySem.Challenge.rw_pointswhole_k02_whole_systems_moved).prog K02.lawAt).name = ("law" : PySem.Str) := by kernel_rfl
      rw [← e]
      exact hmg0
    obtain ⟨fd, hb, hF⟩ := PL.top_gen (P := (PySem.Challenge.rw_pointswhole_k02_whole_systems_moved).prog) (w := w) (zs := K02.zs) (free := K02.free) (kws := K02.kws) (j := K02.lawIx) (n := 63) (k := 30) (zl := (K02.zs.getD K02.lawIx default)) KX G c rfl rfl hmg (by decide) K02.scs K02.bindN K02.bindK K02.law_ok
    exact ⟨K, fd, PL.spLaw 63 K, KX, hb, fun H a ns hl hO hS => ⟨a, ns, rfl, hl, hO, hS, fun _ => rfl⟩, hF⟩
