import PyProof.Rows.All
import Wide.All
import OpenK.AllK
import Wide.FinOn
import PyProof.EqAt
import PyProof.EqKinds
import Open.SpecLaws
import KE.KStateDown
import PySem.Str
import PySem.Syntax
import HandS.ForMost
import HandS.IsInst
import HandS.Style
import HandS.Wide
import HandS.Flow
import HandS.Zip
import HandS.ExcInit
import HandS.TupMul
import HandS.Iter
import KE.GoesMore
import HandS.TryMany
import HandS.CallSlots
import HandS.WordsExc
import HandS.HeadHook4
import HandS.Codes
import HandS.Head0
import HandS.Head1
import HandS.Head2
import HandS.HeadEnd
import HandS.HeadHook1
import HandS.HeadHook2
import PySem.Challenge.RW_pointswhole_k03_whole_rows_turned_and_pl
set_option autoImplicit false
set_option linter.all false
set_option Elab.async false
set_option maxRecDepth 100000
set_option maxHeartbeats 0
/-! A small tree language and its evaluator on plain values. -/
namespace PL
open PySem (Str)

/-- plain values -/
inductive PV where
  | non
  | bl (b : Bool)
  | int (i : Int)
  | str (s : Str)
  | ty (n : String)
  | fn (f : Nat)
  | ref (n : Nat)
  | scr (xs : List PV)
  | lst (xs : List PV)
  | tup (xs : List PV)
  | dic (ks : List (Int ⊕ Str)) (vs : List PV)
  deriving Inhabited

inductive Cell where
  | lst (xs : List PV)
  deriving Inhabited
abbrev Hs := List Cell

inductive SV where
  | no
  | val (v : PV)
  | own (v : PV)
  deriving Inhabited
abbrev Env := List SV

inductive Bop where
  | add | sub | mul | fdiv | mod | pow
  deriving DecidableEq
inductive Cop where
  | eq | ne | lt | le | gt | ge | is_ | isnot | in_ | notin
  deriving DecidableEq
inductive Bn where
  | len | all | any | sum | abs | int | list | tuple | max | min
  deriving DecidableEq
inductive Mn where
  | append | extend | pop | popAt
  deriving DecidableEq

/-- targets -/
inductive Tg where
  | nm (i : Nat)
  | tp (t : Tg)
  | nil
  | cons (t ts : Tg)

inductive Ex where
  | stuck
  | var (i : Nat)
  | con (v : PV)
  | bin (op : Bop) (a b : Ex)
  | neg (a : Ex)
  | cmp (op : Cop) (a b : Ex)
  | chain (op op' : Cop) (a b c : Ex)
  | and (a b : Ex)
  | or (a b : Ex)
  | not (a : Ex)
  | ite (c a b : Ex)
  | lst (es : Ex)
  | tup (es : Ex)
  | nil
  | cons (a es : Ex)
  | idx (a b : Ex)
  | sli (a lo hi : Ex)
  | call (f : Nat) (perm : List Nat) (es : Ex)
  | bcall (b : Bn) (es : Ex)
  | isi (a : Ex) (ts : List String)
  | meth (m : Mn) (o es : Ex)
  | lc (own : List Nat) (tg : Tg) (it ifs body : Ex)
  | lcin (tg : Tg) (it ifs body : Ex)
  | one (e : Ex)
  | iseq (e : Ex)
  | irng1 (a : Ex)
  | irng2 (a b : Ex)
  | izip (a b : Ex)
  | ienum (a : Ex)
  | dic0
  | cell (a : Ex)

inductive Sm where
  | stuck
  | skip
  | asg (i : Nat) (e : Ex)
  | tasg (tg : Tg) (e : Ex)
  | par (i j : Nat) (a b : Ex)
  | seti (o i e : Ex)
  | expr (e : Ex)
  | ite (c : Ex) (a b : Sm)
  | seq (a b : Sm)
  | for_ (tg : Tg) (it : Ex) (body : Sm)
  | while_ (c : Ex) (body : Sm)
  | ret (e : Ex)
  | brk
  | cont
  | raise (c : Nat) (es : Ex)

inductive Out (α : Type) where
  | ok (a : α) (e : Env) (h : Hs)
  | exc (c : Nat) (fs : List PV) (e : Env) (h : Hs)
  | stuck
def Out.bind {α β : Type} (o : Out α) (f : α → Env → Hs → Out β) : Out β :=
  match o with
  | .ok a e h => f a e h
  | .exc c fs e h => .exc c fs e h
  | .stuck => .stuck
/-- no error may leave -/
def Out.noex {α : Type} : Out α → Out α
  | .exc .. => .stuck
  | o => o

inductive Rs where
  | slot (i : Nat)
  | v (p : PV) (fresh : Bool)
inductive Ret where
  | ret (p : PV) (fresh : Bool) (h : Hs)
  | exc (c : Nat) (fs : List PV) (h : Hs)
  | stuck
abbrev Calls := Nat → List PV → Hs → Ret

/-! ### reading -/
def view (h : Hs) : PV → PV
  | .ref n => match h[n]? with
    | some (.lst xs) => .lst xs
    | none => .ref n
  | p => p
def rd (r : Rs) (e : Env) (h : Hs) : Option PV :=
  match r with
  | .slot i => match e[i]? with
    | some (.val v) => some (view h v)
    | some (.own v) => some v
    | _ => none
  | .v p _ => some (view h p)
def esc (r : Rs) (e : Env) : Option (PV × Bool × Env) :=
  match r with
  | .slot i => match e[i]? with
    | some (.val v) => some (v, false, e)
    | some (.own v) => some (v, false, e.set i (.val v))
    | _ => none
  | .v p fr => some (p, fr, e)

def line : Nat := 16777216
def truthy : PV → Option Bool
  | .non => some false
  | .bl b => some b
  | .int i => some (i != 0)
  | .str s => if s.length ≤ line then some ((s.length : Int) != 0) else none
  | .lst xs => some (!xs.isEmpty)
  | .tup xs => some (!xs.isEmpty)
  | .dic ks _ => some (!ks.isEmpty)
  | _ => none

mutual
/-- data that == tells apart by what it is -/
def okD : PV → Bool
  | .non => true
  | .bl _ => true
  | .int _ => true
  | .str s => s.cps.all (· < 0x110000)
  | .lst xs => okDs xs
  | .tup xs => okDs xs
  | _ => false
def okDs : List PV → Bool
  | [] => true
  | x :: xs => okD x && okDs xs
end
mutual
/-- how deep it is -/
def dep : PV → Nat
  | .lst xs => deps xs + 1
  | .tup xs => deps xs + 1
  | _ => 0
def deps : List PV → Nat
  | [] => 0
  | x :: xs => max (dep x) (deps xs)
end
mutual
/-- == of plain data -/
def eqv : PV → PV → Bool
  | .non, .non => true
  | .bl a, .bl b => a == b
  | .bl a, .int j => (if a then 1 else 0) == j
  | .int i, .bl b => i == (if b then 1 else 0)
  | .int i, .int j => i == j
  | .str x, .str y => x == y
  | .lst xs, .lst ys => eqvs xs ys
  | .tup xs, .tup ys => eqvs xs ys
  | _, _ => false
def eqvs : List PV → List PV → Bool
  | [], [] => true
  | x :: xs, y :: ys => eqv x y && eqvs xs ys
  | _, _ => false
end
def opEq (x y : PV) : Option Bool := if okD x = true ∧ okD y = true ∧ min (dep x) (dep y) ≤ 64 then some (eqv x y) else none

mutual
/-- the very same value -/
def pvEq : PV → PV → Bool
  | .non, .non => true
  | .bl a, .bl b => a == b
  | .int i, .int j => i == j
  | .str x, .str y => x == y
  | .ty n, .ty m => n == m
  | .fn f, .fn g => f == g
  | .ref n, .ref m => n == m
  | .scr xs, .scr ys => pvsEq xs ys
  | .lst xs, .lst ys => pvsEq xs ys
  | .tup xs, .tup ys => pvsEq xs ys
  | .dic ks xs, .dic ls ys => decide (ks = ls) && pvsEq xs ys
  | _, _ => false
def pvsEq : List PV → List PV → Bool
  | [], [] => true
  | x :: xs, y :: ys => pvEq x y && pvsEq xs ys
  | _, _ => false
end
/-- cells that a walk leans on -/
abbrev Gd := List (Nat × List PV)
def gd1 (h : Hs) (z : Nat × List PV) : Bool := match h[z.1]? with
  | some (.lst xs) => pvsEq xs z.2
  | none => false
def gdOk (gd : Gd) (h : Hs) : Bool := gd.all (gd1 h)

def ixN (n : Nat) (i : Int) : Option Nat :=
  if 0 ≤ i then (if i < n then some i.toNat else none) else if -(n : Int) ≤ i then some (i + n).toNat else none
def sIx (n d : Nat) : Option Int → Nat
  | none => d
  | some v => if v < 0 then (v + (n : Int)).toNat else min v.toNat n
def cut (xs : List PV) (lo hi : Option Int) : List PV :=
  (xs.drop (sIx xs.length 0 lo)).take (sIx xs.length xs.length hi - sIx xs.length 0 lo)
def mulOk (i j : Int) : Bool := decide (i.natAbs.log2 + j.natAbs.log2 < 1000000)

def opBin : Bop → PV → PV → Option (PV × Bool)
  | .add, .int i, .int j => some (.int (i + j), false)
  | .add, .str i, .str j => if i.length + j.length ≤ line then some (.str (i ++ j), false) else none
  | .add, .lst xs, .lst ys => if xs.length + ys.length ≤ line then some (.lst (xs ++ ys), true) else none
  | .add, .tup xs, .tup ys => if xs.length + ys.length ≤ line ∧ xs ≠ [] then some (.tup (xs ++ ys), false) else none
  | .sub, .int i, .int j => some (.int (i - j), false)
  | .mul, .int i, .int j => if mulOk i j then some (.int (i * j), false) else none
  | .mul, .lst xs, .int k => if k < 9223372036854775808 ∧ -9223372036854775808 ≤ k ∧ xs.length * k.toNat ≤ line then some (.lst (List.replicate k.toNat xs).flatten, true) else none
  | .mul, .tup xs, .int k => if 1 ≤ k ∧ k ≤ 1000 ∧ 1 ≤ xs.length ∧ xs.length ≤ 1000 then some (.tup (List.replicate k.toNat xs).flatten, false) else none
  | .fdiv, .int i, .int j => if j ≠ 0 ∧ j.natAbs < 1073741824 then some (.int (i.fdiv j), false) else none
  | .mod, .int i, .int j => if j ≠ 0 then some (.int (i.fmod j), false) else none
  | .pow, .int i, .int j => if 0 ≤ j ∧ j ≤ 1000000 ∧ i.natAbs < 2 ^ 64 then some (.int (i ^ j.toNat), false) else none
  | _, _, _ => none

/-- is a value in some things -/
def opIn (x : PV) (ys : List PV) : Option Bool := if okD x = true ∧ okDs ys = true ∧ min (dep x) (deps ys) ≤ 64 then some (ys.any fun y => eqv y x) else none

def opCmp : Cop → PV → PV → Option Bool
  | .eq, x, y => opEq x y
  | .ne, x, y => (opEq x y).map (!·)
  | .lt, .int i, .int j => some (decide (i < j))
  | .le, .int i, .int j => some (decide (i ≤ j))
  | .gt, .int i, .int j => some (decide (j < i))
  | .ge, .int i, .int j => some (decide (j ≤ i))
  | .is_, x, .non => some (match x with | .non => true | _ => false)
  | .isnot, x, .non => some (match x with | .non => false | _ => true)
  | .is_, .bl a, .bl b => some (a == b)
  | .isnot, .bl a, .bl b => some (a != b)
  | .in_, x, .lst ys => opIn x ys
  | .in_, x, .tup ys => opIn x ys
  | .notin, x, .lst ys => (opIn x ys).map (!·)
  | .notin, x, .tup ys => (opIn x ys).map (!·)
  | _, _, _ => none

def opIdx : PV → PV → Option PV
  | .lst xs, .int i => (ixN xs.length i).bind fun j => xs[j]?
  | .tup xs, .int i => (ixN xs.length i).bind fun j => xs[j]?
  | _, _ => none
def opSli : PV → Option Int → Option Int → Option (PV × Bool)
  | .lst xs, lo, hi => some (.lst (cut xs lo hi), true)
  | .tup xs, lo, hi => if sIx xs.length 0 lo = 0 ∧ sIx xs.length xs.length hi = xs.length then none else some (.tup (cut xs lo hi), false)
  | _, _, _ => none

def typeName : PV → Option String
  | .non => some "NoneType"
  | .bl _ => some "bool"
  | .int _ => some "int"
  | .str _ => some "str"
  | .lst _ => some "list"
  | .tup _ => some "tuple"
  | .dic _ _ => some "dict"
  | _ => none
/-- isinstance, by the names of plain types -/
def isType (n : String) (t : String) : Bool := n == t || (n == "bool" && t == "int")
def isAny (n : String) (ts : List String) : Bool := ts.any (isType n)

def allInts : List PV → Option (List Int)
  | [] => some []
  | .int i :: r => (allInts r).map (i :: ·)
  | _ :: _ => none
def allBools : List PV → Option (List Bool)
  | [] => some []
  | .bl i :: r => (allBools r).map (i :: ·)
  | _ :: _ => none

def opB : Bn → List PV → Option (PV × Bool)
  | .len, [.lst xs] => some (.int xs.length, false)
  | .len, [.tup xs] => some (.int xs.length, false)
  | .len, [.scr xs] => some (.int xs.length, false)
  | .len, [.str s] => if s.length ≤ line then some (.int s.length, false) else none
  | .all, [.lst xs] => (allBools xs).map fun bs => (.bl (bs.all id), false)
  | .any, [.lst xs] => (allBools xs).map fun bs => (.bl (bs.any id), false)
  | .sum, [.lst xs] => (allInts xs).map fun is => (.int is.sum, false)
  | .abs, [.int i] => some (.int (if i < 0 then -i else i), false)
  | .int, [.int i] => some (.int i, false)
  | .list, [.lst xs] => some (.lst xs, true)
  | .list, [.tup xs] => some (.lst xs, true)
  | .list, [.scr xs] => some (.lst xs, true)
  | .tuple, [.lst xs] => some (.tup xs, false)
  | .tuple, [.tup xs] => some (.tup xs, false)
  | .max, [.int i, .int j] => some (.int (if j > i then j else i), false)
  | .min, [.int i, .int j] => some (.int (if j < i then j else i), false)
  | _, _ => none

/-! ### targets -/
mutual
def bindT : Tg → PV → Env → Option Env
  | .nm i, p, e => if i < e.length then some (e.set i (.val p)) else none
  | .tp t, .tup xs, e => bindTs t xs e
  | _, _, _ => none
def bindTs : Tg → List PV → Env → Option Env
  | .nil, [], e => some e
  | .cons t ts, x :: xs, e => (bindT t x e).bind fun e1 => bindTs ts xs e1
  | _, _, _ => none
end

/-- the slots that a target stores to -/
def tgIs : Tg → List Nat
  | .nm i => [i]
  | .tp t => tgIs t
  | .nil => []
  | .cons t ts => tgIs t ++ tgIs ts
/-! ### loops -/
def lcLoop (gd : Gd) (f : PV → Env → Hs → Out (List PV)) : List PV → Env → Hs → Out (List PV)
  | [], e, h => if gdOk gd h = true then .ok [] e h else .stuck
  | x :: xs, e, h => if gdOk gd h = true then (f x e h).bind fun r e1 h1 => (lcLoop gd f xs e1 h1).bind fun rs e2 h2 => .ok (r ++ rs) e2 h2 else .stuck
def frzS : SV → SV
  | .own v => .val v
  | s => s
def frzAt : List Nat → Env → Env
  | [], e => e
  | v :: vs, e => (frzAt vs e).set v (frzS ((frzAt vs e).getD v .no))
def wipeE : List Nat → Env → Env
  | [], e => e
  | v :: vs, e => (wipeE vs e).set v .no
/-- the names of a block as they stood ahead of it -/
def backE : List Nat → Env → Env → Env
  | [], _, e => e
  | v :: vs, e0, e => (backE vs e0 e).set v (e0.getD v .no)

/-- the arguments in the order of the parameters -/
def permute (perm : List Nat) (ps : List PV) : List PV :=
  match perm with
  | [] => ps
  | _ => perm.map fun i => ps.getD i .non
def rngItems (lo hi : Int) : List PV := (List.range (hi - lo).toNat).map fun (k : Nat) => PV.int (lo + k)
def small62 (i : Int) : Bool := decide (-4611686018427387904 ≤ i ∧ i < 4611686018427387904)
def items : PV → Option (List PV)
  | .lst xs => some xs
  | .tup xs => some xs
  | .scr xs => some xs
  | _ => none
/-- a list that is walked: what it holds, the cell it is -/
def lstOf (h : Hs) : PV → Option (List PV × Gd)
  | .lst xs => some (xs, [])
  | .ref n => match h[n]? with
    | some (.lst xs) => some (xs, [(n, xs)])
    | none => none
  | _ => none
def seqOf (h : Hs) : PV → Option (List PV × Gd)
  | .tup xs => some (xs, [])
  | .scr xs => some (xs, [])
  | p => lstOf h p
def enumItems (xs : List PV) : List PV := (xs.zipIdx).map fun z => PV.tup [.int (z.2 : Nat), z.1]
def zipItems (xs ys : List PV) : List PV := (xs.zip ys).map fun z => PV.tup [z.1, z.2]
def optInt : Rs → Env → Hs → Option (Option Int)
  | r, e, h => match rd r e h with
    | some (.int i) => some (some i)
    | _ => none

/-- a call of a built-in type's method on what may be written -/
def opM : Mn → List PV → List PV → Option (PV × List PV)
  | .append, xs, [a] => if xs.length < line then some (.non, xs ++ [a]) else none
  | .extend, xs, [.lst ys] => if xs.length + ys.length ≤ line then some (.non, xs ++ ys) else none
  | .pop, xs, [] => (xs[xs.length - 1]?).map fun y => (y, xs.dropLast)
  | .popAt, xs, [.int i] => if -9223372036854775808 ≤ i ∧ i < 9223372036854775808 then (ixN xs.length i).bind fun k => (xs[k]?).map fun y => (y, xs.eraseIdx k) else none
  | _, _, _ => none
/-- what stands there and may be written -/
def mut? (r : Rs) (e : Env) (h : Hs) : Option (List PV) :=
  match r with
  | .slot i => match e[i]? with
    | some (.own (.lst xs)) => some xs
    | some (.val (.ref n)) => match h[n]? with
      | some (.lst xs) => some xs
      | none => none
    | _ => none
  | .v (.ref n) _ => match h[n]? with
    | some (.lst xs) => some xs
    | none => none
  | _ => none
def put (r : Rs) (xs : List PV) (e : Env) (h : Hs) : Env × Hs :=
  match r with
  | .slot i => match e[i]? with
    | some (.val (.ref n)) => (e, h.set n (.lst xs))
    | _ => (e.set i (.own (.lst xs)), h)
  | .v (.ref n) _ => (e, h.set n (.lst xs))
  | _ => (e, h)

def lift {α : Type} (o : Option α) (e : Env) (h : Hs) : Out α :=
  match o with
  | some a => .ok a e h
  | none => .stuck

section
variable (C : Calls)
mutual
def evA : Ex → Env → Hs → Out Rs
  | .var i, e, h => match e[i]? with
    | some (.val _) => .ok (.slot i) e h
    | some (.own _) => .ok (.slot i) e h
    | _ => .stuck
  | .con v, e, h => .ok (.v v false) e h
  | .bin op a b, e, h => (evA a e h).bind fun ra e1 h1 => (evA b e1 h1).bind fun rb e2 h2 =>
      match rd ra e2 h2, rd rb e2 h2 with
      | some x, some y => match opBin op x y with
        | some (z, fr) => .ok (.v z fr) e2 h2
        | none => .stuck
      | _, _ => .stuck
  | .neg a, e, h => (evA a e h).bind fun ra e1 h1 => match rd ra e1 h1 with
      | some (.int i) => .ok (.v (.int (-i)) false) e1 h1
      | _ => .stuck
  | .cmp op a b, e, h => (evA a e h).bind fun ra e1 h1 => (evA b e1 h1).bind fun rb e2 h2 =>
      match rd ra e2 h2, rd rb e2 h2 with
      | some x, some y => match opCmp op x y with
        | some z => .ok (.v (.bl z) false) e2 h2
        | none => .stuck
      | _, _ => .stuck
  | .chain op op' a b c, e, h => (evA a e h).bind fun ra e1 h1 => (evA b e1 h1).bind fun rb e2 h2 =>
      match rd ra e2 h2, rd rb e2 h2 with
      | some x, some y => match opCmp op x y with
        | some true => (evA c e2 h2).bind fun rc e3 h3 => match rd rb e3 h3, rd rc e3 h3 with
          | some y, some z => match opCmp op' y z with
            | some k => .ok (.v (.bl k) false) e3 h3
            | none => .stuck
          | _, _ => .stuck
        | some false => .ok (.v (.bl false) false) e2 h2
        | none => .stuck
      | _, _ => .stuck
  | .and a b, e, h => (evA a e h).bind fun ra e1 h1 => match (rd ra e1 h1).bind truthy with
      | some true => evA b e1 h1
      | some false => .ok ra e1 h1
      | none => .stuck
  | .or a b, e, h => (evA a e h).bind fun ra e1 h1 => match (rd ra e1 h1).bind truthy with
      | some true => .ok ra e1 h1
      | some false => evA b e1 h1
      | none => .stuck
  | .not a, e, h => (evA a e h).bind fun ra e1 h1 => match (rd ra e1 h1).bind truthy with
      | some k => .ok (.v (.bl (!k)) false) e1 h1
      | none => .stuck
  | .ite c a b, e, h => (evT c e h).bind fun k e1 h1 => if k = true then evA a e1 h1 else evA b e1 h1
  | .cell a, e, h => (evA a e h).bind fun r e1 h1 => match r with
      | .v (.lst xs) true => .ok (.v (.ref h1.length) false) e1 (h1 ++ [.lst xs])
      | _ => .stuck
  | .dic0, e, h => .ok (.v (.dic [] []) false) e h
  | .lst es, e, h => (evL es e h).bind fun ps e1 h1 => .ok (.v (.lst ps) true) e1 h1
  | .tup es, e, h => (evL es e h).bind fun ps e1 h1 => .ok (.v (.tup ps) false) e1 h1
  | .idx a b, e, h => (evA a e h).bind fun ra e1 h1 => (evA b e1 h1).bind fun rb e2 h2 =>
      match rd ra e2 h2, rd rb e2 h2 with
      | some x, some y => match opIdx x y with
        | some z => .ok (.v z false) e2 h2
        | none => .stuck
      | _, _ => .stuck
  | .sli a lo hi, e, h => (evA a e h).bind fun ra e1 h1 => (evO lo e1 h1).bind fun l e2 h2 => (evO hi e2 h2).bind fun u e3 h3 =>
      match rd ra e3 h3 with
      | some x => match opSli x l u with
        | some (z, fr) => .ok (.v z fr) e3 h3
        | none => .stuck
      | none => .stuck
  | .call f perm es, e, h => (evL es e h).bind fun ps e1 h1 => match C f (permute perm ps) h1 with
      | .ret p fr h2 => .ok (.v p fr) e1 h2
      | .exc c fs h2 => .exc c fs e1 h2
      | .stuck => .stuck
  | .bcall b es, e, h => (evR es e h).bind fun rs e1 h1 => match rs.mapM (fun r => rd r e1 h1) with
      | some xs => match opB b xs with
        | some (z, fr) => .ok (.v z fr) e1 h1
        | none => .stuck
      | none => .stuck
  | .isi a ts, e, h => (evA a e h).bind fun ra e1 h1 => match (rd ra e1 h1).bind typeName with
      | some n => .ok (.v (.bl (isAny n ts)) false) e1 h1
      | none => .stuck
  | .meth m o es, e, h => (evA o e h).bind fun ro e1 h1 => match mut? ro e1 h1 with
      | some _ => (evL es e1 h1).bind fun as e2 h2 => match mut? ro e2 h2 with
        | some xs => match opM m xs as with
          | some (z, ys) => let st := put ro ys e2 h2; .ok (.v z false) st.1 st.2
          | none => .stuck
        | none => .stuck
      | none => .stuck
  | .lc own tg it ifs body, e, h => (evI it e h).bind fun xs e1 h1 =>
      let e0 := frzAt own e1
      match (lcLoop xs.2 (fun x e h => match bindT tg x (wipeE own e) with
        | some e' => (evT ifs e' h).bind fun k e2 h2 => if k = true then evM body e2 h2 else .ok [] e2 h2
        | none => .stuck) xs.1 e0 h1).noex with
      | .ok ps e2 h2 => if ps.length ≤ line then .ok (.v (.lst ps) true) (backE own e0 e2) h2 else .stuck
      | _ => .stuck
  | _, _, _ => .stuck
/-- the comprehension's innermost part: one element, or a further clause -/
def evM : Ex → Env → Hs → Out (List PV)
  | .one a, e, h => (evA a e h).bind fun r e1 h1 => match esc r e1 with
      | some (p, _, e2) => .ok [p] e2 h1
      | none => .stuck
  | .lcin tg it ifs body, e, h => (evI it e h).bind fun xs e1 h1 =>
      lcLoop xs.2 (fun x e h => match bindT tg x (wipeE (tgIs tg) e) with
        | some e' => (evT ifs e' h).bind fun k e2 h2 => if k = true then evM body e2 h2 else .ok [] e2 h2
        | none => .stuck) xs.1 e1 h1
  | _, _, _ => .stuck
/-- a test -/
def evT : Ex → Env → Hs → Out Bool
  | .nil, e, h => .ok true e h
  | .not a, e, h => (evT a e h).bind fun k e1 h1 => .ok (!k) e1 h1
  | .and a b, e, h => (evT a e h).bind fun k e1 h1 => if k = true then evT b e1 h1 else .ok false e1 h1
  | .or a b, e, h => (evT a e h).bind fun k e1 h1 => if k = true then .ok true e1 h1 else evT b e1 h1
  | .ite c a b, e, h => (evT c e h).bind fun k e1 h1 => if k = true then evT a e1 h1 else evT b e1 h1
  | a, e, h => (evA a e h).bind fun ra e1 h1 => lift ((rd ra e1 h1).bind truthy) e1 h1
/-- values that are handed on -/
def evL : Ex → Env → Hs → Out (List PV)
  | .nil, e, h => .ok [] e h
  | .cons a es, e, h => (evA a e h).bind fun r e1 h1 => match esc r e1 with
      | some (p, _, e2) => (evL es e2 h1).bind fun ps e3 h3 => .ok (p :: ps) e3 h3
      | none => .stuck
  | _, _, _ => .stuck
/-- values that are looked at -/
def evR : Ex → Env → Hs → Out (List Rs)
  | .nil, e, h => .ok [] e h
  | .cons a es, e, h => (evA a e h).bind fun r e1 h1 => (evR es e1 h1).bind fun rs e2 h2 => .ok (r :: rs) e2 h2
  | _, _, _ => .stuck
/-- a slice's part -/
def evO : Ex → Env → Hs → Out (Option Int)
  | .nil, e, h => .ok none e h
  | a, e, h => (evA a e h).bind fun ra e1 h1 => match rd ra e1 h1 with
      | some (.int i) => .ok (some i) e1 h1
      | _ => .stuck
/-- what is walked -/
def evI : Ex → Env → Hs → Out (List PV × Gd)
  | .iseq a, e, h => (evA a e h).bind fun r e1 h1 => match esc r e1 with
      | some (p, _, e2) => lift (seqOf h1 p) e2 h1
      | none => .stuck
  | .irng1 a, e, h => (evA a e h).bind fun ra e1 h1 => match rd ra e1 h1 with
      | some (.int j) => if small62 j = true then .ok (rngItems 0 j, []) e1 h1 else .stuck
      | _ => .stuck
  | .irng2 a b, e, h => (evA a e h).bind fun ra e1 h1 => (evA b e1 h1).bind fun rb e2 h2 => match rd ra e2 h2, rd rb e2 h2 with
      | some (.int i), some (.int j) => if small62 i = true ∧ small62 j = true then .ok (rngItems i j, []) e2 h2 else .stuck
      | _, _ => .stuck
  | .izip a b, e, h => (evA a e h).bind fun ra e1 h1 => match esc ra e1 with
      | some (p, _, e2) => (evA b e2 h1).bind fun rb e3 h3 => match esc rb e3 with
        | some (q, _, e4) => match p, q with
          | .tup xs, .tup ys => .ok (zipItems xs ys, []) e4 h3
          | p, q => match lstOf h3 p, lstOf h3 q with
            | some xs, some ys => .ok (zipItems xs.1 ys.1, xs.2 ++ ys.2) e4 h3
            | _, _ => .stuck
        | none => .stuck
      | none => .stuck
  | .ienum a, e, h => (evA a e h).bind fun r e1 h1 => match esc r e1 with
      | some (.tup xs, _, e2) => .ok (enumItems xs, []) e2 h1
      | some (p, _, e2) => match lstOf h1 p with
        | some xs => .ok (enumItems xs.1, xs.2) e2 h1
        | none => .stuck
      | none => .stuck
  | _, _, _ => .stuck
end

inductive Fl where
  | next | brk | cont
  | ret (p : PV) (fresh : Bool)

def mk (p : PV) (fr : Bool) : SV :=
  match p with
  | .lst xs => if fr then .own (.lst xs) else .val (.lst xs)
  | p => .val p
def forLoop (gd : Gd) (f : PV → Env → Hs → Out Fl) : List PV → Env → Hs → Out Fl
  | [], e, h => if gdOk gd h = true then .ok .next e h else .stuck
  | x :: xs, e, h => if gdOk gd h = true then (f x e h).bind fun r e1 h1 => match r with
    | .next => forLoop gd f xs e1 h1
    | .cont => forLoop gd f xs e1 h1
    | .brk => .ok .next e1 h1
    | .ret p fr => .ok (.ret p fr) e1 h1 else .stuck
def whLoop (c : Env → Hs → Out Bool) (b : Env → Hs → Out Fl) : Nat → Env → Hs → Out Fl
  | 0, _, _ => .stuck
  | n + 1, e, h => (c e h).bind fun k e1 h1 => if k = true then (b e1 h1).bind fun r e2 h2 => match r with
      | .next => whLoop c b n e2 h2
      | .cont => whLoop c b n e2 h2
      | .brk => .ok .next e2 h2
      | .ret p fr => .ok (.ret p fr) e2 h2
    else .ok .next e1 h1
def LF : Nat := 16777216
def evS : Sm → Env → Hs → Out Fl
  | .stuck, _, _ => .stuck
  | .skip, e, h => .ok .next e h
  | .asg i a, e, h => (evA C a e h).bind fun r e1 h1 => match esc r e1 with
      | some (p, fr, e2) => if i < e2.length then .ok .next (e2.set i (mk p fr)) h1 else .stuck
      | none => .stuck
  | .tasg tg a, e, h => (evA C a e h).bind fun r e1 h1 => match esc r e1 with
      | some (p, _, e2) => lift ((bindT tg p e2).map fun _ => Fl.next) ((bindT tg p e2).getD e2) h1
      | none => .stuck
  | .par i j a b, e, h => (evA C a e h).bind fun r e1 h1 => match esc r e1 with
      | some (p, fr, e2) => (evA C b e2 h1).bind fun r3 e3 h3 => match esc r3 e3 with
        | some (q, fr', e4) => if i < e4.length ∧ j < e4.length then .ok .next ((e4.set i (mk p fr)).set j (mk q fr')) h3 else .stuck
        | none => .stuck
      | none => .stuck
  | .seti o i a, e, h => (evA C a e h).bind fun r e1 h1 => match esc r e1 with
      | some (p, _, e2) => (evA C o e2 h1).bind fun ro e3 h3 => (evA C i e3 h3).bind fun ri e4 h4 =>
        match mut? ro e4 h4, rd ri e4 h4 with
        | some xs, some (.int k) => match ixN xs.length k with
          | some j => let st := put ro (xs.set j p) e4 h4; .ok .next st.1 st.2
          | none => .stuck
        | _, _ => .stuck
      | none => .stuck
  | .expr a, e, h => (evA C a e h).bind fun _ e1 h1 => .ok .next e1 h1
  | .ite c a b, e, h => (evT C c e h).bind fun k e1 h1 => if k = true then evS a e1 h1 else evS b e1 h1
  | .seq a b, e, h => (evS a e h).bind fun r e1 h1 => match r with
      | .next => evS b e1 h1
      | r => .ok r e1 h1
  | .for_ tg it body, e, h => (evI C it e h).bind fun xs e1 h1 => forLoop xs.2 (fun x e h => match bindT tg x e with
      | some e' => evS body e' h
      | none => .stuck) xs.1 e1 h1
  | .while_ c body, e, h => whLoop (fun e h => evT C c e h) (fun e h => evS body e h) LF e h
  | .ret a, e, h => (evA C a e h).bind fun r e1 h1 => match r with
      | .slot i => match e1[i]? with
        | some (.val v) => .ok (.ret v false) e1 h1
        | some (.own v) => .ok (.ret v true) (e1.set i .no) h1
        | _ => .stuck
      | .v p fr => .ok (.ret p fr) e1 h1
  | .brk, e, h => .ok .brk e h
  | .cont, e, h => .ok .cont e h
  | .raise c es, e, h => (evL C es e h).bind fun ps e1 h1 => .exc c ps e1 h1
end

/-- a def -/
structure Fn where
  np : Nat
  ns : Nat
  body : Sm
def finish : Out Fl → Ret
  | .ok (.ret p fr) _ h => .ret p fr h
  | .ok .next _ h => .ret .non false h
  | .exc c fs _ h => .exc c fs h
  | _ => .stuck
def envOf (d : Fn) (args : List PV) : Env := args.map .val ++ List.replicate (d.ns - d.np) .no
def callN (G : List Fn) : Nat → Calls
  | 0 => fun _ _ _ => .stuck
  | k + 1 => fun f args h => match G[f]? with
    | some d => if args.length = d.np then finish (evS (callN G k) d.body (envOf d args) h) else .stuck
    | none => .stuck
end PL

namespace PL
open PySem L2

/-- what the compiler knows -/
structure Sc where
  N : List Str
  sc : Scope
  blk : Bool
  asg : Str → Bool
  defs : List (Str × List Str)
  clss : List (Str × Nat)
  free : List Str
  cel : Bool
  kws : List (Nat × Nat × List Str × List Nat)

def visB (sc : Scope) (x : Str) : Bool := match sc.names.lookup x with
  | some .local => true
  | some .cell => true
  | some .free => true
  | _ => false
def locB (sc : Scope) (x : Str) : Bool := match sc.names.lookup x with
  | some .local => true
  | some .cell => true
  | _ => false
def glB (sc : Scope) (x : Str) : Bool := match sc.names.lookup x with
  | some .globalImplicit => true
  | _ => false
def okName (x : Str) : Bool := !(x == ("__debug__" : Str)) && !(x == ("__classdict__" : Str)) && !(x == ("__name__" : Str))

def idxOf? (x : Str) : List Str → Option Nat
  | [] => none
  | y :: r => if x = y then some 0 else (idxOf? x r).map (· + 1)
def defOf? (x : Str) : List (Str × List Str) → Option (Nat × List Str)
  | [] => none
  | (y, ps) :: r => if x = y then some (0, ps) else (defOf? x r).map fun z => (z.1 + 1, z.2)
def clsOf? (x : Str) : List (Str × Nat) → Option (Nat × Nat)
  | [] => none
  | (y, k) :: r => if x = y then some (0, k) else (clsOf? x r).map fun z => (z.1 + 1, z.2)

def cName (S : Sc) (x : Str) : Ex :=
  if okName x then
    if visB S.sc x then (match idxOf? x S.N with | some i => .var i | none => .stuck)
    else if glB S.sc x then (match defOf? x S.defs with | some (i, _) => .con (.fn i) | none => .stuck)
    else .stuck
  else .stuck
def cConst : Const → Ex
  | .none => .con .non
  | .bool b => .con (.bl b)
  | .int i => .con (.int i)
  | .str s => .con (.str s)
  | _ => .stuck
def cBop : Operator → Option Bop
  | .Add => some .add
  | .Sub => some .sub
  | .Mult => some .mul
  | .FloorDiv => some .fdiv
  | .Mod => some .mod
  | .Pow => some .pow
  | _ => none
def cCop : CmpOp → Option Cop
  | .Eq => some .eq
  | .NotEq => some .ne
  | .Lt => some .lt
  | .LtE => some .le
  | .Gt => some .gt
  | .GtE => some .ge
  | .Is => some .is_
  | .IsNot => some .isnot
  | .In => some .in_
  | .NotIn => some .notin
/-- a list that is made here is a cell -/
def celIf (S : Sc) (e : Ex) : Ex := if S.cel = true then .cell e else e
def isSetE : Expr → Bool
  | .Set .. => true
  | _ => false
def isStarE : Expr → Bool
  | .Starred .. => true
  | _ => false
def isSliceE : Expr → Bool
  | .Slice .. => true
  | _ => false

def cList (f : Expr → Ex) : List Expr → Ex
  | [] => .nil
  | e :: r => .cons (f e) (cList f r)
def cBools (op : BoolOp) (f : Expr → Ex) : List Expr → Ex
  | [] => .stuck
  | [a] => f a
  | a :: b :: r => match op with
    | .And => .and (f a) (cBools op f (b :: r))
    | .Or => .or (f a) (cBools op f (b :: r))

def bnOf (x : Str) : Option (Bn × Nat × Nat) :=
  if x = ("len" : Str) then some (.len, 1, 1) else
  if x = ("all" : Str) then some (.all, 1, 1) else
  if x = ("any" : Str) then some (.any, 1, 1) else
  if x = ("sum" : Str) then some (.sum, 1, 1) else
  if x = ("abs" : Str) then some (.abs, 1, 1) else
  if x = ("int" : Str) then some (.int, 1, 1) else
  if x = ("list" : Str) then some (.list, 1, 1) else
  if x = ("tuple" : Str) then some (.tuple, 1, 1) else
  if x = ("max" : Str) then some (.max, 2, 2) else
  if x = ("min" : Str) then some (.min, 2, 2) else none
/-- the plain types that isinstance is asked of -/
def tyName (S : Sc) (x : Str) : Option String :=
  if okName x && glB S.sc x && S.free.contains x then
    (if x = ("int" : Str) then some "int" else if x = ("bool" : Str) then some "bool" else if x = ("str" : Str) then some "str"
     else if x = ("list" : Str) then some "list" else if x = ("tuple" : Str) then some "tuple" else if x = ("dict" : Str) then some "dict" else none)
  else none
def tyNames (S : Sc) : List Expr → Option (List String)
  | [] => some []
  | .Name x _ :: r => match tyName S x, tyNames S r with
    | some n, some ns => some (n :: ns)
    | _, _ => none
  | _ :: _ => none
/-- the names of keywords, all of them written -/
def kwNames : List Keyword → Option (List Str)
  | [] => some []
  | ⟨some n, _, _⟩ :: r => (kwNames r).map (n :: ·)
  | ⟨none, _, _⟩ :: _ => none
/-- which written argument goes to which parameter -/
def permOf (ps : List Str) (n : Nat) (ks : List Str) : Option (List Nat) :=
  (List.range ps.length).mapM fun i => if i < n then some i else match ps[i]? with
    | some x => (idxOf? x ks).map (· + n)
    | none => none

def mnOf (m : Str) (n : Nat) : Option Mn :=
  if m = ("append" : Str) && n = 1 then some .append else
  if m = ("extend" : Str) && n = 1 then some .extend else
  if m = ("pop" : Str) && n = 0 then some .pop else
  if m = ("pop" : Str) && n = 1 then some .popAt else none

/-- a name, or an item -/
def plainObj : Expr → Bool
  | .Name .. => true
  | .Subscript .. => true
  | _ => false
def cTg (S : Sc) : Nat → Expr → Option Tg
  | 0, _ => none
  | n + 1, .Name x _ => if okName x && locB S.sc x && S.asg x then (idxOf? x S.N).map .nm else none
  | n + 1, .Tuple es _ _ => if es.all fun e => !isStarE e then
      (es.foldr (fun e t => match cTg S n e, t with | some a, some b => some (.cons a b) | _, _ => none) (some Tg.nil)).map .tp else none
  | _, _ => none
/-- the slots of a block's own names -/
def ownOf (N : List Str) (scope : Scope) : List (Str × Nat) :=
  scope.names.filterMap fun y => match y.2 with
    | .local => (idxOf? y.1 N).map fun i => (y.1, i)
    | .cell => (idxOf? y.1 N).map fun i => (y.1, i)
    | _ => none
def inBlk (S : Sc) (scope : Scope) : Sc :=
  { S with sc := relS scope S.sc, blk := true, asg := fun x => scope.names.lookup x == some .cell || scope.names.lookup x == some .local }
section
variable (f : Sc → Expr → Ex) (S : Sc)
def cIt (it : Expr) (tup : Bool) : Ex :=
  match it with
  | .Call (.Name x p) es kws pos =>
    if glB S.sc x && okName x && S.free.contains x && kws.isEmpty && es.all fun e => !isStarE e then
      (if x = ("range" : Str) then (match es with
        | [a] => .irng1 (f S a)
        | [a, b] => .irng2 (f S a) (f S b)
        | _ => .stuck)
       else if x = ("zip" : Str) && tup then (match es with
        | [a, b] => .izip (f S a) (f S b)
        | _ => .stuck)
       else if x = ("enumerate" : Str) && tup then (match es with
        | [a] => .ienum (f S a)
        | _ => .stuck)
       else .iseq (f S (.Call (.Name x p) es kws pos)))
    else .iseq (f S (.Call (.Name x p) es kws pos))
  | .Set .. => .stuck
  | e => .iseq (f S e)
def isTup : Expr → Bool
  | .Tuple .. => true
  | _ => false
def cIfs (ifs : List Expr) : Ex :=
  match ifs with
  | [] => .nil
  | [c] => f S c
  | _ => .stuck
def cCall (x : Str) (es : List Expr) (kws : List Keyword) : Ex :=
  if okName x && glB S.sc x && es.all fun e => !isStarE e then
    match defOf? x S.defs with
    | some (i, ps) => match kwNames kws with
      | some ks => if kws.isEmpty then (if es.length = ps.length then .call i [] (cList (f S) es) else .stuck)
        else if es.length + ks.length = ps.length then (match permOf ps es.length ks with
          | some perm => if (i, es.length, ks, perm) ∈ S.kws ∧ perm ≠ [] then .call i perm (cList (f S) (es ++ kws.map (·.value))) else .stuck
          | none => .stuck) else .stuck
      | none => .stuck
    | none => if S.free.contains x && kws.isEmpty then
        (if x = ("isinstance" : Str) then (match es with
          | [a, .Name y _] => (match tyName S y with | some n => .isi (f S a) [n] | none => .stuck)
          | [a, .Tuple ys _ _] => if ys.length ≤ 1000 then (match tyNames S ys with | some ns => .isi (f S a) ns | none => .stuck) else .stuck
          | _ => .stuck)
         else match bnOf x with
          | some (b, lo, hi) => if lo ≤ es.length ∧ es.length ≤ hi then (if b = .list then celIf S (.bcall b (cList (f S) es)) else .bcall b (cList (f S) es)) else .stuck
          | none => .stuck)
      else .stuck
  else .stuck
def cComp (elt : Expr) (gs : List Comprehension) (scope : Scope) : Ex :=
  let own := ownOf S.N scope
  let S' := inBlk S scope
  if blkC S.N S.sc scope own then
    match gs with
    | [⟨tg, it, ifs, 0⟩] => if isSetE it then .stuck else match cTg S' 8 tg with
      | some t => if (tgIs t).all (own.map (·.2)).contains then .lc (own.map (·.2)) t (cIt f S it (isTup tg)) (cIfs f S' ifs) (.one (f S' elt)) else .stuck
      | none => .stuck
    | [⟨tg, it, ifs, 0⟩, ⟨tg1, it1, ifs1, 0⟩] => if isSetE it || isSetE it1 then .stuck else match cTg S' 8 tg, cTg S' 8 tg1 with
      | some t, some t1 => if (tgIs t).all (own.map (·.2)).contains && (tgIs t1).all (own.map (·.2)).contains && (tgIs t).all (fun i => !(tgIs t1).contains i) then
          .lc (own.map (·.2)) t (cIt f S it (isTup tg)) (cIfs f S' ifs) (.lcin t1 (cIt f S' it1 (isTup tg1)) (cIfs f S' ifs1) (.one (f S' elt))) else .stuck
      | _, _ => .stuck
    | _ => .stuck
  else .stuck
end
def cE : Nat → Sc → Expr → Ex
  | 0, _, _ => .stuck
  | n + 1, S, e => match e with
    | .Name x _ => cName S x
    | .Constant c _ _ => cConst c
    | .BinOp a op b _ => (match cBop op with | some o => .bin o (cE n S a) (cE n S b) | none => .stuck)
    | .UnaryOp .USub a _ => .neg (cE n S a)
    | .UnaryOp .Not a _ => .not (cE n S a)
    | .BoolOp op vs _ => cBools op (cE n S) vs
    | .Compare a [op] [b] _ => (match cCop op with | some o => if isSetE b then .stuck else .cmp o (cE n S a) (cE n S b) | none => .stuck)
    | .Compare a [op, op'] [b, c] _ => (match cCop op, cCop op' with
        | some o, some o' => if isSetE b || isSetE c then .stuck else .chain o o' (cE n S a) (cE n S b) (cE n S c)
        | _, _ => .stuck)
    | .IfExp c a b _ => .ite (cE n S c) (cE n S a) (cE n S b)
    | .List es _ => if es.length ≤ 1000 && es.all fun e => !isStarE e then celIf S (.lst (cList (cE n S) es)) else .stuck
    | .Tuple es _ _ => if es.length ≤ 1000 && es.all fun e => !isStarE e then .tup (cList (cE n S) es) else .stuck
    | .Dict [] [] _ => .dic0
    | .Subscript a (.Slice lo hi none _) _ => .sli (cE n S a) (match lo with | some l => cE n S l | none => .nil) (match hi with | some l => cE n S l | none => .nil)
    | .Subscript a b _ => if isSliceE b then .stuck else .idx (cE n S a) (cE n S b)
    | .Call (.Name x _) es kws _ => cCall (cE n) S x es kws
    | .Call (.Attribute o m apos) es [] pos => if plainObj o && apos.endLine == pos.line && decide (es.length ≤ 4) && es.all fun e => !isStarE e then
        (match mnOf m es.length with | some k => .meth k (cE n S o) (cList (cE n S) es) | none => .stuck) else .stuck
    | .ListComp elt gs scope _ => celIf S (cComp (cE n) S elt gs scope)
    | _ => .stuck

def isLC : Expr → Bool
  | .ListComp .. => true
  | .SetComp .. => true
  | .DictComp .. => true
  | _ => false
/-- plain local names in a row -/
def swapOk (ts : List Expr) (vs : List Expr) (S : Sc) : Bool := true

def cSeq : List Sm → Sm
  | [] => .skip
  | [s] => s
  | s :: r => .seq s (cSeq r)
/-- a comprehension is stored ahead of its block's end -/
def lcFits (S : Sc) (x : Str) (px : Pos) : Expr → Bool
  | .ListComp _ _ s p => !(S.sc.names.lookup x == some .local) || ((S.sc.names.lookup x == some .local) && (px.line == p.line) && !(s.names.any fun (n, k) => n == x && (k == .local || k == .cell)))
  | .SetComp .. => false
  | .DictComp .. => false
  | _ => true
/-- two names in a row, two values -/
def parFits (S : Sc) (x y : Str) (px py : Pos) (a b : Expr) : Bool := (S.sc.names.lookup x == some .local) && (S.sc.names.lookup y == some .local) && (px.line == py.line) && decide (x ≠ y) && !isStarE a && !isStarE b && !(foldedForSure 8 a && foldedForSure 8 b) && !(constantsAlone 8 a && constantsAlone 8 b)
section
variable (n : Nat) (S : Sc)
def cAssign (tg : Expr) (e : Expr) : Sm :=
  match tg with
  | .Name x px => if okName x && locB S.sc x && S.asg x && lcFits S x px e then (match idxOf? x S.N with | some i => .asg i (cE n S e) | none => .stuck) else .stuck
  | .Subscript o i _ => if isLC e || isSliceE i then .stuck else .seti (cE n S o) (cE n S i) (cE n S e)
  | .Tuple [.Name x px, .Name y py] k pt => (match e with
    | .Tuple [a, b] _ _ => if !parFits S x y px py a b then .stuck else (match idxOf? x S.N, idxOf? y S.N with
      | some i, some j => if i = j then .stuck else .par i j (cE n S a) (cE n S b)
      | _, _ => .stuck)
    | .Tuple .. => .stuck
    | e => if isLC e then .stuck else (match cTg S 8 (.Tuple [.Name x px, .Name y py] k pt) with | some t => .tasg t (cE n S e) | none => .stuck))
  | .Tuple ts k pt => (match e with
    | .Tuple .. => .stuck
    | e => if isLC e then .stuck else (match cTg S 8 (.Tuple ts k pt) with | some t => .tasg t (cE n S e) | none => .stuck))
  | _ => .stuck
end
def cS : Nat → Sc → Stmt → Sm
  | 0, _, _ => .stuck
  | n + 1, S, st => match st with
    | .Pass _ => .skip
    | .Break _ => .brk
    | .Continue _ => .cont
    | .Expr (.Constant (.str _) _ _) _ => .skip
    | .Expr e _ => if isLC e then .stuck else .expr (cE 60 S e)
    | .Assign [tg] e _ => cAssign 60 S tg e
    | .If c a b _ => .ite (cE 60 S c) (cSeq (a.map (cS n S))) (cSeq (b.map (cS n S)))
    | .For tg it body [] _ => if isSetE it then .stuck else (match cTg S 8 tg with
        | some t => .for_ t (cIt (cE 60) S it (isTup tg)) (cSeq (body.map (cS n S)))
        | none => .stuck)
    | .While c body [] _ => .while_ (cE 60 S c) (cSeq (body.map (cS n S)))
    | .Return none _ => .ret (.con .non)
    | .Return (some e) _ => .ret (cE 60 S e)
    | _ => .stuck
def cBody (S : Sc) (b : List Stmt) : Sm := cSeq (b.map (cS 60 S))
end PL

/-! What a plain value stands for in the abstract heap; the state; the operators. -/
namespace PL
open PySem PySem.Spec PyProof.Rows L2

/-- what of the text is known -/
structure Tx where
  P : Program
  w : World
  K : PySem.W.Frag
  mg : Str → Option Value
  base : Heap
  fnA : Nat → Option Addr

/-- ghosts: what is never written any more; where the cells stand -/
structure Gh where
  F : Addr → Prop
  ce : List Addr

def KTup (K : PySem.W.Frag) (a : Addr) (xs : List V) : Prop :=
  ∃ (o : Obj) (its : Array Value) (n : Nat), K.lookup a = some o ∧ o.cls = .type "tuple" ∧ o.data = .seq its n ∧ its.size ≤ sizeLine ∧ Vals xs its.toList

def KLst (K : PySem.W.Frag) (a : Addr) (xs : List V) : Prop :=
  ∃ (o : Obj) (its : Array Value) (n : Nat), K.lookup a = some o ∧ o.cls = .type "list" ∧ o.dict = none ∧ o.data = .seq its n ∧ its.size ≤ sizeLine ∧ Vals xs its.toList

mutual
inductive Tr (T : Tx) (g : Gh) (H : Hp) : PV → V → Prop
  | non : Tr T g H .non .non
  | bl (b : Bool) : Tr T g H (.bl b) (.bl b)
  | int (i : Int) : Tr T g H (.int i) (.int i)
  | str (s : Str) : Tr T g H (.str s) (.str s)
  | ty (n : String) : Tr T g H (.ty n) (.ty n)
  | fn {i : Nat} {f : Addr} (h : T.fnA i = some f) : Tr T g H (.fn i) (.ref f)
  | ref {n : Nat} {a : Addr} (h : g.ce[n]? = some a) : Tr T g H (.ref n) (.ref a)
  | scr {a : Addr} {o : Obj} {xs : List PV} {vs : List V} (hF : g.F a) (h : H a = some (.frz o (.lst vs))) (hl : vs.length ≤ sizeLine) (r : TrL T g H xs vs) : Tr T g H (.scr xs) (.ref a)
  | scrK {a : Addr} {xs : List PV} {vs : List V} (h : KLst T.K a vs) (hl : vs.length ≤ sizeLine) (r : TrL T g H xs vs) : Tr T g H (.scr xs) (.ref a)
  | lst {a : Addr} {xs : List PV} {vs : List V} (hF : g.F a) (h : H a = some (.lst vs)) (hl : vs.length ≤ sizeLine) (r : TrL T g H xs vs) : Tr T g H (.lst xs) (.ref a)
  | tup {a : Addr} {xs : List PV} {vs : List V} (hF : g.F a) (h : H a = some (.tup vs)) (hl : vs.length ≤ sizeLine) (r : TrL T g H xs vs) : Tr T g H (.tup xs) (.ref a)
  | tupK {a : Addr} {xs : List PV} {vs : List V} (h : KTup T.K a vs) (r : TrL T g H xs vs) : Tr T g H (.tup xs) (.ref a)
  | dic {a : Addr} {ks : List Key} {xs : List PV} {vs : List V} (hF : g.F a) (h : H a = some (.dK (ks.zip vs))) (hl : ks.length = vs.length) (r : TrL T g H xs vs) : Tr T g H (.dic ks xs) (.ref a)
inductive TrL (T : Tx) (g : Gh) (H : Hp) : List PV → List V → Prop
  | nil : TrL T g H [] []
  | cons {p : PV} {v : V} {ps : List PV} {vs : List V} (h : Tr T g H p v) (t : TrL T g H ps vs) : TrL T g H (p :: ps) (v :: vs)
end

structure Ext (g : Gh) (H : Hp) (g' : Gh) (H' : Hp) : Prop where
  F : ∀ a, g.F a → g'.F a
  H : ∀ a, g.F a → H' a = H a
  ce : ∃ l, g'.ce = g.ce ++ l

theorem Ext.refl (g : Gh) (H : Hp) : Ext g H g H := ⟨fun _ h => h, fun _ _ => rfl, [], by simp⟩
theorem Ext.trans {g g1 g2 : Gh} {H H1 H2 : Hp} (a : Ext g H g1 H1) (b : Ext g1 H1 g2 H2) : Ext g H g2 H2 := by
  obtain ⟨l, e⟩ := a.ce
  obtain ⟨l', e'⟩ := b.ce
  exact ⟨fun x h => b.F x (a.F x h), fun x h => (b.H x (a.F x h)).trans (a.H x h), l ++ l', by rw [e', e, List.append_assoc]⟩

section
variable {T : Tx} {g g' : Gh} {H H' : Hp}
theorem ce_ext (e : Ext g H g' H') {n : Nat} {a : Addr} (h : g.ce[n]? = some a) : g'.ce[n]? = some a := by
  obtain ⟨l, q⟩ := e.ce
  rw [q, List.getElem?_append_left (List.getElem?_eq_some_iff.mp h).1]
  exact h
mutual
theorem Tr.ext (e : Ext g H g' H') : ∀ {p : PV} {v : V}, Tr T g H p v → Tr T g' H' p v
  | _, _, .non => .non
  | _, _, .bl b => .bl b
  | _, _, .int i => .int i
  | _, _, .str s => .str s
  | _, _, .ty n => .ty n
  | _, _, .fn h => .fn h
  | _, _, .ref h => .ref (ce_ext e h)
  | _, _, .scr hF h hl r => .scr (e.F _ hF) ((e.H _ hF).trans h) hl (TrL.ext e r)
  | _, _, .scrK h hl r => .scrK h hl (TrL.ext e r)
  | _, _, .lst hF h hl r => .lst (e.F _ hF) ((e.H _ hF).trans h) hl (TrL.ext e r)
  | _, _, .tup hF h hl r => .tup (e.F _ hF) ((e.H _ hF).trans h) hl (TrL.ext e r)
  | _, _, .tupK h r => .tupK h (TrL.ext e r)
  | _, _, .dic hF h hl r => .dic (e.F _ hF) ((e.H _ hF).trans h) hl (TrL.ext e r)
theorem TrL.ext (e : Ext g H g' H') : ∀ {ps : List PV} {vs : List V}, TrL T g H ps vs → TrL T g' H' ps vs
  | _, _, .nil => .nil
  | _, _, .cons h t => .cons (Tr.ext e h) (TrL.ext e t)
end
theorem TrL.length : ∀ {ps : List PV} {vs : List V}, TrL T g H ps vs → ps.length = vs.length
  | _, _, .nil => rfl
  | _, _, .cons _ t => by simp [TrL.length t]
theorem TrL.get : ∀ {ps : List PV} {vs : List V} {i : Nat} {p : PV}, TrL T g H ps vs → ps[i]? = some p → ∃ v, vs[i]? = some v ∧ Tr T g H p v
  | _, _, _, _, .nil, e => by simp at e
  | _, _, 0, _, .cons h _, e => by simp at e; subst e; exact ⟨_, rfl, h⟩
  | _, _, i + 1, p, .cons _ t, e => by
    obtain ⟨v, h1, h2⟩ := TrL.get (i := i) (p := p) t (by simpa using e)
    exact ⟨v, by simpa using h1, h2⟩
theorem TrL.getV : ∀ {ps : List PV} {vs : List V} {i : Nat} {v : V}, TrL T g H ps vs → vs[i]? = some v → ∃ p, ps[i]? = some p ∧ Tr T g H p v
  | _, _, _, _, .nil, e => by simp at e
  | _, _, 0, _, .cons h _, e => by simp at e; subst e; exact ⟨_, rfl, h⟩
  | _, _, i + 1, p, .cons _ t, e => by
    obtain ⟨v, h1, h2⟩ := TrL.getV (i := i) (v := p) t (by simpa using e)
    exact ⟨v, by simpa using h1, h2⟩
theorem TrL.append : ∀ {ps qs : List PV} {vs ws : List V}, TrL T g H ps vs → TrL T g H qs ws → TrL T g H (ps ++ qs) (vs ++ ws)
  | _, _, _, _, .nil, s => s
  | _, _, _, _, .cons h t, s => .cons h (TrL.append t s)
theorem TrL.take : ∀ {ps : List PV} {vs : List V} (n : Nat), TrL T g H ps vs → TrL T g H (ps.take n) (vs.take n)
  | _, _, 0, _ => .nil
  | _, _, _ + 1, .nil => .nil
  | _, _, n + 1, .cons h t => .cons h (TrL.take n t)
theorem TrL.drop : ∀ {ps : List PV} {vs : List V} (n : Nat), TrL T g H ps vs → TrL T g H (ps.drop n) (vs.drop n)
  | _, _, 0, r => r
  | _, _, _ + 1, .nil => .nil
  | _, _, n + 1, .cons _ t => TrL.drop n t
theorem TrL.set {p : PV} {v : V} (r : Tr T g H p v) : ∀ {ps : List PV} {vs : List V} (i : Nat), TrL T g H ps vs → TrL T g H (ps.set i p) (vs.set i v)
  | _, _, _, .nil => .nil
  | _, _, 0, .cons _ t => .cons r t
  | _, _, i + 1, .cons h t => .cons h (TrL.set r i t)
theorem TrL.dropLast {ps : List PV} {vs : List V} (h : TrL T g H ps vs) : TrL T g H ps.dropLast vs.dropLast := by
  rw [List.dropLast_eq_take, List.dropLast_eq_take, h.length]
  exact h.take _
theorem TrL.eraseIdx : ∀ {ps : List PV} {vs : List V} (i : Nat), TrL T g H ps vs → TrL T g H (ps.eraseIdx i) (vs.eraseIdx i)
  | _, _, _, .nil => .nil
  | _, _, 0, .cons _ t => t
  | _, _, i + 1, .cons h t => .cons h (TrL.eraseIdx i t)
theorem TrL.rep {ps : List PV} {vs : List V} (h : TrL T g H ps vs) : ∀ k : Nat, TrL T g H (List.replicate k ps).flatten (List.replicate k vs).flatten
  | 0 => .nil
  | k + 1 => by
    rw [List.replicate_succ, List.replicate_succ, List.flatten_cons, List.flatten_cons]
    exact h.append (TrL.rep h k)
theorem TrL.nil_iff {ps : List PV} {vs : List V} (r : TrL T g H ps vs) : ps = [] ↔ vs = [] := by
  cases r <;> simp
theorem TrL.ints : ∀ {ps : List PV} {vs : List V} {is : List Int}, TrL T g H ps vs → allInts ps = some is → vs = is.map V.int
  | _, _, _, .nil, e => by simp [allInts] at e; subst e; rfl
  | _, _, is, .cons h t, e => by
    cases h <;> simp [allInts] at e
    obtain ⟨js, e1, rfl⟩ := e
    rw [TrL.ints t e1]; rfl
theorem TrL.bools : ∀ {ps : List PV} {vs : List V} {is : List Bool}, TrL T g H ps vs → allBools ps = some is → vs = is.map V.bl
  | _, _, _, .nil, e => by simp [allBools] at e; subst e; rfl
  | _, _, is, .cons h t, e => by
    cases h <;> simp [allBools] at e
    obtain ⟨js, e1, rfl⟩ := e
    rw [TrL.bools t e1]; rfl
end

/-! ### the state -/
/-- the entry of a def: its heap, what was frozen, the cells -/
structure En where
  He : Hp
  F0 : Addr → Prop
  ce0 : List Addr

/-- a list at a, of these -/
def ListAt (T : Tx) (g : Gh) (H : Hp) (xs : List PV) (a : Addr) : Prop := ∃ vs, H a = some (.lst vs) ∧ vs.length ≤ sizeLine ∧ TrL T g H xs vs
def OwnC (T : Tx) (g : Gh) (H : Hp) : PV → Addr → Prop
  | .lst xs, a => ListAt T g H xs a
  | _, _ => False
structure Owned (T : Tx) (n : En) (g : Gh) (H : Hp) (p : PV) (a : Addr) : Prop where
  nF : ¬ g.F a
  nc : a ∉ g.ce
  ne : n.He a = none
  at_ : OwnC T g H p a
def SlAt (T : Tx) (n : En) (g : Gh) (H : Hp) : SV → Option (Option V) → Prop
  | .no, _ => True
  | .val p, o => ∃ w, o = some (some w) ∧ Tr T g H p w
  | .own p, o => ∃ a, o = some (some (.ref a)) ∧ Owned T n g H p a
def CellAt' (T : Tx) (g : Gh) (H : Hp) : Cell → Addr → Prop
  | .lst xs, a => ListAt T g H xs a

structure Sim (T : Tx) (n : En) (g : Gh) (env : Env) (h : Hs) (σ : List (Option V)) (H : Hp) : Prop where
  len : env.length = σ.length
  fin : ∀ a, g.F a → H a ≠ none
  F0 : ∀ a, n.F0 a → g.F a
  Fn : ∀ a, g.F a → n.F0 a ∨ n.He a = none
  c0 : ∃ l, g.ce = n.ce0 ++ l ∧ ∀ a ∈ l, n.He a = none
  cF : ∀ a ∈ g.ce, ¬ g.F a
  cd : g.ce.Nodup
  cl : h.length = g.ce.length
  cv : ∀ (i : Nat) (c : Cell) (a : Addr), h[i]? = some c → g.ce[i]? = some a → CellAt' T g H c a
  fr : ∀ a, n.He a ≠ none → a ∉ g.ce → H a = n.He a
  sl : ∀ (i : Nat) (s : SV), env[i]? = some s → SlAt T n g H s (σ[i]?)
  od : ∀ (i j : Nat) (p q : PV) (w : V), env[i]? = some (.own p) → env[j]? = some (.own q) → σ[i]? = some (some w) → σ[j]? = some (some w) → i = j

section
variable {T : Tx} {n : En} {g g' : Gh} {H H' : Hp} {env : Env} {h : Hs} {σ : List (Option V)}

theorem ListAt.ext (e : Ext g H g' H') {xs : List PV} {a : Addr} (hH : H' a = H a) (r : ListAt T g H xs a) : ListAt T g' H' xs a := by
  obtain ⟨vs, h1, h2, h3⟩ := r
  exact ⟨vs, hH.trans h1, h2, h3.ext e⟩
theorem OwnC.ext (e : Ext g H g' H') {p : PV} {a : Addr} (hH : H' a = H a) (r : OwnC T g H p a) : OwnC T g' H' p a := by
  cases p <;> simp only [OwnC] at r ⊢
  exact r.ext e hH
theorem ListAt.some {xs : List PV} {a : Addr} (r : ListAt T g H xs a) : H a ≠ none := by
  obtain ⟨vs, h1, _⟩ := r
  rw [h1]; exact fun x => nomatch x
theorem OwnC.some {p : PV} {a : Addr} (r : OwnC T g H p a) : H a ≠ none := by
  cases p <;> simp only [OwnC] at r
  exact r.some
theorem CellAt'.some {c : Cell} {a : Addr} (r : CellAt' T g H c a) : H a ≠ none := by
  cases c; exact ListAt.some r
theorem Sim.ce_some (S : Sim T n g env h σ H) {a : Addr} (ha : a ∈ g.ce) : H a ≠ none := by
  obtain ⟨i, hi⟩ := List.getElem?_of_mem ha
  have hl : i < h.length := by rw [S.cl]; exact (List.getElem?_eq_some_iff.mp hi).1
  exact (S.cv i h[i] a (List.getElem?_eq_getElem hl) hi).some
/-- what stood at the entry stands -/
theorem Sim.he (S : Sim T n g env h σ H) {a : Addr} (ha : H a = none) : n.He a = none := by
  cases q : n.He a with
  | none => rfl
  | some o =>
    have h1 : n.He a ≠ none := by rw [q]; exact fun x => nomatch x
    by_cases hc : a ∈ g.ce
    · exact absurd ha (S.ce_some hc)
    · rw [S.fr a h1 hc, q] at ha; cases ha

/-- the heap grows, some of the new is frozen -/
def gF (g : Gh) (D : Addr → Prop) : Gh := ⟨fun a => g.F a ∨ D a, g.ce⟩
theorem Sim.grow (S : Sim T n g env h σ H) {D : Addr → Prop} (hg : ∀ a, H a ≠ none → H' a = H a) (hD : ∀ a, D a → H a = none ∧ H' a ≠ none) :
    Ext g H (gF g D) H' ∧ Sim T n (gF g D) env h σ H' := by
  have E : Ext g H (gF g D) H' := ⟨fun a x => .inl x, fun a x => hg a (S.fin a x), [], by simp [gF]⟩
  refine ⟨E, S.len, fun a x => ?_, fun a x => .inl (S.F0 a x), fun a x => ?_, S.c0, fun a x y => ?_, S.cd, S.cl, fun i c a h1 h2 => ?_, fun a h1 h2 => ?_, fun i s hs => ?_, S.od⟩
  · rcases x with x | x
    · rw [hg a (S.fin a x)]; exact S.fin a x
    · exact (hD a x).2
  · rcases x with x | x
    · exact S.Fn a x
    · exact .inr (S.he (hD a x).1)
  · rcases y with y | y
    · exact S.cF a x y
    · exact S.ce_some x (hD a y).1
  · have q := S.cv i c a h1 h2
    cases c
    exact ListAt.ext E (hg a q.some) q
  · have q := S.fr a h1 h2
    rw [hg a (by rw [q]; exact h1)]; exact q
  · have q := S.sl i s hs
    cases s with
    | no => trivial
    | val p => obtain ⟨w, e1, e2⟩ := q; exact ⟨w, e1, e2.ext E⟩
    | own p =>
      obtain ⟨a, e1, e2⟩ := q
      refine ⟨a, e1, fun x => ?_, e2.nc, e2.ne, e2.at_.ext E (hg a e2.at_.some)⟩
      rcases x with x | x
      · exact e2.nF x
      · exact e2.at_.some (hD a x).1
theorem upd_grow {a : Addr} {o : HO} (hn : H a = none) : ∀ b, H b ≠ none → upd H a o b = H b := fun b hb => upd_ne (fun z => hb (by rw [z]; exact hn))
/-- a new thing is laid, frozen -/
theorem Sim.lay (S : Sim T n g env h σ H) {a : Addr} (o : HO) (hn : H a = none) : Ext g H (gF g (· = a)) (upd H a o) ∧ Sim T n (gF g (· = a)) env h σ (upd H a o) :=
  S.grow (upd_grow hn) fun b hb => by subst hb; exact ⟨hn, by rw [upd_same]; exact fun x => nomatch x⟩
/-- .. not frozen -/
theorem Sim.lay0 (S : Sim T n g env h σ H) {a : Addr} (o : HO) (hn : H a = none) : Ext g H (gF g (fun _ => False)) (upd H a o) ∧ Sim T n (gF g (fun _ => False)) env h σ (upd H a o) :=
  S.grow (upd_grow hn) fun b hb => hb.elim

/-! ### what an expression hands back -/
/-- not a slot's own -/
def Apart (env : Env) (σ : List (Option V)) (a : Addr) : Prop := ∀ (i : Nat) (q : PV), env[i]? = some (.own q) → σ[i]? ≠ some (some (.ref a))
def Res (T : Tx) (n : En) (g : Gh) (H : Hp) (env : Env) (σ : List (Option V)) : PV → Bool → V → Prop
  | .lst xs, true, w => ∃ a, w = .ref a ∧ Owned T n g H (.lst xs) a ∧ Apart env σ a
  | p, _, w => Tr T g H p w
def RR (T : Tx) (n : En) (g : Gh) (H : Hp) (env : Env) (σ : List (Option V)) : Rs → V → Prop
  | .slot i, w => σ[i]? = some (some w)
  | .v p fr, w => Res T n g H env σ p fr w

theorem Res.old {p : PV} {w : V} (r : Tr T g H p w) : Res T n g H env σ p false w := by
  cases p <;> exact r
/-- the address is frozen -/
theorem Sim.freeze (S : Sim T n g env h σ H) {a : Addr} (nc : a ∉ g.ce) (ne : n.He a = none) (hH : H a ≠ none) (ap : Apart env σ a) : Ext g H (gF g (· = a)) H ∧ Sim T n (gF g (· = a)) env h σ H := by
  have E : Ext g H (gF g (· = a)) H := ⟨fun b x => .inl x, fun _ _ => rfl, [], by simp [gF]⟩
  refine ⟨E, S.len, fun b x => ?_, fun b x => .inl (S.F0 b x), fun b x => ?_, S.c0, fun b x y => ?_, S.cd, S.cl, fun i c b h1 h2 => ?_, S.fr, fun i s hs => ?_, S.od⟩
  · rcases x with x | x
    · exact S.fin b x
    · subst x; exact hH
  · rcases x with x | x
    · exact S.Fn b x
    · subst x; exact .inr ne
  · rcases y with y | y
    · exact S.cF b x y
    · subst y; exact nc x
  · have q := S.cv i c b h1 h2
    cases c
    exact ListAt.ext E rfl q
  · have q := S.sl i s hs
    cases s with
    | no => trivial
    | val p => obtain ⟨w, e1, e2⟩ := q; exact ⟨w, e1, e2.ext E⟩
    | own p =>
      obtain ⟨b, e1, e2⟩ := q
      refine ⟨b, e1, fun x => ?_, e2.nc, e2.ne, e2.at_.ext E rfl⟩
      rcases x with x | x
      · exact e2.nF x
      · subst x; exact ap i p hs e1
theorem Owned.tr {xs : List PV} {a : Addr} (o : Owned T n g H (.lst xs) a) : Tr T (gF g (· = a)) H (.lst xs) (.ref a) := by
  obtain ⟨vs, h1, h2, h3⟩ := o.at_
  exact Tr.lst (g := gF g (· = a)) (Or.inr rfl) h1 h2 (h3.ext (g' := gF g (· = a)) ⟨fun b x => Or.inl x, fun _ _ => rfl, [], by simp [gF]⟩)
/-- a value is frozen -/
theorem Sim.frz (S : Sim T n g env h σ H) {p : PV} {fr : Bool} {w : V} (r : Res T n g H env σ p fr w) : ∃ g', Ext g H g' H ∧ Sim T n g' env h σ H ∧ Tr T g' H p w := by
  have old : Tr T g H p w → ∃ g', Ext g H g' H ∧ Sim T n g' env h σ H ∧ Tr T g' H p w := fun t => ⟨g, Ext.refl g H, S, t⟩
  cases fr with
  | false => exact old (by cases p <;> exact r)
  | true =>
    cases p with
    | lst xs =>
      obtain ⟨a, rfl, o, ap⟩ := r
      obtain ⟨E, S'⟩ := S.freeze o.nc o.ne o.at_.some ap
      exact ⟨_, E, S', o.tr⟩
    | _ => exact old r

/-! ### slots -/
theorem getElem?_set_or {α : Type} {l : List α} {i j : Nat} {x y : α} (h : (l.set i x)[j]? = some y) : (j = i ∧ y = x) ∨ (j ≠ i ∧ l[j]? = some y) := by
  by_cases e : j = i
  · subst e
    rw [List.getElem?_set_self'] at h
    cases q : l[j]? with
    | none => rw [q] at h; simp at h
    | some z => rw [q] at h; simp at h; exact .inl ⟨rfl, h.symm⟩
  · rw [List.getElem?_set_ne (Ne.symm e)] at h
    exact .inr ⟨e, h⟩
/-- a slot's own is frozen -/
theorem Sim.frzSlot (S : Sim T n g env h σ H) {i : Nat} {p : PV} {w : V} (hi : env[i]? = some (.own p)) (hw : σ[i]? = some (some w)) :
    ∃ g', Ext g H g' H ∧ Sim T n g' (env.set i (.val p)) h σ H ∧ Tr T g' H p w := by
  obtain ⟨a, e1, o⟩ := S.sl i _ hi
  have hw' : w = .ref a := by rw [e1] at hw; exact (Option.some.inj (Option.some.inj hw)).symm
  subst hw'
  cases p with
  | lst xs =>
    have E : Ext g H (gF g (· = a)) H := ⟨fun b x => .inl x, fun _ _ => rfl, [], by simp [gF]⟩
    refine ⟨gF g (· = a), E, ⟨by simpa using S.len, fun b x => ?_, fun b x => .inl (S.F0 b x), fun b x => ?_, S.c0, fun b x y => ?_, S.cd, S.cl, fun j c b h1 h2 => ?_, S.fr, fun j s hs => ?_, fun j k p q w h1 h2 => ?_⟩, o.tr⟩
    · rcases x with x | x
      · exact S.fin b x
      · subst x; exact o.at_.some
    · rcases x with x | x
      · exact S.Fn b x
      · subst x; exact .inr o.ne
    · rcases y with y | y
      · exact S.cF b x y
      · subst y; exact o.nc x
    · have q := S.cv j c b h1 h2
      cases c
      exact ListAt.ext E rfl q
    · rcases getElem?_set_or hs with ⟨rfl, rfl⟩ | ⟨hne, hs'⟩
      · exact ⟨_, e1, o.tr⟩
      · have q := S.sl j s hs'
        cases s with
        | no => trivial
        | val p => obtain ⟨w, e1, e2⟩ := q; exact ⟨w, e1, e2.ext E⟩
        | own p =>
          obtain ⟨b, e3, e2⟩ := q
          refine ⟨b, e3, fun x => ?_, e2.nc, e2.ne, e2.at_.ext E rfl⟩
          rcases x with x | x
          · exact e2.nF x
          · subst x; exact hne (S.od j i _ _ _ hs' hi e3 e1)
    · rcases getElem?_set_or h1 with ⟨_, e⟩ | ⟨_, h1'⟩
      · cases e
      · rcases getElem?_set_or h2 with ⟨_, e⟩ | ⟨_, h2'⟩
        · cases e
        · exact S.od j k p q w h1' h2'
  | _ => exact False.elim o.at_
/-- a value is handed on -/
theorem Sim.esc (S : Sim T n g env h σ H) {r : Rs} {w : V} (rr : RR T n g H env σ r w) {p : PV} {fr : Bool} {e2 : Env} (he : esc r env = some (p, fr, e2)) :
    ∃ g', Ext g H g' H ∧ Sim T n g' e2 h σ H ∧ Res T n g' H e2 σ p fr w := by
  cases r with
  | slot i =>
    simp only [PL.esc] at he
    cases q : env[i]? with
    | none => rw [q] at he; cases he
    | some s =>
      rw [q] at he
      cases s with
      | no => cases he
      | val v =>
        simp at he
        obtain ⟨rfl, rfl, rfl⟩ := he
        obtain ⟨w', e1, e2⟩ := S.sl i _ q
        have : w = w' := by have : σ[i]? = some (some w) := rr; rw [e1] at this; exact (Option.some.inj (Option.some.inj this)).symm
        subst this
        exact ⟨g, Ext.refl g H, S, Res.old e2⟩
      | own v =>
        simp at he
        obtain ⟨rfl, rfl, rfl⟩ := he
        obtain ⟨g', E, S', t⟩ := S.frzSlot q rr
        exact ⟨g', E, S', Res.old t⟩
  | v p' fr' =>
    simp [PL.esc] at he
    obtain ⟨rfl, rfl, rfl⟩ := he
    exact ⟨g, Ext.refl g H, S, rr⟩
/-- .. and frozen -/
theorem Sim.escF (S : Sim T n g env h σ H) {r : Rs} {w : V} (rr : RR T n g H env σ r w) {p : PV} {fr : Bool} {e2 : Env} (he : PL.esc r env = some (p, fr, e2)) :
    ∃ g', Ext g H g' H ∧ Sim T n g' e2 h σ H ∧ Tr T g' H p w := by
  obtain ⟨g1, E1, S1, r1⟩ := S.esc rr he
  obtain ⟨g2, E2, S2, t⟩ := S1.frz r1
  exact ⟨g2, E1.trans E2, S2, t⟩

/-! ### what is looked at -/
/-- readable as -/
def Bd (T : Tx) (g : Gh) (H : Hp) : PV → V → Prop
  | .lst xs, w => ∃ a, w = .ref a ∧ ListAt T g H xs a
  | p, w => Tr T g H p w
theorem Bd.of {p : PV} {w : V} (t : Tr T g H p w) : Bd T g H p w := by
  cases t with
  | lst hF h hl r => exact ⟨_, rfl, _, h, hl, r⟩
  | non => exact .non
  | bl b => exact .bl b
  | int i => exact .int i
  | str s => exact .str s
  | ty n => exact .ty n
  | fn h => exact .fn h
  | ref h => exact .ref h
  | scr hF h hl r => exact .scr hF h hl r
  | scrK h hl r => exact .scrK h hl r
  | tup hF h hl r => exact .tup hF h hl r
  | tupK h r => exact .tupK h r
  | dic hF h hl r => exact .dic hF h hl r
theorem Sim.view (S : Sim T n g env h σ H) {p : PV} {w : V} (t : Tr T g H p w) : Bd T g H (PL.view h p) w := by
  cases t with
  | ref hn =>
    rename_i i a
    show Bd T g H (match h[i]? with | some (.lst xs) => PV.lst xs | none => PV.ref i) _
    cases q : h[i]? with
    | none => exact .ref hn
    | some c =>
      have := S.cv i c a q hn
      cases c
      exact ⟨a, rfl, this⟩
  | lst hF h hl r => exact Bd.of (.lst hF h hl r)
  | non => exact .non
  | bl b => exact .bl b
  | int i => exact .int i
  | str s => exact .str s
  | ty n => exact .ty n
  | fn h => exact .fn h
  | scr hF h hl r => exact .scr hF h hl r
  | scrK h hl r => exact .scrK h hl r
  | tup hF h hl r => exact .tup hF h hl r
  | tupK h r => exact .tupK h r
  | dic hF h hl r => exact .dic hF h hl r
theorem Sim.rd (S : Sim T n g env h σ H) {r : Rs} {w : V} (hr : match r with | .slot i => σ[i]? = some (some w) | .v p _ => Tr T g H p w) {x : PV} (hx : PL.rd r env h = some x) : Bd T g H x w := by
  cases r with
  | slot i =>
    simp only [PL.rd] at hx
    cases q : env[i]? with
    | none => rw [q] at hx; cases hx
    | some s =>
      rw [q] at hx
      cases s with
      | no => cases hx
      | val v =>
        simp at hx
        subst hx
        obtain ⟨w', e1, e2⟩ := S.sl i _ q
        have hr' : σ[i]? = some (some w) := hr
        have : w = w' := by rw [e1] at hr'; exact (Option.some.inj (Option.some.inj hr')).symm
        subst this
        exact S.view e2
      | own v =>
        simp at hx
        subst hx
        obtain ⟨a, e1, o⟩ := S.sl i _ q
        have hr' : σ[i]? = some (some w) := hr
        have : w = .ref a := by rw [e1] at hr'; exact (Option.some.inj (Option.some.inj hr')).symm
        subst this
        cases v with
        | lst xs => exact ⟨a, rfl, o.at_⟩
        | _ => exact False.elim o.at_
  | v p fr =>
    simp [PL.rd] at hx
    subst hx
    exact S.view hr
end
end PL

namespace PL
open PySem PySem.Spec PyProof.Rows L2
/-- a tuple times 1: itself -/
theorem tup_by1 (l : Addr) (items : Array Value) (n : Nat) (dd : Option Addr) (sl : Array (Option Value)) (u : Tok) :
    Meets (Builtin.«tuple.__mul__» ⟨[.ref l, .int 1 u], []⟩) (fun _ R s => s.heap.get? l = some { cls := .type "tuple", dict := dd, data := .seq items n, slots := sl } ∧ R (.ok (.ret (.ref l))) s) :=
  .of_wp fun prog w A R s h => by
    obtain ⟨hp, g, d, tk, os⟩ := s
    obtain ⟨hl, h⟩ := h
    have f1 := AutoSeq1.idx_int
    have b1 : (items.isEmpty || (1 : Int) == 1) = true := by simp
    wp_walk using wpAny_loadPart' hl
    repeat (first
      | (refine wpAny_ite_false (decide_eq_false (by decide)) ?_; wp_walk using wpAny_loadPart' hl)
      | (refine wpAny_ite_true (decide_eq_true b1) ?_; wp_walk using wpAny_loadPart' hl))
    exact ⟨_, rfl, h⟩
section
variable {X : Cx}
/-- .. as a reading -/
theorem op_tup1 : OpR X (binaryOp .Mult) (fun x y H Q => ∃ l xs, x = .ref l ∧ y = .int 1 ∧ SqT X.K H l xs ∧ Q (.ref l) H) := by
  intro pins s σ H x y v u Q I rx ry h
  obtain ⟨l, xs, rfl, rfl, hT, q⟩ := h
  cases rx
  obtain ⟨t, rfl⟩ := ry
  obtain ⟨its, r, ⟨⟨cls, dd, data, sl⟩, ho, hc, n, hd⟩, hs⟩ := I.tuple hT
  simp only at hc hd
  subst hc hd
  refine wpAny_binaryOp_repeat_ref (T := "tuple") (U := "int") (by decide) ⟨_, ho, rfl⟩ (fun s' => typeIs_int s' 1 t) noFill_tuple_mul F.fills_int_mul F.slot_int_rmul repeat_tuple F.slot_int_index.lookup
    (call_meets F.slot_int_rmul (typeIs_int s 1 t) F.entry_int_rmul (F.args_int_rmul_2 _ _) (int_rmul_tuple 1 t l its.toArray n dd sl)
      ⟨ho, rfl, ⟨_, ho, rfl⟩, call_meets F.slot_tuple_mul ⟨_, ho, rfl⟩ F.entry_tuple_mul (F.args_tuple_mul_2 _ _) (tup_by1 l its.toArray n dd sl t) ⟨ho, ?_⟩⟩)
  exact ⟨.ref l, H, I, rfl, q⟩
end
end PL

/-! The operators. -/
namespace PL
open PySem PySem.Spec PyProof.Rows L2

theorem line_eq : line = sizeLine := by decide
section
variable {T : Tx} {n : En} {g g' : Gh} {H H' : Hp} {env : Env} {h : Hs} {σ : List (Option V)}

/-- a made thing: as it stands, or newly laid -/
def Made (T : Tx) (g : Gh) (H : Hp) (z : PV) (fr : Bool) (w : V) (H' : Hp) : Prop :=
  (fr = false ∧ H' = H ∧ Tr T g H z w) ∨
  ∃ a o, w = .ref a ∧ H a = none ∧ H' = upd H a o ∧
    ((∃ xs vs, z = .lst xs ∧ o = .lst vs ∧ vs.length ≤ sizeLine ∧ TrL T g H xs vs) ∨
     (fr = false ∧ ∃ xs vs, z = .tup xs ∧ o = .tup vs ∧ vs.length ≤ sizeLine ∧ TrL T g H xs vs) ∨
     (fr = false ∧ ∃ ks xs vs, z = .dic ks xs ∧ o = .dK (ks.zip vs) ∧ ks.length = vs.length ∧ TrL T g H xs vs))
theorem Sim.made (S : Sim T n g env h σ H) {z : PV} {fr : Bool} {w : V} (m : Made T g H z fr w H') : ∃ g', Ext g H g' H' ∧ Sim T n g' env h σ H' ∧ Res T n g' H' env σ z fr w := by
  rcases m with ⟨rfl, rfl, t⟩ | ⟨a, o, rfl, hn, rfl, hz⟩
  · exact ⟨g, Ext.refl g _, S, Res.old t⟩
  · cases fr with
    | false =>
      obtain ⟨E, S'⟩ := S.lay o hn
      refine ⟨_, E, S', Res.old ?_⟩
      rcases hz with ⟨xs, vs, rfl, rfl, hl, r⟩ | ⟨_, xs, vs, rfl, rfl, hl, r⟩ | ⟨_, ks, xs, vs, rfl, rfl, hl, r⟩
      · exact .lst (.inr rfl) upd_same hl (r.ext E)
      · exact .tup (.inr rfl) upd_same hl (r.ext E)
      · exact .dic (.inr rfl) upd_same hl (r.ext E)
    | true =>
      obtain ⟨E, S'⟩ := S.lay0 o hn
      rcases hz with ⟨xs, vs, rfl, rfl, hl, r⟩ | ⟨q, _⟩ | ⟨q, _⟩
      · refine ⟨_, E, S', a, rfl, ⟨fun x => ?_, fun x => S.ce_some x hn, S.he hn, vs, upd_same, hl, r.ext E⟩, fun i q hi hw => ?_⟩
        · rcases x with x | x
          · exact S.fin a x hn
          · exact x
        · obtain ⟨b, e1, e2⟩ := S.sl i _ hi
          rw [hw] at e1
          cases e1
          exact e2.at_.some hn
      · cases q
      · cases q

/-! ### plain data -/
mutual
def toD : PV → PyData
  | .non => .none
  | .bl b => .bool b
  | .int i => .int i
  | .str s => .str s
  | .lst xs => .list (toDs xs)
  | .tup xs => .tuple (toDs xs)
  | _ => .none
def toDs : List PV → List PyData
  | [] => []
  | x :: xs => toD x :: toDs xs
end
mutual
theorem toD_lay : ∀ p : PV, okD p = true → (toD p).canLay0 = true
  | .non, _ => rfl
  | .bl _, _ => rfl
  | .int _, _ => rfl
  | .str s, h => by simpa [toD, PyData.canLay0, PyData.strOk, okD] using h
  | .lst xs, h => by simpa [toD, PyData.canLay0] using toDs_lay xs (by simpa [okD] using h)
  | .tup xs, h => by simpa [toD, PyData.canLay0] using toDs_lay xs (by simpa [okD] using h)
  | .ty _, h => by simp [okD] at h
  | .fn _, h => by simp [okD] at h
  | .ref _, h => by simp [okD] at h
  | .scr _, h => by simp [okD] at h
  | .dic _ _, h => by simp [okD] at h
theorem toDs_lay : ∀ ps : List PV, okDs ps = true → PyData.canLayAll0 (toDs ps) = true
  | [], _ => rfl
  | x :: xs, h => by
    have h' : okD x = true ∧ okDs xs = true := by simpa [okDs] using h
    simp [toDs, PyData.canLayAll0, toD_lay x h'.1, toDs_lay xs h'.2]
end
mutual
theorem toD_dep : ∀ p : PV, (toD p).depth = dep p
  | .non => by simp [toD, dep, PyData.depth]
  | .bl _ => by simp [toD, dep, PyData.depth]
  | .int _ => by simp [toD, dep, PyData.depth]
  | .str _ => by simp [toD, dep, PyData.depth]
  | .lst xs => by simp [toD, dep, PyData.depth, toDs_dep xs]
  | .tup xs => by simp [toD, dep, PyData.depth, toDs_dep xs]
  | .ty _ => by simp [toD, dep, PyData.depth]
  | .fn _ => by simp [toD, dep, PyData.depth]
  | .ref _ => by simp [toD, dep, PyData.depth]
  | .scr _ => by simp [toD, dep, PyData.depth]
  | .dic _ _ => by simp [toD, dep, PyData.depth]
theorem toDs_dep : ∀ ps : List PV, PyData.depthAll (toDs ps) = deps ps
  | [] => by simp [toDs, deps, PyData.depthAll]
  | x :: xs => by simp [toDs, deps, PyData.depthAll, toD_dep x, toDs_dep xs]
end
mutual
theorem toD_eqv : ∀ p q : PV, okD p = true → okD q = true → PyData.eqv (toD p) (toD q) = eqv p q := by
  intro p q hp hq
  cases p <;> cases q <;> first
    | (simp [okD] at hp; done)
    | (simp [okD] at hq; done)
    | (simp [toD, eqv, PyData.eqv]; done)
    | skip
  · rename_i xs ys
    simpa [toD, eqv, PyData.eqv] using toDs_eqv xs ys (by simpa [okD] using hp) (by simpa [okD] using hq)
  · rename_i xs ys
    simpa [toD, eqv, PyData.eqv] using toDs_eqv xs ys (by simpa [okD] using hp) (by simpa [okD] using hq)
theorem toDs_eqv : ∀ ps qs : List PV, okDs ps = true → okDs qs = true → PyData.eqvAll (toDs ps) (toDs qs) = eqvs ps qs := by
  intro ps qs hp hq
  cases ps with
  | nil => cases qs <;> simp [toDs, eqvs, PyData.eqvAll]
  | cons x xs =>
    cases qs with
    | nil => simp [toDs, eqvs, PyData.eqvAll]
    | cons y ys =>
      have hp' : okD x = true ∧ okDs xs = true := by simpa [okDs] using hp
      have hq' : okD y = true ∧ okDs ys = true := by simpa [okDs] using hq
      simp [toDs, eqvs, PyData.eqvAll, toD_eqv x y hp'.1 hq'.1, toDs_eqv xs ys hp'.2 hq'.2]
end
theorem ktup_sq {K : PySem.W.Frag} {a : Addr} {xs : List V} (h : KTup K a xs) : SqT K H a xs := .inr h
mutual
theorem Tr.dp : ∀ {p : PV} {v : V}, okD p = true → Tr T g H p v → Dp T.K H v (toD p)
  | .non, _, _, t => by cases t; exact .non
  | .bl b, _, _, t => by cases t; exact .bl b
  | .int i, _, _, t => by cases t; exact .int i
  | .str s, _, _, t => by cases t; exact .str s
  | .lst xs, _, h, t => by
    cases t with
    | lst hF e hl r => simp only [toD]; exact .lst (SqL.of e) (TrL.dp (by simpa [okD] using h) r)
  | .tup xs, _, h, t => by
    cases t with
    | tup hF e hl r => simp only [toD]; exact .tup (SqT.of e) (TrL.dp (by simpa [okD] using h) r)
    | tupK e r => simp only [toD]; exact .tup (ktup_sq e) (TrL.dp (by simpa [okD] using h) r)
  | .ty _, _, h, _ => by simp [okD] at h
  | .fn _, _, h, _ => by simp [okD] at h
  | .ref _, _, h, _ => by simp [okD] at h
  | .scr _, _, h, _ => by simp [okD] at h
  | .dic _ _, _, h, _ => by simp [okD] at h
theorem TrL.dp : ∀ {ps : List PV} {vs : List V}, okDs ps = true → TrL T g H ps vs → DpAll T.K H vs (toDs ps)
  | [], _, _, t => by cases t; exact .nil
  | x :: xs, _, h, t => by
    have h' : okD x = true ∧ okDs xs = true := by simpa [okDs] using h
    cases t with
    | cons a b => exact .cons (Tr.dp h'.1 a) (TrL.dp h'.2 b)
end
theorem Bd.dp {p : PV} {v : V} (h : okD p = true) (b : Bd T g H p v) : Dp T.K H v (toD p) := by
  cases p with
  | lst xs =>
    obtain ⟨a, rfl, vs, e, _, r⟩ := b
    simp only [toD]
    exact .lst (SqL.of e) (TrL.dp (by simpa [okD] using h) r)
  | _ => exact Tr.dp h b

/-- a list's reading -/
theorem Bd.lst {xs : List PV} {v : V} (b : Bd T g H (.lst xs) v) : ∃ a vs, v = .ref a ∧ H a = some (.lst vs) ∧ vs.length ≤ sizeLine ∧ TrL T g H xs vs := by
  obtain ⟨a, e, vs, h⟩ := b
  exact ⟨a, vs, e, h⟩
theorem Bd.tup {xs : List PV} {v : V} (b : Bd T g H (.tup xs) v) : ∃ a vs, v = .ref a ∧ SqT T.K H a vs ∧ vs.length ≤ sizeLine ∧ TrL T g H xs vs := by
  have t : Tr T g H (.tup xs) v := b
  cases t with
  | tup hF e hl r => exact ⟨_, _, rfl, SqT.of e, hl, r⟩
  | tupK e r =>
    refine ⟨_, _, rfl, ktup_sq e, ?_, r⟩
    obtain ⟨o, its, k, _, _, _, hz, hv⟩ := e
    rw [Vals.length hv]
    simpa using hz
theorem Bd.int {i : Int} {v : V} (b : Bd T g H (.int i) v) : v = .int i := by
  have t : Tr T g H (.int i) v := b
  cases t; rfl
theorem Bd.bl {i : Bool} {v : V} (b : Bd T g H (.bl i) v) : v = .bl i := by
  have t : Tr T g H (.bl i) v := b
  cases t; rfl
theorem Bd.str {i : Str} {v : V} (b : Bd T g H (.str i) v) : v = .str i := by
  have t : Tr T g H (.str i) v := b
  cases t; rfl
theorem Bd.non {v : V} (b : Bd T g H .non v) : v = .non := by
  have t : Tr T g H .non v := b
  cases t; rfl
/-- what is no list is as it stands -/
theorem Bd.tr {p : PV} {v : V} (h : ∀ xs, p ≠ .lst xs) (b : Bd T g H p v) : Tr T g H p v := by
  cases p with
  | lst xs => exact absurd rfl (h xs)
  | _ => exact b
end

/-- what of the context is known -/
structure XOk (T : Tx) (N : List Str) (sc : Scope) (k : Nat) (X : Cx) : Prop where
  P : X.prog = T.P
  w : X.w = T.w
  K : X.K = T.K
  mg : X.mg = T.mg
  base : X.base = T.base
  hN : X.N = N
  hsc : X.env.scope = sc
  calm : X.calm = true
  nd : N.Nodup
  hr : Room (k + 2) X.A

/-- a two-place operator's reading -/
def rB (T : Tx) (op : Bop) : R2 := fun x y H Q => ∃ g px py z fr, Bd T g H px x ∧ Bd T g H py y ∧ opBin op px py = some (z, fr) ∧ ∀ w H', Made T g H z fr w H' → Q w H'
def rC (T : Tx) (op : Cop) : R2 := fun x y H Q => ∃ g px py z, Bd T g H px x ∧ Bd T g H py y ∧ opCmp op px py = some z ∧ Q (.bl z) H
section
variable {T : Tx} {N : List Str} {sc : Scope} {k : Nat} {X : Cx}

theorem mk_same {g : Gh} {H : Hp} {z : PV} {w : V} (t : Tr T g H z w) : Made T g H z false w H := .inl ⟨rfl, rfl, t⟩
theorem mk_lst {g : Gh} {H : Hp} {a : Addr} {fr : Bool} {xs : List PV} {vs : List V} (hn : H a = none) (hl : vs.length ≤ sizeLine) (r : TrL T g H xs vs) : Made T g H (.lst xs) fr (.ref a) (upd H a (.lst vs)) :=
  .inr ⟨a, _, rfl, hn, rfl, .inl ⟨xs, vs, rfl, rfl, hl, r⟩⟩
theorem mk_tup {g : Gh} {H : Hp} {a : Addr} {xs : List PV} {vs : List V} (hn : H a = none) (hl : vs.length ≤ sizeLine) (r : TrL T g H xs vs) : Made T g H (.tup xs) false (.ref a) (upd H a (.tup vs)) :=
  .inr ⟨a, _, rfl, hn, rfl, .inr (.inl ⟨rfl, xs, vs, rfl, rfl, hl, r⟩)⟩

theorem snd_add (ok : XOk T N sc k X) : OpR X (binaryOp .Add) (rB T .add) := by
  intro pins s σ H x y v u Q I rx ry ⟨g, px, py, z, fr, bx, by_, he, hq⟩
  cases px <;> cases py <;> simp only [opBin] at he <;> first | (cases he; done) | skip
  · cases bx.int; cases by_.int
    cases he
    exact op_add pins s σ H _ _ v u Q I rx ry ⟨_, _, rfl, rfl, hq _ _ (mk_same (.int _))⟩
  · cases bx.str; cases by_.str
    split at he
    · rename_i hl
      cases he
      rw [line_eq] at hl
      exact op_add_str pins s σ H _ _ v u Q I rx ry ⟨_, _, rfl, rfl, hl, hq _ _ (mk_same (.str _))⟩
    · cases he
  · obtain ⟨a, vs, rfl, ha, hla, ra⟩ := bx.lst
    obtain ⟨b, ws, rfl, hb, hlb, rb⟩ := by_.lst
    split at he
    · rename_i hl
      cases he
      rw [line_eq, ra.length, rb.length] at hl
      exact op_cat pins s σ H _ _ v u Q I rx ry ⟨_, _, _, _, rfl, rfl, ha, hb, hl, fun p hp => hq _ _ (mk_lst hp (by rw [List.length_append]; exact hl) (ra.append rb))⟩
    · cases he
  · obtain ⟨a, vs, rfl, ha, hla, ra⟩ := bx.tup
    obtain ⟨b, ws, rfl, hb, hlb, rb⟩ := by_.tup
    split at he
    · rename_i hl
      cases he
      rw [line_eq, ra.length, rb.length] at hl
      refine op_catT pins s σ H _ _ v u Q I rx ry ⟨_, _, _, _, rfl, rfl, by rw [ok.K]; exact ha, by rw [ok.K]; exact hb, fun e => hl.2 (ra.nil_iff.mpr e), hl.1, fun e => ?_, fun _ p hp => ?_⟩
      · have e' := rb.nil_iff.mpr e
        subst e'
        rw [List.append_nil] at hq
        exact hq _ _ (mk_same (bx.tr (fun _ => nofun)))
      · exact hq _ _ (mk_tup hp (by rw [List.length_append]; exact hl.1) (ra.append rb))
    · cases he
theorem snd_sub : OpR X (binaryOp .Sub) (rB T .sub) := by
  intro pins s σ H x y v u Q I rx ry ⟨g, px, py, z, fr, bx, by_, he, hq⟩
  cases px <;> cases py <;> simp only [opBin] at he <;> first | (cases he; done) | skip
  cases bx.int; cases by_.int
  cases he
  exact op_sub pins s σ H _ _ v u Q I rx ry ⟨_, _, rfl, rfl, hq _ _ (mk_same (.int _))⟩
theorem snd_mul (ok : XOk T N sc k X) : OpR X (binaryOp .Mult) (rB T .mul) := by
  intro pins s σ H x y v u Q I rx ry ⟨g, px, py, z, fr, bx, by_, he, hq⟩
  cases px <;> cases py <;> simp only [opBin] at he <;> first | (cases he; done) | skip
  · cases bx.int; cases by_.int
    split at he
    · rename_i hl
      cases he
      exact op_mulW pins s σ H _ _ v u Q I rx ry ⟨_, _, rfl, rfl, (by simp only [mulOk, decide_eq_true_eq] at hl; exact hl), hq _ _ (mk_same (.int _))⟩
    · cases he
  · cases by_.int
    obtain ⟨a, vs, rfl, ha, hla, ra⟩ := bx.lst
    split at he
    · rename_i hl
      cases he
      rw [line_eq, ra.length] at hl
      refine op_rep pins s σ H _ _ v u Q I rx ry ⟨_, _, _, rfl, rfl, ha, hl.2.1, hl.1, hl.2.2, fun p hp => hq _ _ (mk_lst hp ?_ (ra.rep _))⟩
      have e : ∀ m : Nat, (List.replicate m vs).flatten.length = vs.length * m := fun m => by simp [Nat.mul_comm]
      rw [e]; exact hl.2.2
    · cases he
  · cases by_.int
    rename_i xs k
    have bx' := bx
    obtain ⟨a, vs, rfl, ha, hla, ra⟩ := bx.tup
    split at he
    · rename_i hl
      cases he
      by_cases h1 : k = 1
      · subst h1
        have e : (List.replicate (1 : Int).toNat xs).flatten = xs := by simp
        rw [e] at hq
        have tr : Tr T g H (.tup xs) (.ref a) := bx'
        exact op_tup1 pins s σ H _ _ v u Q I rx ry ⟨a, vs, rfl, rfl, by rw [ok.K]; exact ha, hq _ _ (mk_same tr)⟩
      · have el : xs.length = vs.length := ra.length
        have hz : vs.length ≤ 1000 := by rw [← el]; exact hl.2.2.2
        have hk2 : 2 ≤ k := by have := hl.1; omega
        refine op_repT pins s σ H _ _ v u Q I rx ry ⟨a, k, vs, rfl, rfl, by rw [ok.K]; exact ha, fun e => by rw [e] at el; have := hl.2.2.1; simp at el; simp [el] at this, hk2, hl.2.1, hz, fun p hp => hq _ _ (mk_tup hp ?_ (ra.rep _))⟩
        have e : ∀ m : Nat, (List.replicate m vs).flatten.length = vs.length * m := fun m => by simp [Nat.mul_comm]
        rw [e, sizeLine_eq]
        have : vs.length * k.toNat ≤ 1000 * 1000 := Nat.mul_le_mul (by omega) (by omega)
        omega
    · cases he
theorem snd_fdiv : OpR X (binaryOp .FloorDiv) (rB T .fdiv) := by
  intro pins s σ H x y v u Q I rx ry ⟨g, px, py, z, fr, bx, by_, he, hq⟩
  cases px <;> cases py <;> simp only [opBin] at he <;> first | (cases he; done) | skip
  cases bx.int; cases by_.int
  split at he
  · rename_i hl
    cases he
    exact op_fdivN pins s σ H _ _ v u Q I rx ry ⟨_, _, rfl, rfl, hl, hq _ _ (mk_same (.int _))⟩
  · cases he
theorem snd_mod : OpR X (binaryOp .Mod) (rB T .mod) := by
  intro pins s σ H x y v u Q I rx ry ⟨g, px, py, z, fr, bx, by_, he, hq⟩
  cases px <;> cases py <;> simp only [opBin] at he <;> first | (cases he; done) | skip
  cases bx.int; cases by_.int
  split at he
  · rename_i hl
    cases he
    exact op_modN pins s σ H _ _ v u Q I rx ry ⟨_, _, rfl, rfl, hl, hq _ _ (mk_same (.int _))⟩
  · cases he
theorem snd_pow : OpR X (binaryOp .Pow) (rB T .pow) := by
  intro pins s σ H x y v u Q I rx ry ⟨g, px, py, z, fr, bx, by_, he, hq⟩
  cases px <;> cases py <;> simp only [opBin] at he <;> first | (cases he; done) | skip
  cases bx.int; cases by_.int
  split at he
  · rename_i hl
    cases he
    exact op_pow pins s σ H _ _ v u Q I rx ry ⟨_, _, rfl, rfl, hl, hq _ _ (mk_same (.int _))⟩
  · cases he
theorem snd_bop (ok : XOk T N sc k X) {o : Operator} {b : Bop} (h : cBop o = some b) : OpR X (binaryOp o) (rB T b) := by
  cases o <;> simp [cBop] at h <;> subst h
  · exact snd_add ok
  · exact snd_sub
  · exact snd_mul ok
  · exact snd_mod
  · exact snd_pow
  · exact snd_fdiv

/-! ### comparisons -/
theorem Room.u64 {k : Nat} {A : Around} (r : Room (k + 2) A) : A.units + 100 < cLine := by
  have := r.un
  omega
theorem snd_eqs (ok : XOk T N sc k X) {pins : List (Addr × Obj)} {s : Shared} {σ : L2.St} {H : Hp} {x y : V} {v u : Value} {g : Gh} {px py : PV} (I : Inv X pins σ H s) (rx : RelV x v) (ry : RelV y u) (bx : Bd T g H px x) (by_ : Bd T g H py y)
    (hx : okD px = true) (hy : okD py = true) : ∃ as bs, Reads s.heap v (toD px) as ∧ Reads s.heap u (toD py) bs := by
  have dx : Dp X.K H x (toD px) := by rw [ok.K]; exact bx.dp hx
  have dy : Dp X.K H y (toD py) := by rw [ok.K]; exact by_.dp hy
  obtain ⟨as, r1⟩ := Dp.reads I _ _ _ dx rx
  obtain ⟨bs, r2⟩ := Dp.reads I _ _ _ dy ry
  exact ⟨as, bs, r1, r2⟩
theorem snd_eq (ok : XOk T N sc k X) : OpR X (compareOp .Eq) (rC T .eq) := by
  intro pins s σ H x y v u Q I rx ry ⟨g, px, py, z, bx, by_, he, hq⟩
  have he' : opEq px py = some z := by cases px <;> cases py <;> simpa [opCmp] using he
  unfold opEq at he'
  split at he'
  · rename_i hc
    cases he'
    obtain ⟨as, bs, r1, r2⟩ := snd_eqs ok I rx ry bx by_ hc.1 hc.2.1
    refine SeqAt.compareEq_reads r1 r2 (toD_lay _ hc.1) (toD_lay _ hc.2.1) ?_ ⟨.bl _, H, I, rfl, ?_⟩
    · rw [toD_dep, toD_dep]
      have := Room.u64 ok.hr
      omega
    · rw [toD_eqv _ _ hc.1 hc.2.1]; exact hq
  · cases he'
theorem snd_ne (ok : XOk T N sc k X) : OpR X (compareOp .NotEq) (rC T .ne) := by
  intro pins s σ H x y v u Q I rx ry ⟨g, px, py, z, bx, by_, he, hq⟩
  have he' : (opEq px py).map (!·) = some z := by cases px <;> cases py <;> simpa [opCmp] using he
  unfold opEq at he'
  split at he'
  · rename_i hc
    cases he'
    obtain ⟨as, bs, r1, r2⟩ := snd_eqs ok I rx ry bx by_ hc.1 hc.2.1
    refine SeqAt.compareNe_reads r1 r2 (toD_lay _ hc.1) (toD_lay _ hc.2.1) ?_ ⟨.bl _, H, I, rfl, ?_⟩
    · rw [toD_dep, toD_dep]
      have := Room.u64 ok.hr
      omega
    · rw [toD_eqv _ _ hc.1 hc.2.1]; exact hq
  · cases he'
theorem snd_lt : OpR X (compareOp .Lt) (rC T .lt) := by
  intro pins s σ H x y v u Q I rx ry ⟨g, px, py, z, bx, by_, he, hq⟩
  cases px <;> cases py <;> simp only [opCmp] at he <;> first | (cases he; done) | skip
  cases bx.int; cases by_.int
  cases he
  exact op_lt pins s σ H _ _ v u Q I rx ry ⟨_, _, rfl, rfl, hq⟩
theorem snd_le : OpR X (compareOp .LtE) (rC T .le) := by
  intro pins s σ H x y v u Q I rx ry ⟨g, px, py, z, bx, by_, he, hq⟩
  cases px <;> cases py <;> simp only [opCmp] at he <;> first | (cases he; done) | skip
  cases bx.int; cases by_.int
  cases he
  exact op_le pins s σ H _ _ v u Q I rx ry ⟨_, _, rfl, rfl, hq⟩
theorem snd_gt : OpR X (compareOp .Gt) (rC T .gt) := by
  intro pins s σ H x y v u Q I rx ry ⟨g, px, py, z, bx, by_, he, hq⟩
  cases px <;> cases py <;> simp only [opCmp] at he <;> first | (cases he; done) | skip
  cases bx.int; cases by_.int
  cases he
  exact op_gt pins s σ H _ _ v u Q I rx ry ⟨_, _, rfl, rfl, hq⟩
theorem snd_ge : OpR X (compareOp .GtE) (rC T .ge) := by
  intro pins s σ H x y v u Q I rx ry ⟨g, px, py, z, bx, by_, he, hq⟩
  cases px <;> cases py <;> simp only [opCmp] at he <;> first | (cases he; done) | skip
  cases bx.int; cases by_.int
  cases he
  exact op_ge pins s σ H _ _ v u Q I rx ry ⟨_, _, rfl, rfl, hq⟩
theorem Bd.isN {g : Gh} {H : Hp} {p : PV} {v : V} (b : Bd T g H p v) : decide (v = V.non) = (match p with | .non => true | _ => false) := by
  cases p with
  | lst xs => obtain ⟨a, rfl, _⟩ := b; rfl
  | _ =>
    have t : Tr T g H _ v := b
    cases t <;> rfl
theorem snd_is : OpR X (compareOp .Is) (rC T .is_) := by
  intro pins s σ H x y v u Q I rx ry ⟨g, px, py, z, bx, by_, he, hq⟩
  by_cases hn : py = .non
  · subst hn
    cases by_.non
    refine op_isN pins s σ H _ _ v u Q I rx ry ⟨rfl, ?_⟩
    rw [bx.isN]
    cases px <;> simp only [opCmp] at he <;> cases he <;> exact hq
  · cases px <;> cases py <;> simp only [opCmp] at he <;> first | (cases he; done) | (exact absurd rfl hn) | skip
    cases bx.bl; cases by_.bl
    cases he
    exact op_isBl pins s σ H _ _ v u Q I rx ry ⟨_, _, rfl, rfl, hq⟩
theorem snd_isnot : OpR X (compareOp .IsNot) (rC T .isnot) := by
  intro pins s σ H x y v u Q I rx ry ⟨g, px, py, z, bx, by_, he, hq⟩
  by_cases hn : py = .non
  · subst hn
    cases by_.non
    refine op_notN pins s σ H _ _ v u Q I rx ry ⟨rfl, ?_⟩
    rw [bx.isN]
    cases px <;> simp only [opCmp] at he <;> cases he <;> exact hq
  · cases px <;> cases py <;> simp only [opCmp] at he <;> first | (cases he; done) | (exact absurd rfl hn) | skip
    cases bx.bl; cases by_.bl
    cases he
    exact op_notBl pins s σ H _ _ v u Q I rx ry ⟨_, _, rfl, rfl, hq⟩
/-! ### in -/
theorem Paired.mem {α β : Type} {R : α → β → Prop} : ∀ {l₁ : List α} {l₂ : List β}, Paired R l₁ l₂ → ∀ b ∈ l₂, ∃ a ∈ l₁, R a b
  | _, _, .nil, _, h => by simp at h
  | _, _, .cons r t, b, h => by
    rcases List.mem_cons.mp h with rfl | h
    · exact ⟨_, List.mem_cons_self, r⟩
    · obtain ⟨a, ha, hr⟩ := Paired.mem t b h
      exact ⟨a, List.mem_cons_of_mem _ ha, hr⟩
open Classical in
/-- the item's answer, by what it reads as -/
noncomputable def ansOf (hp : Heap) (d : PyData) (u : Value) : Bool := decide (∃ e as, e.canLay0 = true ∧ Reads hp u e as ∧ PyData.eqv e d = true)
open Classical in
theorem ansOf_eq {hp : Heap} {d e : PyData} {u : Value} {as : List Addr} (hl : e.canLay0 = true) (r : Reads hp u e as) : ansOf hp d u = PyData.eqv e d := by
  unfold ansOf
  cases q : PyData.eqv e d with
  | true => exact decide_eq_true ⟨e, as, hl, r, q⟩
  | false =>
    refine decide_eq_false ?_
    rintro ⟨e', as', hl', r', q'⟩
    rw [SeqAt.Reads.unique e e' u as as' hl r r', q'] at q
    cases q
theorem in_ans (ok : XOk T N sc k X) {pins : List (Addr × Obj)} {s : Shared} {σ : L2.St} {H : Hp} {g : Gh} {d : PyData} (I : Inv X pins σ H s) : ∀ {ps : List PV} {vs : List V} {us : List Value}, okDs ps = true → TrL T g H ps vs → Vals vs us →
    us.any (ansOf s.heap d) = ps.any (fun y => PyData.eqv (toD y) d) ∧ ∀ w ∈ us, ∃ p as, okD p = true ∧ dep p ≤ deps ps ∧ Reads s.heap w (toD p) as
  | [], _, _, _, .nil, .nil => ⟨rfl, fun w h => by simp at h⟩
  | p :: ps, _, _, hk, .cons (v := vv) t r, .cons q qs => by
    have hk' : okD p = true ∧ okDs ps = true := by simpa [okDs] using hk
    have dx : Dp X.K H vv (toD p) := by rw [ok.K]; exact t.dp hk'.1
    obtain ⟨as, r1⟩ := Dp.reads I _ _ _ dx q
    obtain ⟨e1, e2⟩ := in_ans ok I (d := d) hk'.2 r qs
    refine ⟨by rw [List.any_cons, List.any_cons, e1, ansOf_eq (toD_lay p hk'.1) r1], fun w hw => ?_⟩
    rcases List.mem_cons.mp hw with rfl | hw
    · exact ⟨p, as, hk'.1, by simp [deps]; omega, r1⟩
    · obtain ⟨p', as', h1, h2, h3⟩ := e2 w hw
      exact ⟨p', as', h1, by simp [deps]; omega, h3⟩
theorem in_core (ok : XOk T N sc k X) {pins : List (Addr × Obj)} {s : Shared} {σ : L2.St} {H : Hp} {g : Gh} {px : PV} {x : V} {v : Value} {ps : List PV} {vs : List V} {us : List Value} {z : Bool} (I : Inv X pins σ H s) (rx : RelV x v) (bx : Bd T g H px x)
    (he : opIn px ps = some z) (r : TrL T g H ps vs) (q : Vals vs us) : (∀ y, y ∈ us.toArray → SeqAt.EqAt X.A.in1 s y v (ansOf s.heap (toD px) y)) ∧ us.toArray.any (ansOf s.heap (toD px)) = z := by
  unfold opIn at he
  split at he
  · rename_i hc
    cases he
    have dx : Dp X.K H x (toD px) := by rw [ok.K]; exact bx.dp hc.1
    obtain ⟨as, r1⟩ := Dp.reads I _ _ _ dx rx
    obtain ⟨e1, e2⟩ := in_ans ok I (d := toD px) hc.2.1 r q
    refine ⟨fun y hy => ?_, ?_⟩
    · obtain ⟨p, as', h1, h2, h3⟩ := e2 y (by simpa using hy)
      rw [ansOf_eq (toD_lay p h1) h3]
      refine SeqAt.eqAt_reads _ _ _ _ _ _ _ _ h3 r1 (toD_lay p h1) (toD_lay px hc.1) ?_
      rw [toD_dep, toD_dep]
      have := Room.u64 ok.hr
      show X.A.units + 1 + _ < cLine
      omega
    · rw [show us.toArray.any (ansOf s.heap (toD px)) = us.any (ansOf s.heap (toD px)) by simp, e1]
      have hall : ∀ qs : List PV, okDs qs = true → qs.any (fun y => PyData.eqv (toD y) (toD px)) = qs.any (fun y => eqv y px) := by
        intro qs
        induction qs with
        | nil => intro _; rfl
        | cons a as ih =>
          intro h
          have h' : okD a = true ∧ okDs as = true := by simpa [okDs] using h
          rw [List.any_cons, List.any_cons, ih h'.2, toD_eqv a px h'.1 hc.1]
      exact hall ps hc.2.1
  · cases he
theorem snd_in (ok : XOk T N sc k X) : OpR X (compareOp .In) (rC T .in_) := by
  intro pins s σ H x y v u Q I rx ry ⟨g, px, py, z, bx, by_, he, hq⟩
  cases py with
  | lst ys =>
    have he' : opIn px ys = some z := by cases px <;> simpa [opCmp] using he
    obtain ⟨a, vs, rfl, ha, hl, r⟩ := by_.lst
    cases ry
    obtain ⟨its, q, pl, _⟩ := I.list (SqL.of ha)
    obtain ⟨e1, e2⟩ := in_core ok I rx bx he' r q
    exact SeqAt.in_listAt _ pl.isList e1 ⟨.bl _, H, I, rfl, by rw [e2]; exact hq⟩
  | tup ys =>
    have he' : opIn px ys = some z := by cases px <;> simpa [opCmp] using he
    obtain ⟨a, vs, rfl, ha, hl, r⟩ := by_.tup
    cases ry
    obtain ⟨its, q, pl, _⟩ := I.tuple (by rw [ok.K]; exact ha)
    obtain ⟨e1, e2⟩ := in_core ok I rx bx he' r q
    exact SeqAt.in_tupleAt _ pl e1 ⟨.bl _, H, I, rfl, by rw [e2]; exact hq⟩
  | _ => cases px <;> simp [opCmp] at he
theorem snd_notin (ok : XOk T N sc k X) : OpR X (compareOp .NotIn) (rC T .notin) := by
  intro pins s σ H x y v u Q I rx ry ⟨g, px, py, z, bx, by_, he, hq⟩
  have flip : ∀ {o : Option Bool}, o.map (!·) = some z → o = some (!z) := by
    intro o h
    cases o with
    | none => cases h
    | some b => simp at h; subst h; simp
  cases py with
  | lst ys =>
    have he' : opIn px ys = some (!z) := flip (by cases px <;> simpa [opCmp] using he)
    obtain ⟨a, vs, rfl, ha, hl, r⟩ := by_.lst
    cases ry
    obtain ⟨its, q, pl, _⟩ := I.list (SqL.of ha)
    obtain ⟨e1, e2⟩ := in_core ok I rx bx he' r q
    exact SeqAt.notIn_listAt _ pl.isList e1 ⟨.bl _, H, I, rfl, by rw [e2, Bool.not_not]; exact hq⟩
  | tup ys =>
    have he' : opIn px ys = some (!z) := flip (by cases px <;> simpa [opCmp] using he)
    obtain ⟨a, vs, rfl, ha, hl, r⟩ := by_.tup
    cases ry
    obtain ⟨its, q, pl, _⟩ := I.tuple (by rw [ok.K]; exact ha)
    obtain ⟨e1, e2⟩ := in_core ok I rx bx he' r q
    exact SeqAt.notIn_tupleAt _ pl e1 ⟨.bl _, H, I, rfl, by rw [e2, Bool.not_not]; exact hq⟩
  | _ => cases px <;> simp [opCmp] at he
theorem snd_cop (ok : XOk T N sc k X) {o : CmpOp} {b : Cop} (h : cCop o = some b) : OpR X (compareOp o) (rC T b) := by
  cases o <;> simp [cCop] at h <;> subst h
  · exact snd_eq ok
  · exact snd_ne ok
  · exact snd_lt
  · exact snd_le
  · exact snd_gt
  · exact snd_ge
  · exact snd_is
  · exact snd_isnot
  · exact snd_in ok
  · exact snd_notin ok
end
end PL

/-! Built-in calls, items, slices, isinstance, methods, what is walked. -/
namespace PL
open PySem PySem.Spec PyProof.Rows L2

abbrev BdL (T : Tx) (g : Gh) (H : Hp) : List PV → List V → Prop := Paired (Bd T g H)
def rCB (T : Tx) (b : Bn) : List V → Hp → VK → Prop := fun ws H Q => ∃ g ps z fr, BdL T g H ps ws ∧ opB b ps = some (z, fr) ∧ ∀ w H', Made T g H z fr w H' → Q w H'

section
variable {T : Tx} {N : List Str} {sc : Scope} {k : Nat} {X : Cx} {g : Gh} {H : Hp}
theorem bdl1 {p : PV} {ws : List V} (b : BdL T g H [p] ws) : ∃ w, ws = [w] ∧ Bd T g H p w := by
  cases b with
  | cons r t => cases t; exact ⟨_, rfl, r⟩
theorem bdl2 {p q : PV} {ws : List V} (b : BdL T g H [p, q] ws) : ∃ w z, ws = [w, z] ∧ Bd T g H p w ∧ Bd T g H q z := by
  cases b with
  | cons r t => cases t with
    | cons r' t' => cases t'; exact ⟨_, _, rfl, r, r'⟩
theorem Bd.scr {xs : List PV} {v : V} (b : Bd T g H (.scr xs) v) : ∃ a vs, v = .ref a ∧ SqL T.K H a vs ∧ vs.length ≤ sizeLine ∧ TrL T g H xs vs := by
  have t : Tr T g H (.scr xs) v := b
  cases t with
  | scr hF e hl r => exact ⟨_, _, rfl, .inl (.inr ⟨_, e⟩), hl, r⟩
  | scrK h hl r => exact ⟨_, _, rfl, .inr h, hl, r⟩
theorem Bd.dic {ks : List Key} {xs : List PV} {v : V} (b : Bd T g H (.dic ks xs) v) : ∃ a vs, v = .ref a ∧ H a = some (.dK (ks.zip vs)) ∧ ks.length = vs.length ∧ TrL T g H xs vs := by
  have t : Tr T g H (.dic ks xs) v := b
  cases t with
  | dic hF e hl r => exact ⟨_, _, rfl, e, hl, r⟩
theorem scr_sq {K : PySem.W.Frag} {a : Addr} {vs : List V} (h : ∃ o, H a = some (.frz o (.lst vs))) : SqL K H a vs := .inl (.inr h)

/-- split the cases of opB's arguments -/
theorem snd_len (ok : XOk T N sc k X) : CallR X (.builtin "len") (rCB T .len) := by
  intro pins s σ H xs us Q I r ⟨g, ps, z, fr, b, he, hq⟩
  match ps, b, he with
  | [.lst ys], b, he =>
    obtain ⟨w, rfl, bw⟩ := bdl1 b
    obtain ⟨a, vs, rfl, ha, hl, t⟩ := bw.lst
    cases he
    refine call_len_seq pins s σ H _ us Q I r ⟨a, vs, rfl, .inl (SqL.of ha), ?_⟩
    rw [← t.length]
    exact hq _ _ (mk_same (.int _))
  | [.tup ys], b, he =>
    obtain ⟨w, rfl, bw⟩ := bdl1 b
    obtain ⟨a, vs, rfl, ha, hl, t⟩ := bw.tup
    cases he
    refine call_len_seq pins s σ H _ us Q I r ⟨a, vs, rfl, .inr (by rw [ok.K]; exact ha), ?_⟩
    rw [← t.length]
    exact hq _ _ (mk_same (.int _))
  | [.scr ys], b, he =>
    obtain ⟨w, rfl, bw⟩ := bdl1 b
    obtain ⟨a, vs, rfl, ha, hl, t⟩ := bw.scr
    cases he
    refine call_len_seq pins s σ H _ us Q I r ⟨a, vs, rfl, .inl (by rw [ok.K]; exact ha), ?_⟩
    rw [← t.length]
    exact hq _ _ (mk_same (.int _))
  | [.str ys], b, he =>
    obtain ⟨w, rfl, bw⟩ := bdl1 b
    cases bw.str
    simp only [opB] at he
    split at he
    · rename_i hl
      cases he
      rw [line_eq] at hl
      exact call_len_str pins s σ H _ us Q I r ⟨ys, rfl, hl, hq _ _ (mk_same (.int _))⟩
    · cases he
theorem snd_all (ok : XOk T N sc k X) : CallR X (.builtin "all") (rCB T .all) := by
  intro pins s σ H xs us Q I r ⟨g, ps, z, fr, b, he, hq⟩
  match ps, b, he with
  | [.lst ys], b, he =>
    obtain ⟨w, rfl, bw⟩ := bdl1 b
    obtain ⟨a, vs, rfl, ha, hl, t⟩ := bw.lst
    simp only [opB, Option.map_eq_some_iff] at he
    obtain ⟨bs, e1, e2⟩ := he
    cases e2
    have e3 := t.bools e1
    subst e3
    exact cr_all ok.calm pins s σ H _ us Q I r ⟨a, bs, rfl, SqL.of ha, hq _ _ (mk_same (.bl _))⟩
theorem snd_any (ok : XOk T N sc k X) : CallR X (.builtin "any") (rCB T .any) := by
  intro pins s σ H xs us Q I r ⟨g, ps, z, fr, b, he, hq⟩
  match ps, b, he with
  | [.lst ys], b, he =>
    obtain ⟨w, rfl, bw⟩ := bdl1 b
    obtain ⟨a, vs, rfl, ha, hl, t⟩ := bw.lst
    simp only [opB, Option.map_eq_some_iff] at he
    obtain ⟨bs, e1, e2⟩ := he
    cases e2
    have e3 := t.bools e1
    subst e3
    exact cr_any ok.calm pins s σ H _ us Q I r ⟨a, bs, rfl, SqL.of ha, hq _ _ (mk_same (.bl _))⟩
theorem snd_sum (ok : XOk T N sc k X) : CallR X (.builtin "sum") (rCB T .sum) := by
  intro pins s σ H xs us Q I r ⟨g, ps, z, fr, b, he, hq⟩
  match ps, b, he with
  | [.lst ys], b, he =>
    obtain ⟨w, rfl, bw⟩ := bdl1 b
    obtain ⟨a, vs, rfl, ha, hl, t⟩ := bw.lst
    simp only [opB, Option.map_eq_some_iff] at he
    obtain ⟨bs, e1, e2⟩ := he
    cases e2
    have e3 := t.ints e1
    subst e3
    exact cr_sum ok.calm pins s σ H _ us Q I r ⟨a, bs, rfl, SqL.of ha, hq _ _ (mk_same (.int _))⟩
theorem snd_abs : CallR X (.builtin "abs") (rCB T .abs) := by
  intro pins s σ H xs us Q I r ⟨g, ps, z, fr, b, he, hq⟩
  match ps, b, he with
  | [.int i], b, he =>
    obtain ⟨w, rfl, bw⟩ := bdl1 b
    cases bw.int
    cases he
    exact call_abs pins s σ H _ us Q I r ⟨i, rfl, hq _ _ (mk_same (.int _))⟩
theorem snd_int : CallR X (.type "int") (rCB T .int) := by
  intro pins s σ H xs us Q I r ⟨g, ps, z, fr, b, he, hq⟩
  match ps, b, he with
  | [.int i], b, he =>
    obtain ⟨w, rfl, bw⟩ := bdl1 b
    cases bw.int
    cases he
    exact call_int1 pins s σ H _ us Q I r (.inl ⟨i, rfl, hq _ _ (mk_same (.int _))⟩)
theorem snd_list (ok : XOk T N sc k X) : CallR X (.type "list") (rCB T .list) := by
  intro pins s σ H xs us Q I r ⟨g, ps, z, fr, b, he, hq⟩
  match ps, b, he with
  | [.lst ys], b, he =>
    obtain ⟨w, rfl, bw⟩ := bdl1 b
    obtain ⟨a, vs, rfl, ha, hl, t⟩ := bw.lst
    cases he
    exact call_list_of pins s σ H _ us Q I r ⟨a, vs, rfl, .inl (SqL.of ha), fun l hn => hq _ _ (mk_lst hn hl t)⟩
  | [.tup ys], b, he =>
    obtain ⟨w, rfl, bw⟩ := bdl1 b
    obtain ⟨a, vs, rfl, ha, hl, t⟩ := bw.tup
    cases he
    exact call_list_of pins s σ H _ us Q I r ⟨a, vs, rfl, .inr (by rw [ok.K]; exact ha), fun l hn => hq _ _ (mk_lst hn hl t)⟩
  | [.scr ys], b, he =>
    obtain ⟨w, rfl, bw⟩ := bdl1 b
    obtain ⟨a, vs, rfl, ha, hl, t⟩ := bw.scr
    cases he
    exact call_list_of pins s σ H _ us Q I r ⟨a, vs, rfl, .inl (by rw [ok.K]; exact ha), fun l hn => hq _ _ (mk_lst hn hl t)⟩
theorem snd_tuple (ok : XOk T N sc k X) : CallR X (.type "tuple") (rCB T .tuple) := by
  intro pins s σ H xs us Q I r ⟨g, ps, z, fr, b, he, hq⟩
  match ps, b, he with
  | [.lst ys], b, he =>
    obtain ⟨w, rfl, bw⟩ := bdl1 b
    obtain ⟨a, vs, rfl, ha, hl, t⟩ := bw.lst
    cases he
    exact call_tuple_of pins s σ H _ us Q I r ⟨a, vs, rfl, .inl ⟨SqL.of ha, fun l hn => hq _ _ (mk_tup hn hl t)⟩⟩
  | [.tup ys], b, he =>
    obtain ⟨w, rfl, bw⟩ := bdl1 b
    obtain ⟨a, vs, e, ha, hl, t⟩ := bw.tup
    cases he
    subst e
    exact call_tuple_of pins s σ H _ us Q I r ⟨a, vs, rfl, .inr ⟨by rw [ok.K]; exact ha, hq _ _ (mk_same (bw.tr (fun _ => nofun)))⟩⟩
theorem snd_max (ok : XOk T N sc k X) : CallR X (.builtin "max") (rCB T .max) := by
  intro pins s σ H xs us Q I r ⟨g, ps, z, fr, b, he, hq⟩
  match ps, b, he with
  | [.int i, .int j], b, he =>
    obtain ⟨w, y, rfl, bw, by_⟩ := bdl2 b
    cases bw.int; cases by_.int
    cases he
    exact call_max2 ok.calm pins s σ H _ us Q I r ⟨i, j, rfl, hq _ _ (mk_same (.int _))⟩
theorem snd_min (ok : XOk T N sc k X) : CallR X (.builtin "min") (rCB T .min) := by
  intro pins s σ H xs us Q I r ⟨g, ps, z, fr, b, he, hq⟩
  match ps, b, he with
  | [.int i, .int j], b, he =>
    obtain ⟨w, y, rfl, bw, by_⟩ := bdl2 b
    cases bw.int; cases by_.int
    cases he
    exact call_min2 ok.calm pins s σ H _ us Q I r ⟨i, j, rfl, hq _ _ (mk_same (.int _))⟩
/-- what a built-in's name holds -/
def bnVal : Bn → Value
  | .len => .builtin "len"
  | .all => .builtin "all"
  | .any => .builtin "any"
  | .sum => .builtin "sum"
  | .abs => .builtin "abs"
  | .int => .type "int"
  | .list => .type "list"
  | .tuple => .type "tuple"
  | .max => .builtin "max"
  | .min => .builtin "min"
theorem snd_bn (ok : XOk T N sc k X) (b : Bn) : CallR X (bnVal b) (rCB T b) := by
  cases b
  · exact snd_len ok
  · exact snd_all ok
  · exact snd_any ok
  · exact snd_sum ok
  · exact snd_abs
  · exact snd_int
  · exact snd_list ok
  · exact snd_tuple ok
  · exact snd_max ok
  · exact snd_min ok
theorem bn_boot {x : Str} {b : Bn} {lo hi : Nat} (h : bnOf x = some (b, lo, hi)) : bootBuiltins x = some (bnVal b) ∧ 1 ≤ lo := by
  unfold bnOf at h
  split at h; · rename_i e; cases h; subst e; exact ⟨by decide +kernel, by decide⟩
  split at h; · rename_i e; cases h; subst e; exact ⟨by decide +kernel, by decide⟩
  split at h; · rename_i e; cases h; subst e; exact ⟨by decide +kernel, by decide⟩
  split at h; · rename_i e; cases h; subst e; exact ⟨by decide +kernel, by decide⟩
  split at h; · rename_i e; cases h; subst e; exact ⟨by decide +kernel, by decide⟩
  split at h; · rename_i e; cases h; subst e; exact ⟨by decide +kernel, by decide⟩
  split at h; · rename_i e; cases h; subst e; exact ⟨by decide +kernel, by decide⟩
  split at h; · rename_i e; cases h; subst e; exact ⟨by decide +kernel, by decide⟩
  split at h; · rename_i e; cases h; subst e; exact ⟨by decide +kernel, by decide⟩
  split at h; · rename_i e; cases h; subst e; exact ⟨by decide +kernel, by decide⟩
  cases h

/-! ### truth -/
theorem Bd.tru {p : PV} {v : V} {c : Bool} (b : Bd T g H p v) (h : truthy p = some c) : TruV T.K v H c := by
  cases p with
  | non => cases b.non; cases h; rfl
  | bl x => cases b.bl; cases h; rfl
  | int i => cases b.int; cases h; rfl
  | str s =>
    cases b.str
    simp only [truthy] at h
    split at h
    · rename_i hl; cases h; rw [line_eq] at hl; exact ⟨hl, rfl⟩
    · cases h
  | lst xs =>
    obtain ⟨a, vs, rfl, ha, _, t⟩ := b.lst
    cases h
    refine .inl ⟨vs, SqL.of ha, ?_⟩
    cases t <;> rfl
  | tup xs =>
    obtain ⟨a, vs, rfl, ha, _, t⟩ := b.tup
    cases h
    refine .inr (.inl ⟨vs, ha, ?_⟩)
    cases t <;> rfl
  | dic ks xs =>
    obtain ⟨a, vs, rfl, ha, hl, t⟩ := b.dic
    cases h
    refine .inr (.inr ⟨_, ha, ?_⟩)
    cases ks with
    | nil => rfl
    | cons k ks => cases vs with
      | nil => simp at hl
      | cons v vs => rfl
  | _ => cases h

/-! ### items, slices -/
def rIdx (T : Tx) : R2 := fun x y H Q => ∃ g px py z, Bd T g H px x ∧ Bd T g H py y ∧ opIdx px py = some z ∧ ∀ w, Tr T g H z w → Q w H
theorem at_get {xs : List PV} {vs : List V} {i : Int} {z : PV} (t : TrL T g H xs vs) (h : ((PL.ixN xs.length i).bind fun j => xs[j]?) = some z) : ∃ w, atI vs i = some w ∧ Tr T g H z w := by
  cases q : PL.ixN xs.length i with
  | none => rw [q] at h; cases h
  | some j =>
    rw [q] at h
    obtain ⟨w, e1, e2⟩ := t.get (show xs[j]? = some z from h)
    refine ⟨w, ?_, e2⟩
    unfold atI
    have : L2.ixN vs.length i = some j := by rw [← t.length]; exact q
    rw [this]
    exact e1
theorem snd_idx (ok : XOk T N sc k X) : IxR X (rIdx T) := by
  intro value slice pins s σ H x y v u Q I rx ry ⟨g, px, py, z, bx, by_, he, hq⟩ hs
  cases px <;> cases py <;> simp only [opIdx] at he <;> first | (cases he; done) | skip
  · cases by_.int
    obtain ⟨a, vs, rfl, ha, hl, t⟩ := bx.lst
    obtain ⟨w, e1, e2⟩ := at_get t he
    exact ix_seq value slice pins s σ H _ _ v u Q I rx ry (.inl ⟨a, vs, _, w, rfl, rfl, SqL.of ha, e1, hq w e2⟩) hs
  · cases by_.int
    obtain ⟨a, vs, rfl, ha, hl, t⟩ := bx.tup
    obtain ⟨w, e1, e2⟩ := at_get t he
    exact ix_seq value slice pins s σ H _ _ v u Q I rx ry (.inr (.inl ⟨a, vs, _, w, rfl, rfl, by rw [ok.K]; exact ha, e1, hq w e2⟩)) hs
theorem sIx_eq (n d : Nat) (o : Option Int) : PL.sIx n d o = HT.sIx n d o := by
  cases o <;> rfl
theorem cut_tr {xs : List PV} {vs : List V} (t : TrL T g H xs vs) (lo hi : Option Int) : TrL T g H (cut xs lo hi) (cutV vs lo hi) := by
  unfold cut cutV
  rw [← t.length, sIx_eq, sIx_eq]
  exact (t.drop _).take _
def rSli (T : Tx) : V → Option Int → Option Int → Hp → VK → Prop := fun x lo hi H Q => ∃ g px z fr, Bd T g H px x ∧ opSli px lo hi = some (z, fr) ∧ ∀ w H', Made T g H z fr w H' → Q w H'
theorem snd_sli (ok : XOk T N sc k X) : SlR X (rSli T) := by
  intro pins s σ H x v vl vu lo hi sl Q I rx hsl pl pu ⟨g, px, z, fr, bx, he, hq⟩
  cases px <;> simp only [opSli] at he <;> first | (cases he; done) | skip
  · obtain ⟨a, vs, rfl, ha, hl, t⟩ := bx.lst
    cases he
    exact sl_list pins s σ H _ v vl vu lo hi sl Q I rx hsl pl pu ⟨a, vs, rfl, SqL.of ha, fun p hp => hq _ _ (mk_lst hp (Nat.le_trans (cutV_length vs lo hi) hl) (cut_tr t lo hi))⟩
  · obtain ⟨a, vs, rfl, ha, hl, t⟩ := bx.tup
    split at he
    · cases he
    · rename_i hc
      cases he
      rw [sIx_eq, sIx_eq, t.length] at hc
      exact sl_tup pins s σ H _ v vl vu lo hi sl Q I rx hsl pl pu ⟨a, vs, rfl, by rw [ok.K]; exact ha, hc, fun p hp => hq _ _ (mk_tup hp (Nat.le_trans (cutV_length vs lo hi) hl) (cut_tr t lo hi))⟩

/-! ### isinstance -/
theorem Bd.ty {p : PV} {v : V} {nm : String} (b : Bd T g H p v) (h : typeName p = some nm) : TyX T.K H v (.type nm) := by
  cases p with
  | non => cases b.non; cases h; exact .base .non
  | bl x => cases b.bl; cases h; exact .base (.bl _)
  | int i => cases b.int; cases h; exact .base (.int _)
  | str s => cases b.str; cases h; exact .base (.str _)
  | lst xs =>
    obtain ⟨a, vs, rfl, ha, _, t⟩ := b.lst
    cases h
    exact .base (.lst ha)
  | tup xs =>
    have t : Tr T g H (.tup xs) v := b
    cases h
    cases t with
    | tup hF e hl r => exact .base (.tup e)
    | tupK e r =>
      obtain ⟨o, its, n, e1, e2, _⟩ := e
      exact .kTuple e1 e2
  | dic ks xs =>
    obtain ⟨a, vs, rfl, ha, hl, t⟩ := b.dic
    cases h
    exact .base (.dK ha)
  | _ => cases h
def plainTy (t : String) : Bool := t == "int" || t == "bool" || t == "str" || t == "list" || t == "tuple" || t == "dict"
def valTy (n : String) : Bool := n == "NoneType" || plainTy n
theorem kit_all : (["NoneType", "int", "bool", "str", "list", "tuple", "dict"].all fun a => ["int", "bool", "str", "list", "tuple", "dict"].all fun b => decide (kitB a b = some (isType a b))) = true := by decide +kernel
theorem plainTy_mem {t : String} (h : plainTy t = true) : t ∈ ["int", "bool", "str", "list", "tuple", "dict"] := by
  simp only [plainTy, Bool.or_eq_true, beq_iff_eq, or_assoc] at h
  simpa using h
theorem valTy_mem {t : String} (h : valTy t = true) : t ∈ ["NoneType", "int", "bool", "str", "list", "tuple", "dict"] := by
  simp only [valTy, plainTy, Bool.or_eq_true, beq_iff_eq, or_assoc] at h
  simpa using h
theorem typeName_val {p : PV} {n : String} (h : typeName p = some n) : valTy n = true := by
  cases p <;> simp [typeName] at h <;> subst h <;> decide
theorem kit_one {K : PySem.W.Frag} {a b : String} (ha : valTy a = true) (hb : plainTy b = true) : PySem.W.kitOne K (.type a) (.type b) = some (isType a b) := by
  have h := List.all_eq_true.mp (List.all_eq_true.mp kit_all a (valTy_mem ha)) b (plainTy_mem hb)
  exact kit_ty (of_decide_eq_true h)
theorem kit_any {K : PySem.W.Frag} {a : String} (ha : valTy a = true) : ∀ {ts : List String}, ts.all plainTy = true → PySem.W.kitAny K (.type a) (ts.map Value.type) = some (isAny a ts)
  | [], _ => kitAny_nil
  | t :: ts, h => by
    have h' : plainTy t = true ∧ ts.all plainTy = true := by simpa using h
    refine kitAny_cons (kit_one ha h'.1) (fun e => ?_) fun e => ?_
    · rw [kit_any ha h'.2]
      simp [isAny, e]
    · simp [isAny, e]
end
end PL

/-! What a loop walks. -/
namespace PL
open PySem PySem.Spec PyProof.Rows L2

/-! ### a list or a tuple -/
def iSeqA (K : PySem.W.Frag) (tl : TE) : TI := fun σ H R => tl σ H fun x H1 => ∃ a, x = .ref a ∧ ((∃ xs, SqL K H1 a xs ∧ R (Itl K a) H1) ∨ (∃ xs, SqT K H1 a xs ∧ R (Itt K a) H1))
section
variable {X : Cx} {tg : Expr}
theorem pi_seqA {l : Expr} {tl : TE} (hl : PE X l tl) : PI X tg l (iSeqA X.K tl) := by
  refine ⟨fun pins s σ H R I h => ?_⟩
  refine thn (hl.run pins s σ H _ I h) fun v s1 ⟨x, H1, I1, r1, a, ex, q1⟩ => ?_
  subst ex
  cases r1
  have fin : ∀ b, b ∈ [s1.heap.objs.size] → FpOk X pins H1 b := fun b hb => by
    have e : b = s1.heap.objs.size := by simpa using hb
    subst e
    exact I1.fpOk (Nat.le_refl _) (I1.hok.fresh (Nat.le_refl _))
  rcases q1 with ⟨xs, hq, q⟩ | ⟨xs, hq, q⟩
  · obtain ⟨its, rv, p, hz⟩ := I1.list hq
    refine wpAny_pyIter_list p.isList ?_
    exact ⟨_, _, _, _, H1, rfl, I1.kept (t' := s1.toks) fun b o e => Heap.get?_push_of_some _ e, turn_list a _, ⟨_, Heap.get?_push_size _ rfl, rfl, rfl⟩, fin, q⟩
  · obtain ⟨its, rv, p, hz⟩ := I1.tuple hq
    refine wpAny_pyIter_tuple (show s1.heap.IsTuple a its.toArray from p) ?_
    exact ⟨_, _, _, _, H1, rfl, I1.kept (t' := s1.toks) fun b o e => Heap.get?_push_of_some _ e, turn_tuple a _, ⟨_, Heap.get?_push_size _ rfl, rfl, rfl⟩, fin, q⟩
end

/-! ### enumerate of a tuple -/
section
variable {prog : Program} {w : World} {A : Around} {E : Value → Shared → Prop} {s : Shared}
theorem enum_new1 {v : Value} {o : Obj} {H : Heap → Prop} (B : Begins v o H) :
    Meets (Builtin.«enumerate.__new__» ⟨[.type "enumerate", v], []⟩) (fun _ R s => H s.heap ∧
      R (.ok (.ret (.ref (s.heap.push o).objs.size))) { s with heap := (s.heap.push o).push { cls := .type "enumerate", data := .fields #[.none, .bool false, .ref s.heap.objs.size, rawInt 0, .none, .none] } }) :=
  .of_wp fun prog w A R s h => by
    obtain ⟨hp, g, d, tk, os⟩ := s
    obtain ⟨h1, h⟩ := h
    have hsub := sub_enumerate
    have q1 : ∀ {A' : Around} {E : Value → Shared → Prop} {Q : Value → Shared → Prop}, Q (.ref hp.objs.size) ⟨hp.push o, g, d, tk, os⟩ → wpAny (model prog w) A' (pyIter v) Q E ⟨hp, g, d, tk, os⟩ :=
      fun q => B.iter prog w _ _ ⟨hp, g, d, tk, os⟩ _ h1 q
    wp_walk using q1
    refine wpAny_stack_any fun st => wpAny_pure ?_
    split
    · rename_i c _ _ _ _ _
      cases (c == Value.type "enumerate") <;> (wp_walk using q1; exact ⟨_, rfl, h⟩)
    · wp_walk using q1
      exact ⟨_, rfl, h⟩
theorem enum_call1 {v : Value} {o : Obj} {H : Heap → Prop} {Q : Value → Shared → Prop} (B : Begins v o H) (h1 : H s.heap)
    (h : ∀ h', IsEnum h' (s.heap.objs.size + 1) s.heap.objs.size 0 .none → h'.get? s.heap.objs.size = some o → (∀ b o, s.heap.get? b = some o → h'.get? b = some o) → Q (.ref (s.heap.objs.size + 1)) { s with heap := h' }) :
    wpAny (model prog w) A (call (.type "enumerate") [v]) Q E s := by
  refine callType_new F.called_enumerate (by decide) (F.typeCall_enumerate_1 _) (F.newCall_enumerate_1 _) (fun obj => F.args_object_init_2 obj _) F.entry_enumerate_new (enum_new1 B) ⟨h1, ?_⟩
  have hz : (s.heap.push o).objs.size = s.heap.objs.size + 1 := Heap.size_push ..
  show _ ∧ _
  rw [hz]
  have he : IsEnum ((s.heap.push o).push { cls := .type "enumerate", data := .fields #[.none, .bool false, .ref s.heap.objs.size, rawInt 0, .none, .none] }) (s.heap.objs.size + 1) s.heap.objs.size 0 .none := by
    have := Heap.get?_push_size (s.heap.push o) (o := { cls := .type "enumerate", data := .fields #[.none, .bool false, .ref s.heap.objs.size, rawInt 0, .none, .none] }) rfl
    rw [hz] at this; exact this
  exact ⟨⟨_, he, rfl⟩, h _ he (Heap.get?_push_of_some _ (Heap.get?_push_size _ B.free)) fun b o x => Heap.get?_push_of_some _ (Heap.get?_push_of_some _ x)⟩
end
/-- the tuple at a, each item in a new pair with its index -/
def IteT (K : PySem.W.Frag) (a : Addr) : It :=
  ⟨fun i H => ∃ (xs : List V) (x : V), SqT K H a xs ∧ xs[i]? = some x, fun i H v H' => ∃ U x, v = .ref U ∧ H U = none ∧ H' = upd H U (.tup [.int (i : Nat), x]) ∧ ∀ xs, SqT K H a xs → xs[i]? = some x, fun i H => ∃ xs : List V, SqT K H a xs ∧ xs.length ≤ i⟩
theorem turn_enumT {P : Program} {w : World} {K : PySem.W.Frag} {elts : List Expr} {kk : Nat} {tpos : Pos} (a e it : Addr) (hae : a ≠ e) (hai : a ≠ it) :
    Turn P w K (.Tuple elts kk tpos) (IteT K a) [e, it] e (fun i h => (∃ old, IsEnum h e it ((i : Nat) : Int) old) ∧ h.IsTupleIter it a i ∧ e ≠ it) where
  mem := by simp
  obj := fun i h st b hb => by
    obtain ⟨⟨old, he⟩, ⟨o, ho, hc, hd⟩, _⟩ := st
    have e' : b = e ∨ b = it := by simpa using hb
    rcases e' with z | z
    · subst z; exact ⟨_, he, fun v q => nomatch q⟩
    · subst z; exact ⟨o, ho, fun v q => by rw [hd] at q; cases q⟩
  keep := fun i h h' st k => let ⟨⟨old, he⟩, hi, hne⟩ := st; ⟨⟨old, k e (by simp) _ he⟩, hi.at fun o q => k it (by simp) o q, hne⟩
  item := by
    intro X hP hw hK hc i pins s σ H E I hf st hg
    subst hP hw hK
    obtain ⟨⟨old, he⟩, hit, hne⟩ := st
    obtain ⟨xs, x, hq, hx⟩ := hg
    obtain ⟨its, rv, p, hz⟩ := I.tuple hq
    obtain ⟨u, hu, ru⟩ := rv.get hx
    have hel : e < s.heap.objs.size := Heap.lt_size he
    have hil : it < s.heap.objs.size := by obtain ⟨_, q, _⟩ := hit; exact Heap.lt_size q
    have D := Draws.tuple (prog := X.prog) (w := X.w) (A := X.A.in1) (I.ok.hd hc) it a hai its.toArray
    have hlt : i < its.toArray.size := by
      have := (List.getElem?_eq_some_iff.mp hu).1
      simpa using this
    refine wpAny_pyNext_enum_itemD D he ⟨hit, p⟩ hlt hne (by simp [hne, Ne.symm hae]) fun x' h' tk hx' ho hst' hT hsz hk => ?_
    have hu' : its.toArray[i]? = some u := by simpa using hu
    have ex : x' = u := by rw [hu'] at hx'; exact (Option.some.inj hx').symm
    subst ex
    refine ⟨_, rfl, wpAny_letOwnedTupleGo_enum (s := { s with heap := h', toks := tk + 1 }) ho fun h'' he' sb => ?_⟩
    have hT2 : h''.get? s.heap.objs.size = some { cls := .type "tuple", data := .seq #[.int i tk, x'] } := (sb.2 _ (Nat.ne_of_gt hel)).trans hT
    have new : ObjOk X.prog X.w (upd H s.heap.objs.size (.tup [.int (i : Nat), x])) h'' s.heap.objs.size (.tup [.int (i : Nat), x]) :=
      ⟨by show 2 ≤ sizeLine; decide, [.int i tk, x'], .cons ⟨_, rfl⟩ (.cons ru .nil), ⟨_, hT2, rfl, _, rfl⟩⟩
    have I1 : Inv X pins σ (upd H s.heap.objs.size (.tup [.int (i : Nat), x])) { s with heap := h'', toks := tk + 1 } :=
      I.turnedNew (ch := [e, it]) (fun b ob hb q => (sb.2 b (fun z => hb (by simp [z]))).trans (hk b ob (fun z => hb (by simp [z])) (fun z => hb (by simp [z])) q)) hf (Nat.le_refl _) new
    refine ⟨.ref s.heap.objs.size, _, I1, rfl, ⟨_, x, rfl, I.hok.fresh (Nat.le_refl _), rfl, fun ys hy => by rw [I.tuple_inj hy hq]; exact hx⟩, ⟨⟨x', ?_⟩, hst'.1.at fun o q => (sb.2 it (Ne.symm hne)).trans q, hne⟩, fun b hb => ?_⟩
    · have e1 : ((i + 1 : Nat) : Int) = (i : Int) + 1 := by omega
      rw [e1]; exact he'
    · have hb' : b < s.heap.objs.size := by
        have e' : b = e ∨ b = it := by simpa using hb
        rcases e' with z | z
        · rw [z]; exact hel
        · rw [z]; exact hil
      rw [upd_ne (Nat.ne_of_lt hb')]
      exact (hf b hb).1
  done := by
    intro X hP hw hK hc i pins s σ H E I hf st hg
    subst hP hw hK
    obtain ⟨⟨old, he⟩, hit, hne⟩ := st
    obtain ⟨xs, hq, hx⟩ := hg
    obtain ⟨its, rv, p, hz⟩ := I.tuple hq
    obtain ⟨f0, f1, f2, f3, f4, f5⟩ := hf it (by simp)
    have hl := rv.length
    obtain ⟨ho, hgt, hgc, hgd⟩ := id hit
    have hend : its.toArray[i]? = none := by simp; omega
    have hT : s.TypeIs (.ref e) "enumerate" := ⟨_, he, rfl⟩
    unfold pyNext
    refine wpAny_bind (wpAny_attempt (wpAny_callSpecial?_slot (name := Str.ofString "__next__") hT F.slot_enumerate_next
      (wpAny_call_entry F.slot_enumerate_next hT F.entry_enumerate_next ?_ (F.args_enumerate_next_1 _))))
    show wpAny _ _ (field (.ref e) 2 >>= _) _ _ _
    refine wpAny_bind (wpAny_field he rfl (x := .ref it) rfl ?_)
    refine wpAny_bind (wpAny_nextOf_tuple_end (I.ok.hd hc) hit p hend fun h' x' he' hx' => ?_)
    obtain ⟨o, ho, hc⟩ := hx'
    refine wpAny_bind (wpAny_isInstance (T := "StopIteration") (b := true) ⟨o, ho, hc⟩ isSubtype_stop ?_)
    exact wpAny_pure ⟨rfl, I.turned (t' := s.toks) (fun b o hb q => he' b o hb q) f0 f1 f3 f4 f5⟩
  self := fun A i s Q E st h => let ⟨⟨_, he⟩, _⟩ := st; wpAny_pyIter_enum he h
def iEnumA (K : PySem.W.Frag) (ta : TA) : TI := fun σ H R => ta σ H fun vs H1 => ∃ a xs, vs = [.ref a] ∧ ((SqL K H1 a xs ∧ R (Ite K a) H1) ∨ (SqT K H1 a xs ∧ R (IteT K a) H1))
theorem pi_enumA {X : Cx} {e : Expr} {ta : TA} {p pos tpos : Pos} {elts : List Expr} {kk : Nat} (hg : Gl X "enumerate") (hm : X.mg "enumerate" = none) (ha : PA X [e] ta) (hs : starEach [e] X.env = [(false, eval e X.env)]) :
    PI X (.Tuple elts kk tpos) (.Call (.Name "enumerate" p) [e] [] pos) (iEnumA X.K ta) := by
  refine ⟨fun pins s σ H R I h => ?_⟩
  refine Call_ (ld_blt I hg hm boot_enumerate (PyProof.Rows.callWith_type1 (thn (ha.run pos pins s σ H _ I h) fun us s1 ⟨vs, H1, I1, r1, q1⟩ => ?_) hs rfl))
  obtain ⟨a, xs, ex, q1⟩ := q1
  subst ex
  cases r1 with
  | cons r rr =>
    cases rr
    cases r
    have fin : ∀ b, b ∈ [s1.heap.objs.size + 1, s1.heap.objs.size] → FpOk X pins H1 b := fun b hb => by
      have e' : b = s1.heap.objs.size + 1 ∨ b = s1.heap.objs.size := by simpa using hb
      have hle : s1.heap.objs.size ≤ b := by
        rcases e' with z | z
        · rw [z]; exact Nat.le_add_right _ _
        · rw [z]; exact Nat.le_refl _
      exact I1.fpOk hle (I1.hok.fresh hle)
    rcases q1 with ⟨hq, q⟩ | ⟨hq, q⟩
    · obtain ⟨its, rv, p', hz⟩ := I1.list hq
      refine call_enumerate_list p'.isList fun h' he hit hsz hk => wpAny_pyIter_enum he ?_
      have I2 : Inv X pins σ H1 { s1 with heap := h' } := I1.kept (t' := s1.toks) hk
      exact ⟨_, _, _, _, H1, rfl, I2, turn_enum a (s1.heap.objs.size + 1) s1.heap.objs.size, ⟨⟨.none, he⟩, hit, Nat.succ_ne_self _⟩, fin, q⟩
    · obtain ⟨its, rv, p', hz⟩ := I1.tuple hq
      obtain ⟨oa, hoa, _⟩ := id p'
      have hal : a < s1.heap.objs.size := Heap.lt_size hoa
      refine enum_call1 (begins_tuple a its.toArray) (show s1.heap.IsTuple a its.toArray from p') fun h' he hit hk => wpAny_pyIter_enum he ?_
      have I2 : Inv X pins σ H1 { s1 with heap := h' } := I1.kept (t' := s1.toks) hk
      exact ⟨_, _, _, _, H1, rfl, I2, turn_enumT a (s1.heap.objs.size + 1) s1.heap.objs.size (Nat.ne_of_lt (Nat.lt_succ_of_lt hal)) (Nat.ne_of_lt hal), ⟨⟨.none, he⟩, ⟨_, hit, rfl, rfl⟩, Nat.succ_ne_self _⟩, fin, q⟩

/-! ### the items, one after another -/
/-- the cells are as they were seen -/
def GdAt (T : Tx) (g : Gh) (H : Hp) (gd : Gd) : Prop := ∀ z ∈ gd, ∀ a, g.ce[z.1]? = some a → ListAt T g H z.2 a
def ItRel (T : Tx) (g : Gh) (H : Hp) (J : It) (its : List PV) (gd : Gd) : Prop :=
  ∀ g' H', Ext g H g' H' → (∀ a, g'.F a → H' a ≠ none) → GdAt T g' H' gd → ∀ i, (∀ p, its[i]? = some p → J.go i H' ∧ ∀ x H3, J.yld i H' x H3 → ∃ D : Addr → Prop, (∀ a, H' a ≠ none → H3 a = H' a) ∧ (∀ a, D a → H' a = none ∧ H3 a ≠ none) ∧ Tr T (gF g' D) H3 p x) ∧
    (its.length ≤ i → J.stop i H')
mutual
theorem pvEq_eq : ∀ {x y : PV}, pvEq x y = true → x = y
  | x, y, h => by
    cases x <;> cases y <;> simp only [pvEq] at h <;> first
      | (cases h; done)
      | rfl
      | (rw [eq_of_beq h]; done)
      | (rw [pvsEq_eq h]; done)
      | (rw [Bool.and_eq_true] at h; rw [of_decide_eq_true h.1, pvsEq_eq h.2])
theorem pvsEq_eq : ∀ {xs ys : List PV}, pvsEq xs ys = true → xs = ys
  | [], [], _ => rfl
  | x :: xs, y :: ys, h => by
    simp only [pvsEq, Bool.and_eq_true] at h
    rw [pvEq_eq h.1, pvsEq_eq h.2]
  | [], _ :: _, h => by simp [pvsEq] at h
  | _ :: _, [], h => by simp [pvsEq] at h
end
theorem gd_of {T : Tx} {n : En} {g : Gh} {env : Env} {h : Hs} {σ : List (Option V)} {H : Hp} (S : Sim T n g env h σ H) {gd : Gd} (q : gdOk gd h = true) : GdAt T g H gd := fun z hz a ha => by
  have q1 : gd1 h z = true := List.all_eq_true.mp q z hz
  unfold gd1 at q1
  split at q1
  · rename_i xs hx
    have := S.cv z.1 _ a hx ha
    rw [← pvsEq_eq q1]
    exact this
  · cases q1
/-- where a list stands that is walked -/
def Keep (T : Tx) (g : Gh) (H : Hp) (gd : Gd) (xs : List PV) (a : Addr) : Prop := ∀ g' H', Ext g H g' H' → GdAt T g' H' gd → ∃ vs, SqL T.K H' a vs ∧ vs.length ≤ sizeLine ∧ TrL T g' H' xs vs
theorem Keep.sub {T : Tx} {g : Gh} {H : Hp} {gd gd' : Gd} {xs : List PV} {a : Addr} (k : Keep T g H gd xs a) (h : ∀ z ∈ gd, z ∈ gd') : Keep T g H gd' xs a := fun g' H' E G => k g' H' E fun z hz => G z (h z hz)
theorem Keep.ext {T : Tx} {g g1 : Gh} {H H1 : Hp} {gd : Gd} {xs : List PV} {a : Addr} (k : Keep T g H gd xs a) (E : Ext g H g1 H1) : Keep T g1 H1 gd xs a := fun g' H' E' G => k g' H' (E.trans E') G
theorem GdAt.nil {T : Tx} {g : Gh} {H : Hp} : GdAt T g H [] := fun z hz => by simp at hz
theorem GdAt.app {T : Tx} {g : Gh} {H : Hp} {gd gd' : Gd} (a : GdAt T g H gd) (b : GdAt T g H gd') : GdAt T g H (gd ++ gd') := fun z hz => by
  rcases List.mem_append.mp hz with hz | hz
  · exact a z hz
  · exact b z hz
theorem lst_kept {T : Tx} {n : En} {g : Gh} {env : Env} {h : Hs} {σ : List (Option V)} {H : Hp} (S : Sim T n g env h σ H) {p : PV} {v : V} (t : Tr T g H p v) {xs : List PV} {gd : Gd} (q : lstOf h p = some (xs, gd)) : ∃ a, v = .ref a ∧ Keep T g H gd xs a ∧ GdAt T g H gd := by
  cases p <;> simp only [lstOf] at q <;> first | (cases q; done) | skip
  · rename_i k
    split at q
    · rename_i o ys hk
      cases q
      cases t with
      | ref hn =>
        rename_i a
        refine ⟨a, rfl, fun g' H' E G => ?_, fun z hz b hb => ?_⟩
        · obtain ⟨l, hl⟩ := E.ce
          have hn' : g'.ce[k]? = some a := by rw [hl, List.getElem?_append_left (List.getElem?_eq_some_iff.mp hn).1]; exact hn
          obtain ⟨vs, e1, e2, e3⟩ := G (k, xs) (List.mem_singleton.mpr rfl) a hn'
          exact ⟨vs, SqL.of e1, e2, e3⟩
        · rw [List.mem_singleton.mp hz] at hb ⊢
          exact S.cv k _ b hk hb
    · cases q
  · cases q
    cases t with
    | lst hF e hl r => exact ⟨_, rfl, fun g' H' E G => ⟨_, SqL.of ((E.H _ hF).trans e), hl, r.ext E⟩, .nil⟩
section
variable {T : Tx} {g : Gh} {H : Hp}
theorem gF_no (g : Gh) (H : Hp) : Ext g H (gF g fun _ => False) H := ⟨fun _ h => .inl h, fun _ _ => rfl, [], by simp [gF]⟩
theorem it_kept {a : Addr} {xs : List PV} {gd : Gd} (k : Keep T g H gd xs a) : ItRel T g H (Itl T.K a) xs gd := by
  intro g' H' E hfin G i
  obtain ⟨vs, e', _, r⟩ := k g' H' E G
  refine ⟨fun p hp => ?_, fun hl => ⟨vs, e', by rw [← r.length]; exact hl⟩⟩
  obtain ⟨v, h1, h2⟩ := r.get hp
  refine ⟨⟨vs, v, e', h1⟩, fun x H3 ⟨q1, q2⟩ => ⟨fun _ => False, fun b _ => by rw [q1], fun b hb => hb.elim, ?_⟩⟩
  have := q2 vs e'
  rw [h1] at this
  cases this
  rw [q1]
  exact h2.ext (gF_no _ _)
/-- a tuple's place, kept -/
theorem tup_keep {xs : List PV} {v : V} (t : Tr T g H (.tup xs) v) : ∃ a vs, v = .ref a ∧ TrL T g H xs vs ∧ vs.length ≤ sizeLine ∧ ∀ g' H', Ext g H g' H' → SqT T.K H' a vs := by
  cases t with
  | tup hF e hl r => exact ⟨_, _, rfl, r, hl, fun g' H' E => SqT.of ((E.H _ hF).trans e)⟩
  | tupK e r =>
    refine ⟨_, _, rfl, r, ?_, fun g' H' E => ktup_sq e⟩
    obtain ⟨o, its, k, _, _, _, hz, hv⟩ := e
    rw [Vals.length hv]
    simpa using hz
theorem lst_keep {xs : List PV} {v : V} (t : Tr T g H (.lst xs) v) : ∃ a vs, v = .ref a ∧ TrL T g H xs vs ∧ vs.length ≤ sizeLine ∧ ∀ g' H', Ext g H g' H' → SqL T.K H' a vs := by
  cases t with
  | lst hF e hl r => exact ⟨_, _, rfl, r, hl, fun g' H' E => SqL.of ((E.H _ hF).trans e)⟩
theorem it_tup {a : Addr} {xs : List PV} {vs : List V} (r : TrL T g H xs vs) (k : ∀ g' H', Ext g H g' H' → SqT T.K H' a vs) : ItRel T g H (Itt T.K a) xs [] := by
  intro g' H' E hfin _ i
  have e' := k g' H' E
  refine ⟨fun p hp => ?_, fun hl => ⟨vs, e', by rw [← r.length]; exact hl⟩⟩
  obtain ⟨v, h1, h2⟩ := r.get hp
  refine ⟨⟨vs, v, e', h1⟩, fun x H3 ⟨q1, q2⟩ => ⟨fun _ => False, fun b _ => by rw [q1], fun b hb => hb.elim, ?_⟩⟩
  have := q2 vs e'
  rw [h1] at this
  cases this
  rw [q1]
  exact (h2.ext E).ext (gF_no _ _)
theorem it_rng (lo hi : Int) : ItRel T g H (Itr lo (hi - lo).toNat) (rngItems lo hi) [] := by
  intro g' H' E hfin _ i
  refine ⟨fun p hp => ?_, fun hl => by
    have : (rngItems lo hi).length = (hi - lo).toNat := by simp [rngItems]
    rw [this] at hl
    exact hl⟩
  simp only [rngItems, List.getElem?_map, Option.map_eq_some_iff] at hp
  obtain ⟨j, h1, h2⟩ := hp
  obtain ⟨h3, h4⟩ := List.getElem?_eq_some_iff.mp h1
  rw [List.getElem_range] at h4
  subst h4
  subst h2
  refine ⟨by rw [List.length_range] at h3; exact h3, fun x H3 ⟨q1, q2⟩ => ⟨fun _ => False, fun b _ => by rw [q1], fun b hb => hb.elim, ?_⟩⟩
  subst q2
  exact .int _
/-- a pair that is given out -/
theorem pair_tr {g' : Gh} {H' : Hp} {U : Addr} {p q : PV} {x y : V} (hn : H' U = none) (g0 : ∀ a, g'.F a → H' a ≠ none) (h1 : Tr T g' H' p x) (h2 : Tr T g' H' q y) :
    (∀ a, H' a ≠ none → upd H' U (.tup [x, y]) a = H' a) ∧ (∀ a, (a = U) → H' a = none ∧ upd H' U (.tup [x, y]) a ≠ none) ∧ Tr T (gF g' (· = U)) (upd H' U (.tup [x, y])) (.tup [p, q]) (.ref U) := by
  have E : Ext g' H' (gF g' (· = U)) (upd H' U (.tup [x, y])) := ⟨fun _ h => .inl h, fun a h => upd_grow hn a (g0 a h), [], by simp [gF]⟩
  refine ⟨upd_grow hn, fun a e => ?_, Tr.tup (g := gF g' (· = U)) (.inr rfl) upd_same (by show 2 ≤ sizeLine; decide) (.cons (h1.ext E) (.cons (h2.ext E) .nil))⟩
  subst e
  exact ⟨hn, by rw [upd_same]; exact fun z => nomatch z⟩
theorem enum_at {xs : List PV} {i : Nat} {p : PV} (h : (enumItems xs)[i]? = some p) : ∃ q, xs[i]? = some q ∧ p = .tup [.int (i : Nat), q] := by
  simp only [enumItems, List.getElem?_map, Option.map_eq_some_iff] at h
  obtain ⟨z, h1, h2⟩ := h
  rw [List.getElem?_zipIdx] at h1
  cases q : xs[i]? with
  | none => rw [q] at h1; simp at h1
  | some y =>
    rw [q] at h1
    simp at h1
    subst h1
    exact ⟨y, rfl, h2.symm⟩
theorem enum_len (xs : List PV) : (enumItems xs).length = xs.length := by simp [enumItems]
theorem zip_at {xs ys : List PV} {i : Nat} {p : PV} (h : (zipItems xs ys)[i]? = some p) : ∃ q r, xs[i]? = some q ∧ ys[i]? = some r ∧ p = .tup [q, r] := by
  simp only [zipItems, List.getElem?_map, Option.map_eq_some_iff] at h
  obtain ⟨z, h1, h2⟩ := h
  rw [List.getElem?_zip_eq_some] at h1
  exact ⟨z.1, z.2, h1.1, h1.2, h2.symm⟩
theorem zip_len (xs ys : List PV) : (zipItems xs ys).length = min xs.length ys.length := by simp [zipItems]
theorem it_enum {a : Addr} {xs : List PV} {gd : Gd} (k : Keep T g H gd xs a) : ItRel T g H (Ite T.K a) (enumItems xs) gd := by
  intro g' H' E hfin G i
  obtain ⟨vs, e', _, r⟩ := k g' H' E G
  refine ⟨fun p hp => ?_, fun hl => ⟨vs, e', by rw [enum_len] at hl; rw [← r.length]; exact hl⟩⟩
  obtain ⟨q, hq, rfl⟩ := enum_at hp
  obtain ⟨v, h1, h2⟩ := r.get hq
  refine ⟨⟨vs, v, e', h1⟩, fun x H3 ⟨U, y, q1, q2, q3, q4⟩ => ?_⟩
  have := q4 vs e'
  rw [h1] at this
  cases this
  subst q1 q3
  exact ⟨_, pair_tr q2 hfin (.int _) h2⟩
theorem it_enumT {a : Addr} {xs : List PV} {vs : List V} (r : TrL T g H xs vs) (k : ∀ g' H', Ext g H g' H' → SqT T.K H' a vs) : ItRel T g H (IteT T.K a) (enumItems xs) [] := by
  intro g' H' E hfin _ i
  have e' := k g' H' E
  refine ⟨fun p hp => ?_, fun hl => ⟨vs, e', by rw [enum_len] at hl; rw [← r.length]; exact hl⟩⟩
  obtain ⟨q, hq, rfl⟩ := enum_at hp
  obtain ⟨v, h1, h2⟩ := r.get hq
  refine ⟨⟨vs, v, e', h1⟩, fun x H3 ⟨U, y, q1, q2, q3, q4⟩ => ?_⟩
  have := q4 vs e'
  rw [h1] at this
  cases this
  subst q1 q3
  exact ⟨_, pair_tr q2 hfin (.int _) (h2.ext E)⟩
theorem it_zip {a b : Addr} {xs ys : List PV} {gd : Gd} (k : Keep T g H gd xs a) (l : Keep T g H gd ys b) : ItRel T g H (Itz T.K a b) (zipItems xs ys) gd := by
  intro g' H' E hfin G i
  obtain ⟨vs, e1, _, r⟩ := k g' H' E G
  obtain ⟨ws, e2, _, s⟩ := l g' H' E G
  refine ⟨fun p hp => ?_, fun hl => ⟨vs, ws, e1, e2, by rw [zip_len] at hl; rw [← r.length, ← s.length]; omega⟩⟩
  obtain ⟨q, q', hq, hq', rfl⟩ := zip_at hp
  obtain ⟨v, h1, h2⟩ := r.get hq
  obtain ⟨w, h3, h4⟩ := s.get hq'
  refine ⟨⟨vs, ws, v, w, e1, e2, h1, h3⟩, fun x H3 ⟨U, y, z, q1, q2, q3, q4, q5⟩ => ?_⟩
  have t1 := q4 vs e1
  have t2 := q5 ws e2
  rw [h1] at t1
  rw [h3] at t2
  cases t1
  cases t2
  subst q1 q3
  exact ⟨_, pair_tr q2 hfin h2 h4⟩
theorem it_zipT {a b : Addr} {xs ys : List PV} {vs ws : List V} (r : TrL T g H xs vs) (s : TrL T g H ys ws) (k : ∀ g' H', Ext g H g' H' → SqT T.K H' a vs) (l : ∀ g' H', Ext g H g' H' → SqT T.K H' b ws) : ItRel T g H (RZ.ItzT T.K a b) (zipItems xs ys) [] := by
  intro g' H' E hfin _ i
  have e1 := k g' H' E
  have e2 := l g' H' E
  refine ⟨fun p hp => ?_, fun hl => ⟨vs, ws, e1, e2, by rw [zip_len] at hl; rw [← r.length, ← s.length]; omega⟩⟩
  obtain ⟨q, q', hq, hq', rfl⟩ := zip_at hp
  obtain ⟨v, h1, h2⟩ := r.get hq
  obtain ⟨w, h3, h4⟩ := s.get hq'
  refine ⟨⟨vs, ws, v, w, e1, e2, h1, h3⟩, fun x H3 ⟨U, y, z, q1, q2, q3, q4, q5⟩ => ?_⟩
  have t1 := q4 vs e1
  have t2 := q5 ws e2
  rw [h1] at t1
  rw [h3] at t2
  cases t1
  cases t2
  subst q1 q3
  exact ⟨_, pair_tr q2 hfin (h2.ext E) (h4.ext E)⟩
end
end PL

/-! Readings; expressions. -/
namespace PL
open PySem PySem.Spec PyProof.Rows L2

/-- the def's entry -/
abbrev en0 (H : Hp) (g : Gh) : En := ⟨H, g.F, g.ce⟩

structure SimT (T : Tx) (n : En) (g : Gh) (e te : Env) (h : Hs) (σ ts : List (Option V)) (H : Hp) : Prop where
  l1 : e.length = σ.length
  l2 : te.length = ts.length
  sim : Sim T n g (e ++ te) h (σ ++ ts) H

/-- an error that is raised: its class, its one field -/
structure ClsT where
  x : Str
  A : Addr
  fs : List Str
def ExcAt (T : Tx) (cs : List ClsT) (g : Gh) (H : Hp) (c : Nat) (fs : List PV) (cls : Value) (d : Option Addr) : Prop :=
  ∃ k, cs[c]? = some k ∧ cls = .ref k.A ∧ ∃ dd vs, d = some dd ∧ g.F dd ∧ H dd = some (.xd (k.fs.zip vs)) ∧ k.fs.length = vs.length ∧ TrL T g H fs vs

/-- a def of the module -/
structure DefT where
  x : Str
  ps : List Str
  f : Addr
  fd : FuncData
/-- everything that a walk leans on -/
structure Wd where
  T : Tx
  cs : List ClsT
  ds : List DefT
  kw : List (Nat × Nat × List Str × List Nat)
  C : Calls
  W : WX

section
variable (D : Wd)
def Wp {α β : Type} (n : En) (σ : List (Option V)) (te : Env) (ts : List (Option V)) (rel : Gh → Hp → Env → α → β → Prop) (o : Out α) (g : Gh) (H : Hp) (Q : β → Hp → Prop) : Prop :=
  match o with
  | .ok r e h => ∀ g' H' w, Ext g H g' H' → SimT D.T n g' e te h σ ts H' → rel g' H' e r w → Q w H'
  | .exc c fs e h => ∀ g' H' cls d, Ext g H g' H' → SimT D.T n g' e te h σ ts H' → ExcAt D.T D.cs g' H' c fs cls d → D.W cls d σ H'
  | .stuck => False
end
section
variable {D : Wd} {n : En} {σ : List (Option V)} {te : Env} {ts : List (Option V)} {g : Gh} {H : Hp}
theorem Wp.mono {α β : Type} {rel : Gh → Hp → Env → α → β → Prop} {o : Out α} {Q : β → Hp → Prop} {g1 : Gh} {H1 : Hp} (E : Ext g H g1 H1) (h : Wp D n σ te ts rel o g H Q) : Wp D n σ te ts rel o g1 H1 Q := by
  cases o with
  | ok r e h' => exact fun g' H' w E' S r => h g' H' w (E.trans E') S r
  | exc c fs e h' => exact fun g' H' cls d E' S r => h g' H' cls d (E.trans E') S r
  | stuck => exact h
theorem Wp.bind {α α' β β' : Type} {relA : Gh → Hp → Env → α → β → Prop} {relB : Gh → Hp → Env → α' → β' → Prop} {o : Out α} {f : α → Env → Hs → Out α'} {Q : β' → Hp → Prop} {P : β → Hp → Prop}
    (h : Wp D n σ te ts relB (o.bind f) g H Q)
    (k : ∀ r e' h' g' H' w, o = .ok r e' h' → Ext g H g' H' → SimT D.T n g' e' te h' σ ts H' → relA g' H' e' r w → Wp D n σ te ts relB (f r e' h') g' H' Q → P w H') : Wp D n σ te ts relA o g H P := by
  cases o with
  | ok r e h' => exact fun g' H' w E S q => k r e h' g' H' w rfl E S q (h.mono E)
  | exc c fs e h' => exact h
  | stuck => exact h
theorem Wp.imp {α β : Type} {rel rel' : Gh → Hp → Env → α → β → Prop} {o : Out α} {Q Q' : β → Hp → Prop} (h : Wp D n σ te ts rel o g H Q) (hr : ∀ g H e r w, rel' g H e r w → rel g H e r w) (hq : ∀ w H, Q w H → Q' w H) : Wp D n σ te ts rel' o g H Q' := by
  cases o with
  | ok r e h' => exact fun g' H' w E S q => hq _ _ (h g' H' w E S (hr _ _ _ _ _ q))
  | exc c fs e h' => exact h
  | stuck => exact h
end

/-! ### the readings -/
section
variable (D : Wd)
/-- a state to start from -/
def Go (σ : List (Option V)) (H : Hp) (P : En → Gh → Env → Env → Hs → List (Option V) → Prop) : Prop := ∃ n g e te h ts, SimT D.T n g e te h σ ts H ∧ P n g e te h ts
def relA (n : En) (σ : List (Option V)) (te : Env) (ts : List (Option V)) : Gh → Hp → Env → Rs → V → Prop := fun g H e r w => RR D.T n g H (e ++ te) (σ ++ ts) r w
def tA (ex : Ex) : TE := fun σ H Q => Go D σ H fun n g e te h ts => Wp D n σ te ts (relA D n σ te ts) (evA D.C ex e h) g H Q
def relT : Gh → Hp → Env → Bool → Bool → Prop := fun _ _ _ r w => r = w
def tT (ex : Ex) : TT := fun σ H Q => Go D σ H fun n g e te h ts => Wp D n σ te ts relT (evT D.C ex e h) g H Q
def relL : Gh → Hp → Env → List PV → List V → Prop := fun g H _ r w => TrL D.T g H r w
def tL (ex : Ex) : TA := fun σ H Q => Go D σ H fun n g e te h ts => Wp D n σ te ts (relL D) (evL D.C ex e h) g H Q
/-- a result that was frozen, or a slot's -/
def RF (g : Gh) (H : Hp) (σ : List (Option V)) : Rs → V → Prop
  | .slot i, w => σ[i]? = some (some w)
  | .v p _, w => Tr D.T g H p w
def relR (σ ts : List (Option V)) : Gh → Hp → Env → List Rs → List V → Prop := fun g H _ r w => Paired (RF D g H (σ ++ ts)) r w
def tR (ex : Ex) : TA := fun σ H Q => Go D σ H fun n g e te h ts => Wp D n σ te ts (relR D σ ts) (evR D.C ex e h) g H Q
def relO : Gh → Hp → Env → Option Int → Option Int → Prop := fun _ _ _ r w => r = w
def tO (ex : Ex) : TO := fun σ H Q => Go D σ H fun n g e te h ts => Wp D n σ te ts relO (evO D.C ex e h) g H Q
def relI : Gh → Hp → Env → List PV × Gd → It → Prop := fun g H _ r J => ItRel D.T g H J r.1 r.2
def tI (ex : Ex) : TI := fun σ H R => Go D σ H fun n g e te h ts => Wp D n σ te ts (relI D) (evI D.C ex e h) g H R
end

section
variable {D : Wd} {n : En} {σ : List (Option V)} {e te : Env} {h : Hs} {ts : List (Option V)} {g : Gh} {H : Hp}
theorem RF.ext {g' : Gh} {H' : Hp} (E : Ext g H g' H') {s : List (Option V)} {r : Rs} {w : V} (h : RF D g H s r w) : RF D g' H' s r w := by
  cases r with
  | slot i => exact h
  | v p fr => exact Tr.ext E h
theorem Paired.imp' {α β : Type} {R R' : α → β → Prop} : ∀ {l₁ : List α} {l₂ : List β}, Paired R l₁ l₂ → (∀ a b, R a b → R' a b) → Paired R' l₁ l₂
  | _, _, .nil, _ => .nil
  | _, _, .cons h t, f => .cons (f _ _ h) (Paired.imp' t f)
/-- a result is kept while other things are reckoned: it is frozen -/
theorem SimT.keep (S : SimT D.T n g e te h σ ts H) {r : Rs} {w : V} (rr : RR D.T n g H (e ++ te) (σ ++ ts) r w) : ∃ g', Ext g H g' H ∧ SimT D.T n g' e te h σ ts H ∧ RF D g' H (σ ++ ts) r w := by
  cases r with
  | slot i => exact ⟨g, Ext.refl g H, S, rr⟩
  | v p fr =>
    obtain ⟨g', E, S', t⟩ := S.sim.frz rr
    exact ⟨g', E, ⟨S.l1, S.l2, S'⟩, t⟩
theorem rd_app {r : Rs} {x : PV} (hl : e.length = σ.length) (hx : rd r e h = some x) : rd r (e ++ te) h = some x := by
  cases r with
  | slot i =>
    simp only [rd] at hx ⊢
    cases q : e[i]? with
    | none => rw [q] at hx; cases hx
    | some s => rw [List.getElem?_append_left (List.getElem?_eq_some_iff.mp q).1, q]; rw [q] at hx; exact hx
  | v p fr => exact hx
theorem SimT.rd (S : SimT D.T n g e te h σ ts H) {r : Rs} {w : V} (rf : RF D g H (σ ++ ts) r w) {x : PV} (hx : PL.rd r e h = some x) : Bd D.T g H x w :=
  S.sim.rd (by cases r <;> exact rf) (rd_app S.l1 hx)
theorem esc_app {r : Rs} {p : PV} {fr : Bool} {e2 : Env} (hx : esc r e = some (p, fr, e2)) : esc r (e ++ te) = some (p, fr, e2 ++ te) ∧ e2.length = e.length := by
  cases r with
  | slot i =>
    simp only [esc] at hx ⊢
    cases q : e[i]? with
    | none => rw [q] at hx; cases hx
    | some s =>
      have hi := (List.getElem?_eq_some_iff.mp q).1
      rw [List.getElem?_append_left hi, q]
      rw [q] at hx
      cases s with
      | no => cases hx
      | val v => simp at hx; obtain ⟨rfl, rfl, rfl⟩ := hx; exact ⟨rfl, rfl⟩
      | own v =>
        simp at hx
        obtain ⟨rfl, rfl, rfl⟩ := hx
        refine ⟨?_, by simp⟩
        show some (_, false, (e ++ te).set i _) = _
        have e1 : (e ++ te).set i (SV.val v) = e.set i (SV.val v) ++ te := List.set_append_left _ _ hi
        rw [e1]
  | v p fr => simp [esc] at hx ⊢; obtain ⟨rfl, rfl, rfl⟩ := hx; exact ⟨⟨rfl, rfl, rfl⟩, rfl⟩
theorem SimT.esc (S : SimT D.T n g e te h σ ts H) {r : Rs} {w : V} (rr : RR D.T n g H (e ++ te) (σ ++ ts) r w) {p : PV} {fr : Bool} {e2 : Env} (he : PL.esc r e = some (p, fr, e2)) :
    ∃ g', Ext g H g' H ∧ SimT D.T n g' e2 te h σ ts H ∧ Res D.T n g' H (e2 ++ te) (σ ++ ts) p fr w := by
  obtain ⟨q, hl⟩ := esc_app (te := te) he
  obtain ⟨g', E, S', t⟩ := S.sim.esc rr q
  exact ⟨g', E, ⟨hl.trans S.l1, S.l2, S'⟩, t⟩
theorem SimT.escF (S : SimT D.T n g e te h σ ts H) {r : Rs} {w : V} (rr : RR D.T n g H (e ++ te) (σ ++ ts) r w) {p : PV} {fr : Bool} {e2 : Env} (he : PL.esc r e = some (p, fr, e2)) :
    ∃ g', Ext g H g' H ∧ SimT D.T n g' e2 te h σ ts H ∧ Tr D.T g' H p w := by
  obtain ⟨q, hl⟩ := esc_app (te := te) he
  obtain ⟨g', E, S', t⟩ := S.sim.escF rr q
  exact ⟨g', E, ⟨hl.trans S.l1, S.l2, S'⟩, t⟩
theorem SimT.made (S : SimT D.T n g e te h σ ts H) {z : PV} {fr : Bool} {w : V} {H' : Hp} (m : Made D.T g H z fr w H') : ∃ g', Ext g H g' H' ∧ SimT D.T n g' e te h σ ts H' ∧ Res D.T n g' H' (e ++ te) (σ ++ ts) z fr w := by
  obtain ⟨g', E, S', r⟩ := S.sim.made m
  exact ⟨g', E, ⟨S.l1, S.l2, S'⟩, r⟩
/-- the end of an operation that hands back a made thing -/
theorem Wp.made {z : PV} {fr : Bool} {w : V} {H' : Hp} {Q : VK} (hw : Wp D n σ te ts (relA D n σ te ts) (.ok (.v z fr) e h) g H Q) (S : SimT D.T n g e te h σ ts H) (m : Made D.T g H z fr w H') : Q w H' := by
  obtain ⟨g', E, S', r⟩ := S.made m
  exact hw g' H' w E S' r
end

/-! ### what the context gives -/
structure XG (D : Wd) (N : List Str) (sc : Scope) (asg : Str → Bool) (k : Nat) (X : Cx) : Prop extends XOk D.T N sc k X where
  tk : Takes X D.W
  po : PassesOwn (model X.prog X.w) X.A X.env X.xe
  fn : ∀ x, asg x = true → X.fn x = true ∨ X.env.scope.names.lookup x = some .local

theorem PE.of {X : Cx} {e : Expr} {t t' : TE} (h : PE X e t) (i : ∀ σ H Q, t' σ H Q → t σ H Q) : PE X e t' := ⟨fun pins s σ H Q I q => h.run pins s σ H Q I (i σ H Q q)⟩
theorem PT.of {X : Cx} {e : Expr} {t t' : TT} (h : PT X e t) (i : ∀ σ H Q, t' σ H Q → t σ H Q) : PT X e t' := ⟨fun pins s σ H Q I q => h.run pins s σ H Q I (i σ H Q q)⟩
theorem PW.of {X : Cx} {e : Expr} {t t' : TT} (h : PW X e t) (i : ∀ σ H Q, t' σ H Q → t σ H Q) : PW X e t' := ⟨fun wh pins s σ H Q I q => h.run wh pins s σ H Q I (i σ H Q q)⟩
theorem PA.of {X : Cx} {e : List Expr} {t t' : TA} (h : PA X e t) (i : ∀ σ H Q, t' σ H Q → t σ H Q) : PA X e t' := ⟨fun pos pins s σ H Q I q => h.run pos pins s σ H Q I (i σ H Q q)⟩
theorem PO.of {X : Cx} {e : Option Expr} {t t' : TO} (h : PO X e t) (i : ∀ σ H Q, t' σ H Q → t σ H Q) : PO X e t' := ⟨fun pins s σ H Q I q => h.run pins s σ H Q I (i σ H Q q)⟩
theorem PI.of {X : Cx} {tg e : Expr} {t t' : TI} (h : PI X tg e t) (i : ∀ σ H Q, t' σ H Q → t σ H Q) : PI X tg e t' := ⟨fun pins s σ H Q I q => h.run pins s σ H Q I (i σ H Q q)⟩
theorem pe_stuck {D : Wd} {X : Cx} {e : Expr} : PE X e (tA D .stuck) := ⟨fun pins s σ H Q I ⟨n, g, e', te, h, ts, S, w⟩ => by simp only [evA] at w; exact w.elim⟩
theorem pt_stuck {D : Wd} {X : Cx} {e : Expr} : PT X e (tT D .stuck) := ⟨fun pins s σ H Q I ⟨n, g, e', te, h, ts, S, w⟩ => by simp only [evT, evA, Out.bind] at w; exact w.elim⟩

theorem starEach_cons {e : Expr} {es : List Expr} {env : PySem.Env} (h : isStarE e = false) : starEach (e :: es) env = (false, eval e env) :: starEach es env := by
  cases e <;> first | rfl | (simp [isStarE] at h)
theorem starEach_plain {env : PySem.Env} {pos : Pos} : ∀ {es : List Expr}, (es.all fun e => !isStarE e) = true → (backTo pos (starEach es env)).any (·.1) = false
  | [], _ => rfl
  | e :: es, h => by
    have h' : isStarE e = false ∧ (es.all fun e => !isStarE e) = true := by simpa using h
    rw [starEach_cons h'.1]
    show (false || (backTo pos (starEach es env)).any (·.1)) = false
    rw [starEach_plain h'.2]; rfl

section
variable {D : Wd} {N : List Str} {sc : Scope} {asg : Str → Bool} {k : Nat} {X : Cx}
/-! names, constants -/
theorem visB_vis {sc : Scope} {x : Str} (h : visB sc x = true) : Vis sc x := by
  unfold visB at h
  unfold Vis
  split at h <;> first | (rename_i e; simp [e]; done) | cases h
theorem locB_loc {sc : Scope} {x : Str} (h : locB sc x = true) : L2.Loc sc x := by
  unfold locB at h
  unfold L2.Loc
  split at h <;> first | (rename_i e; simp [e]; done) | cases h
theorem glB_gl (ok : XOk D.T N sc k X) {x : Str} (h : glB sc x = true) : Gl X x := by
  unfold glB at h
  split at h
  · rename_i e
    show X.env.scope.names.lookup x = some .globalImplicit
    rw [ok.hsc]; exact e
  · cases h
theorem idxOf_get {x : Str} : ∀ {l : List Str} {i : Nat}, idxOf? x l = some i → l[i]? = some x
  | [], _, h => by cases h
  | y :: r, i, h => by
    unfold idxOf? at h
    split at h
    · rename_i e; cases h; rw [e]; rfl
    · cases q : idxOf? x r with
      | none => rw [q] at h; cases h
      | some j => rw [q] at h; cases h; exact (idxOf_get (l := r) q : r[j]? = some x)
theorem defOf_get {x : Str} : ∀ {l : List (Str × List Str)} {i : Nat} {ps : List Str}, defOf? x l = some (i, ps) → l[i]? = some (x, ps)
  | [], _, _, h => by cases h
  | (y, qs) :: r, i, ps, h => by
    unfold defOf? at h
    split at h
    · rename_i e; cases h; rw [e]; rfl
    · cases q : defOf? x r with
      | none => rw [q] at h; cases h
      | some z => rw [q] at h; cases h; exact (defOf_get (l := r) q : r[z.1]? = some (x, z.2))
theorem clsOf_get {x : Str} : ∀ {l : List (Str × Nat)} {i m : Nat}, clsOf? x l = some (i, m) → l[i]? = some (x, m)
  | [], _, _, h => by cases h
  | (y, qs) :: r, i, ps, h => by
    unfold clsOf? at h
    split at h
    · rename_i e; cases h; rw [e]; rfl
    · cases q : clsOf? x r with
      | none => rw [q] at h; cases h
      | some z => rw [q] at h; cases h; exact (clsOf_get (l := r) q : r[z.1]? = some (x, z.2))
theorem okName_ne {x : Str} (h : okName x = true) : (x == ("__debug__" : Str)) = false ∧ (x == ("__classdict__" : Str)) = false ∧ x ≠ "__name__" := by
  unfold okName at h
  simp only [Bool.and_eq_true, Bool.not_eq_true'] at h
  exact ⟨h.1.1, h.1.2, by simpa using h.2⟩

/-- what the compiler's knowledge of the module means -/
structure ScOk (D : Wd) (S : Sc) : Prop where
  defs : S.defs = D.ds.map fun d => (d.x, d.ps)
  fnA : ∀ (i : Nat) (d : DefT), D.ds[i]? = some d → D.T.fnA i = some d.f
  mgd : ∀ (i : Nat) (d : DefT), D.ds[i]? = some d → D.T.mg d.x = some (.ref d.f) ∧ PySem.W.keepIn D.T.K (.ref d.f) = true
  free : ∀ x ∈ S.free, D.T.mg x = none
theorem Rv {T : Tx} {n : En} {g : Gh} {H : Hp} {env : Env} {s : List (Option V)} {p : PV} {w : V} (t : Tr T g H p w) : RR T n g H env s (.v p false) w := Res.old t
theorem pe_con_val {e : Expr} {v : V} {p : PV} (h : PE X e (tC v)) (t : ∀ g H, Tr D.T g H p v) : PE X e (tA D (.con p)) :=
  PE.of h fun σ H Q ⟨n, g, e', te, h', ts, S, w⟩ => by
    simp only [evA] at w
    exact w g H v (Ext.refl g H) S (Rv (t g H))
theorem snd_name (ok : XOk D.T N sc k X) {S : Sc} (so : ScOk D S) (hN : S.N = N) (hs : S.sc = sc) {x : Str} {pos : Pos} : PE X (.Name x pos) (tA D (cName S x)) := by
  unfold cName
  split
  · rename_i hk
    obtain ⟨k1, k2, k3⟩ := okName_ne hk
    split
    · rename_i hv
      split
      · rename_i i hi
        refine PE.of (pv i (by rw [ok.hN, ← hN]; exact idxOf_get hi) (by rw [ok.hsc, ← hs]; exact visB_vis hv) k1 k2) fun σ H Q ⟨n, g, e, te, h, ts, S', w⟩ => ?_
        simp only [evA] at w
        have fin : ∀ s, e[i]? = some s → (s = .no → False) → Wp D n σ te ts (relA D n σ te ts) (.ok (.slot i) e h) g H Q → tVar i σ H Q := fun s hs hn w => by
          have hl : i < e.length := (List.getElem?_eq_some_iff.mp hs).1
          have q := S'.sim.sl i s (by rw [List.getElem?_append_left hl]; exact hs)
          have hσ : (σ ++ ts)[i]? = σ[i]? := List.getElem?_append_left (by rw [← S'.l1]; exact hl)
          cases s with
          | no => exact (hn rfl).elim
          | val p =>
            obtain ⟨v, e1, _⟩ := q
            exact ⟨v, by rw [← hσ]; exact e1, w g H v (Ext.refl g H) S' (show (σ ++ ts)[i]? = some (some v) from e1)⟩
          | own p =>
            obtain ⟨a, e1, _⟩ := q
            exact ⟨.ref a, by rw [← hσ]; exact e1, w g H _ (Ext.refl g H) S' (show (σ ++ ts)[i]? = some (some (.ref a)) from e1)⟩
        cases q : e[i]? with
        | none => rw [q] at w; exact w.elim
        | some s =>
          rw [q] at w
          cases s with
          | no => exact w.elim
          | val p => exact fin _ q (fun z => nomatch z) w
          | own p => exact fin _ q (fun z => nomatch z) w
      · exact pe_stuck
    · split
      · rename_i hg
        split
        · rename_i i ps hd
          have h1 := defOf_get hd
          rw [so.defs, List.getElem?_map, Option.map_eq_some_iff] at h1
          obtain ⟨d, h2, h3⟩ := h1
          cases h3
          obtain ⟨m1, _⟩ := so.mgd i d h2
          exact pe_con_val (v := .ref d.f) (pe_glob (glB_gl ok (by rw [← hs]; exact hg)) (by rw [ok.mg]; exact m1) rfl k1) fun g H => .fn (so.fnA i d h2)
        · exact pe_stuck
      · exact pe_stuck
  · exact pe_stuck
theorem snd_const {c : Const} {j : Nat} {pos : Pos} : PE X (.Constant c j pos) (tA D (cConst c)) := by
  cases c with
  | none => exact pe_con_val pe_non fun _ _ => .non
  | bool b => exact pe_con_val pe_bl fun _ _ => .bl b
  | int i => exact pe_con_val pe_int fun _ _ => .int i
  | str s => exact pe_con_val pe_str fun _ _ => .str s
  | _ => exact pe_stuck

/-! operators -/
/-- two parts, one behind another -/
theorem two_parts {a b : Ex} {σ : List (Option V)} {H : Hp} {n : En} {g : Gh} {e te : Env} {h : Hs} {ts : List (Option V)} {α β : Type} {rel : Gh → Hp → Env → α → β → Prop} {f : Rs → Rs → Env → Hs → Out α} {Q : β → Hp → Prop} {P : V → V → Hp → Prop}
    (S : SimT D.T n g e te h σ ts H) (w : Wp D n σ te ts rel ((evA D.C a e h).bind fun ra e1 h1 => (evA D.C b e1 h1).bind fun rb e2 h2 => f ra rb e2 h2) g H Q)
    (k : ∀ ra rb e2 h2 g2 H2 x y, SimT D.T n g2 e2 te h2 σ ts H2 → RF D g2 H2 (σ ++ ts) ra x → RF D g2 H2 (σ ++ ts) rb y → Wp D n σ te ts rel (f ra rb e2 h2) g2 H2 Q → P x y H2) :
    tA D a σ H fun x H1 => tA D b σ H1 fun y H2 => P x y H2 := by
  refine ⟨n, g, e, te, h, ts, S, Wp.bind w fun ra e1 h1 g1 H1 x _ E1 S1 r1 w1 => ?_⟩
  obtain ⟨g1', E1', S1', f1⟩ := S1.keep r1
  refine ⟨n, g1', e1, te, h1, ts, S1', Wp.bind (w1.mono E1') fun rb e2 h2 g2 H2 y _ E2 S2 r2 w2 => ?_⟩
  obtain ⟨g2', E2', S2', f2⟩ := S2.keep r2
  exact k ra rb e2 h2 g2' H2 x y S2' ((f1.ext E2).ext E2') f2 (w2.mono E2')
theorem snd_bin (ok : XOk D.T N sc k X) {a b : Expr} {op : Operator} {o : Bop} {pos : Pos} {ea eb : Ex} (ho : cBop op = some o) (ha : PE X a (tA D ea)) (hb : PE X b (tA D eb)) : PE X (.BinOp a op b pos) (tA D (.bin o ea eb)) :=
  PE.of (pe_op (snd_bop ok ho) ha hb) fun σ H Q ⟨n, g, e, te, h, ts, S, w⟩ => by
    simp only [evA] at w
    refine two_parts S w fun ra rb e2 h2 g2 H2 x y S2 f1 f2 w2 => ?_
    cases q1 : rd ra e2 h2 with
    | none => rw [q1] at w2; exact w2.elim
    | some px =>
      cases q2 : rd rb e2 h2 with
      | none => rw [q1, q2] at w2; exact w2.elim
      | some py =>
        rw [q1, q2] at w2
        simp only at w2
        cases q3 : opBin o px py with
        | none => rw [q3] at w2; exact w2.elim
        | some z =>
          rw [q3] at w2
          exact ⟨g2, px, py, z.1, z.2, S2.rd f1 q1, S2.rd f2 q2, q3, fun v H' m => Wp.made w2 S2 m⟩
theorem snd_cmp (ok : XOk D.T N sc k X) {a b : Expr} {op : CmpOp} {o : Cop} {pos : Pos} {ea eb : Ex} (ho : cCop op = some o) (hs : isSetE b = false) (ha : PE X a (tA D ea)) (hb : PE X b (tA D eb)) : PE X (.Compare a [op] [b] pos) (tA D (.cmp o ea eb)) := by
  have hm : behindInMarks op b = false := by cases b <;> first | rfl | (simp [isSetE] at hs)
  refine PE.of (pe_cmpR (snd_cop ok ho) ha hb hm) fun σ H Q ⟨n, g, e, te, h, ts, S, w⟩ => ?_
  simp only [evA] at w
  refine two_parts S w fun ra rb e2 h2 g2 H2 x y S2 f1 f2 w2 => ?_
  cases q1 : rd ra e2 h2 with
  | none => rw [q1] at w2; exact w2.elim
  | some px =>
    cases q2 : rd rb e2 h2 with
    | none => rw [q1, q2] at w2; exact w2.elim
    | some py =>
      rw [q1, q2] at w2
      simp only at w2
      cases q3 : opCmp o px py with
      | none => rw [q3] at w2; exact w2.elim
      | some z =>
        rw [q3] at w2
        exact ⟨g2, px, py, z, S2.rd f1 q1, S2.rd f2 q2, q3, Wp.made w2 S2 (mk_same (.bl z))⟩
theorem snd_idxE (ok : XOk D.T N sc k X) {a b : Expr} {pos : Pos} {ea eb : Ex} (hs : isSliceE b = false) (ha : PE X a (tA D ea)) (hb : PE X b (tA D eb)) : PE X (.Subscript a b pos) (tA D (.idx ea eb)) := by
  have hp : PlainIx b := fun o i => by cases b <;> first | rfl | (simp [isSliceE] at hs)
  refine PE.of (pe_ix (snd_idx ok) ha hb hp) fun σ H Q ⟨n, g, e, te, h, ts, S, w⟩ => ?_
  simp only [evA] at w
  refine two_parts S w fun ra rb e2 h2 g2 H2 x y S2 f1 f2 w2 => ?_
  cases q1 : rd ra e2 h2 with
  | none => rw [q1] at w2; exact w2.elim
  | some px =>
    cases q2 : rd rb e2 h2 with
    | none => rw [q1, q2] at w2; exact w2.elim
    | some py =>
      rw [q1, q2] at w2
      simp only at w2
      cases q3 : opIdx px py with
      | none => rw [q3] at w2; exact w2.elim
      | some z =>
        rw [q3] at w2
        exact ⟨g2, px, py, z, S2.rd f1 q1, S2.rd f2 q2, q3, fun v t => Wp.made w2 S2 (mk_same t)⟩
theorem snd_neg {a : Expr} {pos : Pos} {ea : Ex} (ha : PE X a (tA D ea)) : PE X (.UnaryOp .USub a pos) (tA D (.neg ea)) :=
  PE.of (pe_un un_neg ha) fun σ H Q ⟨n, g, e, te, h, ts, S, w⟩ => by
    simp only [evA] at w
    refine ⟨n, g, e, te, h, ts, S, Wp.bind w fun ra e1 h1 g1 H1 x _ E1 S1 r1 w1 => ?_⟩
    obtain ⟨g1', E1', S1', f1⟩ := S1.keep r1
    have w1' := w1.mono E1'
    cases q1 : rd ra e1 h1 with
    | none => rw [q1] at w1'; exact w1'.elim
    | some px =>
      rw [q1] at w1'
      cases px with
      | int i =>
        cases (S1'.rd f1 q1).int
        exact ⟨i, rfl, Wp.made w1' S1' (mk_same (.int _))⟩
      | _ => exact w1'.elim
/-- a truth -/
theorem tru_of (ok : XOk D.T N sc k X) {n : En} {σ : List (Option V)} {H : Hp} {g : Gh} {e te : Env} {h : Hs} {ts : List (Option V)} (S : SimT D.T n g e te h σ ts H) {r : Rs} {w : V} (f : RF D g H (σ ++ ts) r w) {c : Bool} (q : (rd r e h).bind truthy = some c) : TruV X.K w H c := by
  cases q1 : rd r e h with
  | none => rw [q1] at q; cases q
  | some p =>
    rw [q1] at q
    rw [ok.K]
    exact (S.rd f q1).tru q
theorem snd_not (ok : XOk D.T N sc k X) {a : Expr} {pos : Pos} {ea : Ex} (ha : PE X a (tA D ea)) : PE X (.UnaryOp .Not a pos) (tA D (.not ea)) :=
  PE.of (pe_notT ha) fun σ H Q ⟨n, g, e, te, h, ts, S, w⟩ => by
    simp only [evA] at w
    refine ⟨n, g, e, te, h, ts, S, Wp.bind w fun ra e1 h1 g1 H1 x _ E1 S1 r1 w1 => ?_⟩
    obtain ⟨g1', E1', S1', f1⟩ := S1.keep r1
    have w1' := w1.mono E1'
    cases q1 : (rd ra e1 h1).bind truthy with
    | none => rw [q1] at w1'; exact w1'.elim
    | some c =>
      rw [q1] at w1'
      exact ⟨c, tru_of ok S1' f1 q1, Wp.made w1' S1' (mk_same (.bl _))⟩
theorem snd_bools (ok : XOk D.T N sc k X) {op : BoolOp} {f : Expr → Ex} {pos : Pos} : ∀ {vs : List Expr}, (∀ a ∈ vs, PE X a (tA D (f a))) → PE X (.BoolOp op vs pos) (tA D (cBools op f vs))
  | [], _ => pe_stuck
  | [a], h => pe_one (h a List.mem_cons_self)
  | a :: b :: r, h => by
    have ha := h a List.mem_cons_self
    have hb := snd_bools ok (op := op) (f := f) (pos := pos) (vs := b :: r) fun z hz => h z (List.mem_cons_of_mem _ hz)
    cases op with
    | And =>
      refine PE.of (pe_andT ha hb) fun σ H Q ⟨n, g, e, te, h, ts, S, w⟩ => ?_
      simp only [cBools, evA] at w
      refine ⟨n, g, e, te, h, ts, S, Wp.bind w fun ra e1 h1 g1 H1 x _ E1 S1 r1 w1 => ?_⟩
      cases q1 : (rd ra e1 h1).bind truthy with
      | none => rw [q1] at w1; exact w1.elim
      | some c =>
        rw [q1] at w1
        obtain ⟨g1', E1', S1', f1⟩ := S1.keep r1
        have t1 := tru_of ok S1' f1 q1
        cases c with
        | true => exact ⟨true, t1, by rw [if_pos rfl]; exact ⟨n, g1, e1, te, h1, ts, S1, w1⟩⟩
        | false => exact ⟨false, t1, by rw [if_neg Bool.false_ne_true]; exact w1 g1 H1 x (Ext.refl _ _) S1 r1⟩
    | Or =>
      refine PE.of (pe_orT ha hb) fun σ H Q ⟨n, g, e, te, h, ts, S, w⟩ => ?_
      simp only [cBools, evA] at w
      refine ⟨n, g, e, te, h, ts, S, Wp.bind w fun ra e1 h1 g1 H1 x _ E1 S1 r1 w1 => ?_⟩
      cases q1 : (rd ra e1 h1).bind truthy with
      | none => rw [q1] at w1; exact w1.elim
      | some c =>
        rw [q1] at w1
        obtain ⟨g1', E1', S1', f1⟩ := S1.keep r1
        have t1 := tru_of ok S1' f1 q1
        cases c with
        | true => exact ⟨true, t1, by rw [if_pos rfl]; exact w1 g1 H1 x (Ext.refl _ _) S1 r1⟩
        | false => exact ⟨false, t1, by rw [if_neg Bool.false_ne_true]; exact ⟨n, g1, e1, te, h1, ts, S1, w1⟩⟩
theorem snd_ite {a b c : Expr} {pos : Pos} {ea eb ec : Ex} (hc : PT X c (tT D ec)) (ha : PE X a (tA D ea)) (hb : PE X b (tA D eb)) : PE X (.IfExp c a b pos) (tA D (.ite ec ea eb)) :=
  PE.of (pe_ifExp hc ha hb) fun σ H Q ⟨n, g, e, te, h, ts, S, w⟩ => by
    simp only [evA] at w
    refine ⟨n, g, e, te, h, ts, S, Wp.bind w fun c e1 h1 g1 H1 x _ E1 S1 r1 w1 => ?_⟩
    cases r1
    cases c with
    | true => rw [if_pos rfl] at w1 ⊢; exact ⟨n, g1, e1, te, h1, ts, S1, w1⟩
    | false => rw [if_neg Bool.false_ne_true] at w1 ⊢; exact ⟨n, g1, e1, te, h1, ts, S1, w1⟩
end
end PL

/-! Arguments, displays, calls, methods. -/
namespace PL
open PySem PySem.Spec PyProof.Rows L2

section
variable {D : Wd} {N : List Str} {sc : Scope} {asg : Str → Bool} {k : Nat} {X : Cx}

theorem snd_args {f : Expr → Ex} : ∀ {es : List Expr}, (es.all fun e => !isStarE e) = true → (∀ e ∈ es, PE X e (tA D (f e))) → PA X es (tL D (cList f es))
  | [], _, _ => PA.of pa_nil fun σ H Q ⟨n, g, e, te, h, ts, S, w⟩ => by
    simp only [cList, evL] at w
    exact w g H [] (Ext.refl _ _) S .nil
  | a :: es, hs, hf => by
    have h' : isStarE a = false ∧ (es.all fun e => !isStarE e) = true := by simpa using hs
    refine PA.of (pa_cons (hf a List.mem_cons_self) (snd_args h'.2 fun e he => hf e (List.mem_cons_of_mem _ he)) (starEach_cons h'.1)) fun σ H Q ⟨n, g, e, te, h, ts, S, w⟩ => ?_
    simp only [cList, evL] at w
    refine ⟨n, g, e, te, h, ts, S, Wp.bind w fun r e1 h1 g1 H1 x _ E1 S1 r1 w1 => ?_⟩
    cases q : esc r e1 with
    | none => rw [q] at w1; exact w1.elim
    | some z =>
      obtain ⟨p, fr, e2⟩ := z
      rw [q] at w1
      obtain ⟨g1', E1', S1', t1⟩ := S1.escF r1 q
      refine ⟨n, g1', e2, te, h1, ts, S1', Wp.bind (w1.mono E1') fun ps e3 h3 g3 H3 xs _ E3 S3 r3 w3 => ?_⟩
      exact w3 g3 H3 (x :: xs) (Ext.refl _ _) S3 (.cons (t1.ext E3) r3)
theorem snd_looks {f : Expr → Ex} : ∀ {es : List Expr}, (es.all fun e => !isStarE e) = true → (∀ e ∈ es, PE X e (tA D (f e))) → PA X es (tR D (cList f es))
  | [], _, _ => PA.of pa_nil fun σ H Q ⟨n, g, e, te, h, ts, S, w⟩ => by
    simp only [cList, evR] at w
    exact w g H [] (Ext.refl _ _) S .nil
  | a :: es, hs, hf => by
    have h' : isStarE a = false ∧ (es.all fun e => !isStarE e) = true := by simpa using hs
    refine PA.of (pa_cons (hf a List.mem_cons_self) (snd_looks h'.2 fun e he => hf e (List.mem_cons_of_mem _ he)) (starEach_cons h'.1)) fun σ H Q ⟨n, g, e, te, h, ts, S, w⟩ => ?_
    simp only [cList, evR] at w
    refine ⟨n, g, e, te, h, ts, S, Wp.bind w fun r e1 h1 g1 H1 x _ E1 S1 r1 w1 => ?_⟩
    obtain ⟨g1', E1', S1', f1⟩ := S1.keep r1
    refine ⟨n, g1', e1, te, h1, ts, S1', Wp.bind (w1.mono E1') fun ps e3 h3 g3 H3 xs _ E3 S3 r3 w3 => ?_⟩
    exact w3 g3 H3 (x :: xs) (Ext.refl _ _) S3 (.cons (f1.ext E3) r3)
/-- how many values come -/
theorem evL_len {C : Calls} {f : Expr → Ex} : ∀ {es : List Expr} {e : Env} {h : Hs} {ps : List PV} {e' : Env} {h' : Hs}, evL C (cList f es) e h = .ok ps e' h' → ps.length = es.length
  | [], e, h, ps, e', h', q => by simp only [cList, evL] at q; cases q; rfl
  | a :: es, e, h, ps, e', h', q => by
    simp only [cList, evL] at q
    cases q1 : evA C (f a) e h with
    | stuck => rw [q1] at q; cases q
    | exc c fs e1 h1 => rw [q1] at q; cases q
    | ok r e1 h1 =>
      rw [q1] at q
      simp only [Out.bind] at q
      cases q2 : esc r e1 with
      | none => rw [q2] at q; cases q
      | some z =>
        obtain ⟨p, fr, e2⟩ := z
        rw [q2] at q
        simp only at q
        cases q3 : evL C (cList f es) e2 h1 with
        | stuck => rw [q3] at q; cases q
        | exc c fs e1 h1 => rw [q3] at q; cases q
        | ok ps2 e3 h3 =>
          rw [q3] at q
          cases q
          simp [evL_len q3]
theorem small1000' {n : Nat} (h : n ≤ 1000) : n ≤ sizeLine := Nat.le_of_lt (small1000 h)
theorem snd_lstE {f : Expr → Ex} {es : List Expr} {pos : Pos} (hl : es.length ≤ 1000) (hs : (es.all fun e => !isStarE e) = true) (hf : ∀ e ∈ es, PE X e (tA D (f e))) : PE X (.List es pos) (tA D (.lst (cList f es))) :=
  PE.of (pe_lst (snd_args hs hf)) fun σ H Q ⟨n, g, e, te, h, ts, S, w⟩ => by
    simp only [evA] at w
    refine ⟨n, g, e, te, h, ts, S, Wp.bind w fun ps e1 h1 g1 H1 xs q E1 S1 r1 w1 => ?_⟩
    have hz : xs.length ≤ sizeLine := small1000' (by rw [← TrL.length r1, evL_len q]; exact hl)
    exact ⟨hz, fun p hp => Wp.made w1 S1 (mk_lst hp hz r1)⟩
theorem snd_tupE {f : Expr → Ex} {es : List Expr} {j : Nat} {pos : Pos} (hl : es.length ≤ 1000) (hs : (es.all fun e => !isStarE e) = true) (hf : ∀ e ∈ es, PE X e (tA D (f e))) : PE X (.Tuple es j pos) (tA D (.tup (cList f es))) :=
  PE.of (pe_tup (snd_args hs hf)) fun σ H Q ⟨n, g, e, te, h, ts, S, w⟩ => by
    simp only [evA] at w
    refine ⟨n, g, e, te, h, ts, S, Wp.bind w fun ps e1 h1 g1 H1 xs q E1 S1 r1 w1 => ?_⟩
    have hz : xs.length ≤ sizeLine := small1000' (by rw [← TrL.length r1, evL_len q]; exact hl)
    exact ⟨hz, fun p hp => Wp.made w1 S1 (mk_tup hp hz r1)⟩
theorem snd_dic0 {pos : Pos} : PE X (.Dict [] [] pos) (tA D .dic0) :=
  PE.of pe_dnewK fun σ H Q ⟨n, g, e, te, h, ts, S, w⟩ => by
    simp only [evA] at w
    exact fun p hp => Wp.made w S (.inr ⟨p, _, rfl, hp, rfl, .inr (.inr ⟨rfl, [], [], [], rfl, rfl, rfl, .nil⟩)⟩)
/-- an owned list becomes a cell -/
theorem Sim.toCell {T : Tx} {n : En} {g : Gh} {env : Env} {h : Hs} {σ : List (Option V)} {H : Hp} (S : Sim T n g env h σ H) {xs : List PV} {a : Addr} (o : Owned T n g H (.lst xs) a) (ap : Apart env σ a) :
    Ext g H ⟨g.F, g.ce ++ [a]⟩ H ∧ Sim T n ⟨g.F, g.ce ++ [a]⟩ env (h ++ [.lst xs]) σ H := by
  have E : Ext g H ⟨g.F, g.ce ++ [a]⟩ H := ⟨fun _ x => x, fun _ _ => rfl, [a], rfl⟩
  refine ⟨E, S.len, S.fin, S.F0, S.Fn, ?_, fun b x y => ?_, ?_, by simp [S.cl], fun i c b h1 h2 => ?_, fun b h1 h2 => ?_, fun i s hs => ?_, S.od⟩
  · obtain ⟨l, e1, e2⟩ := S.c0
    refine ⟨l ++ [a], by simp [e1], fun b hb => ?_⟩
    rcases List.mem_append.mp hb with hb | hb
    · exact e2 b hb
    · rw [List.mem_singleton.mp hb]; exact o.ne
  · rcases List.mem_append.mp x with x | x
    · exact S.cF b x y
    · rw [List.mem_singleton.mp x] at y; exact o.nF y
  · refine List.nodup_append.mpr ⟨S.cd, by simp, fun x hx y hy => ?_⟩
    rw [List.mem_singleton.mp hy]
    exact fun e => o.nc (e ▸ hx)
  · by_cases hi : i < h.length
    · rw [List.getElem?_append_left hi] at h1
      have hi' : i < g.ce.length := by rw [← S.cl]; exact hi
      have h2' : g.ce[i]? = some b := by
        have : (g.ce ++ [a])[i]? = some b := h2
        rw [List.getElem?_append_left hi'] at this; exact this
      have q := S.cv i c b h1 h2'
      cases c
      exact ListAt.ext E rfl q
    · have hl : i < (h ++ [Cell.lst xs]).length := (List.getElem?_eq_some_iff.mp h1).1
      have hi2 : i = h.length := by simp at hl; omega
      subst hi2
      rw [List.getElem?_append_right (Nat.le_refl _)] at h1
      simp at h1
      have h2' : (g.ce ++ [a])[h.length]? = some b := h2
      rw [S.cl, List.getElem?_append_right (Nat.le_refl _)] at h2'
      simp at h2'
      subst h1 h2'
      have q : ListAt T g H xs a := o.at_
      exact q.ext E rfl
  · exact S.fr b h1 fun x => h2 (List.mem_append_left _ x)
  · have q := S.sl i s hs
    cases s with
    | no => trivial
    | val p => obtain ⟨w, e1, e2⟩ := q; exact ⟨w, e1, e2.ext E⟩
    | own p =>
      obtain ⟨b, e1, e2⟩ := q
      refine ⟨b, e1, e2.nF, fun x => ?_, e2.ne, e2.at_.ext E rfl⟩
      rcases List.mem_append.mp x with x | x
      · exact e2.nc x
      · rw [List.mem_singleton.mp x] at e1; exact ap i p hs e1
theorem imp_cell {ex : Ex} {σ : L2.St} {H : Hp} {Q : VK} : tA D (.cell ex) σ H Q → tA D ex σ H Q := fun ⟨n, g, e, te, h, ts, S, w⟩ => by
    simp only [evA] at w
    refine ⟨n, g, e, te, h, ts, S, Wp.bind w fun r e1 h1 g1 H1 x _ E1 S1 r1 w1 => ?_⟩
    match r, r1, w1 with
    | .v (.lst xs) true, r1, w1 =>
      obtain ⟨a, rfl, o, ap⟩ := r1
      obtain ⟨E2, S2⟩ := S1.sim.toCell o ap
      refine w1 _ H1 (.ref a) E2 ⟨S1.l1, S1.l2, S2⟩ (Rv (.ref ?_))
      show (g1.ce ++ [a])[h1.length]? = some a
      rw [S1.sim.cl, List.getElem?_append_right (Nat.le_refl _)]
      simp
    | .v (.lst xs) false, _, w1 => exact w1.elim
    | .slot _, _, w1 => exact w1.elim
    | .v .non _, _, w1 => exact w1.elim
    | .v (.bl _) _, _, w1 => exact w1.elim
    | .v (.int _) _, _, w1 => exact w1.elim
    | .v (.str _) _, _, w1 => exact w1.elim
    | .v (.ty _) _, _, w1 => exact w1.elim
    | .v (.fn _) _, _, w1 => exact w1.elim
    | .v (.ref _) _, _, w1 => exact w1.elim
    | .v (.scr _) _, _, w1 => exact w1.elim
    | .v (.tup _) _, _, w1 => exact w1.elim
    | .v (.dic _ _) _, _, w1 => exact w1.elim
theorem snd_cell {e : Expr} {ex : Ex} (h : PE X e (tA D ex)) : PE X e (tA D (.cell ex)) := PE.of h fun _ _ _ q => imp_cell q
theorem imp_celIf {S : Sc} {ex : Ex} {σ : L2.St} {H : Hp} {Q : VK} (q : tA D (celIf S ex) σ H Q) : tA D ex σ H Q := by
  unfold celIf at q
  split at q
  · exact imp_cell q
  · exact q
theorem snd_celIf {S : Sc} {e : Expr} {ex : Ex} (h : PE X e (tA D ex)) : PE X e (tA D (celIf S ex)) := by
  unfold celIf
  split
  · exact snd_cell h
  · exact h

/-! slices, chains -/
theorem snd_optN : PO X none (tO D .nil) := PO.of po_none fun σ H Q ⟨n, g, e, te, h, ts, S, w⟩ => by
  simp only [evO] at w
  exact w g H none (Ext.refl _ _) S rfl
/-- evO's and evT's own forms -/
def plainX : Ex → Bool
  | .nil => false
  | .not _ => false
  | .and _ _ => false
  | .or _ _ => false
  | .ite _ _ _ => false
  | _ => true
theorem evO_plain {C : Calls} {ex : Ex} (h : ex ≠ .nil) (e : Env) (hh : Hs) : evO C ex e hh = (evA C ex e hh).bind fun ra e1 h1 => match rd ra e1 h1 with
      | some (.int i) => .ok (some i) e1 h1
      | _ => .stuck := by
  cases ex <;> first | (exact absurd rfl h) | (simp only [evO]; done) | (unfold evO; rfl)
theorem evT_plain {C : Calls} {ex : Ex} (h : plainX ex = true) (e : Env) (hh : Hs) : evT C ex e hh = (evA C ex e hh).bind fun ra e1 h1 => lift ((rd ra e1 h1).bind truthy) e1 h1 := by
  cases ex <;> first | (cases h; done) | (simp only [evT]; done) | (unfold evT; rfl)
theorem snd_optS {a : Expr} {ex : Ex} (hn : ex ≠ .nil) (ha : PE X a (tA D ex)) : PO X (some a) (tO D ex) := PO.of (po_some ha) fun σ H Q ⟨n, g, e, te, h, ts, S, w⟩ => by
  simp only [evO_plain hn] at w
  refine ⟨n, g, e, te, h, ts, S, Wp.bind w fun ra e1 h1 g1 H1 x _ E1 S1 r1 w1 => ?_⟩
  obtain ⟨g1', E1', S1', f1⟩ := S1.keep r1
  have w1' := w1.mono E1'
  cases q1 : rd ra e1 h1 with
  | none => rw [q1] at w1'; exact w1'.elim
  | some px =>
    rw [q1] at w1'
    cases px with
    | int i =>
      cases (S1'.rd f1 q1).int
      exact ⟨i, rfl, w1' g1' H1 (some i) (Ext.refl _ _) S1' rfl⟩
    | _ => exact w1'.elim
theorem snd_sliE (ok : XOk D.T N sc k X) {a : Expr} {lo hi : Option Expr} {p2 pos : Pos} {ea el eh : Ex} (ha : PE X a (tA D ea)) (hl : PO X lo (tO D el)) (hh : PO X hi (tO D eh)) : PE X (.Subscript a (.Slice lo hi none p2) pos) (tA D (.sli ea el eh)) :=
  PE.of (pe_slice (snd_sli ok) ha hl hh) fun σ H Q ⟨n, g, e, te, h, ts, S, w⟩ => by
    simp only [evA] at w
    refine ⟨n, g, e, te, h, ts, S, Wp.bind w fun ra e1 h1 g1 H1 x _ E1 S1 r1 w1 => ?_⟩
    obtain ⟨g1', E1', S1', f1⟩ := S1.keep r1
    refine ⟨n, g1', e1, te, h1, ts, S1', Wp.bind (w1.mono E1') fun l e2 h2 g2 H2 l' _ E2 S2 r2 w2 => ?_⟩
    cases r2
    refine ⟨n, g2, e2, te, h2, ts, S2, Wp.bind w2 fun u e3 h3 g3 H3 u' _ E3 S3 r3 w3 => ?_⟩
    cases r3
    cases q1 : rd ra e3 h3 with
    | none => rw [q1] at w3; exact w3.elim
    | some px =>
      rw [q1] at w3
      simp only at w3
      cases q3 : opSli px l u with
      | none => rw [q3] at w3; exact w3.elim
      | some z =>
        rw [q3] at w3
        exact ⟨g3, px, z.1, z.2, S3.rd ((f1.ext E2).ext E3) q1, q3, fun v H' m => Wp.made w3 S3 m⟩
theorem snd_chain (ok : XOk D.T N sc k X) {a b c : Expr} {op op' : CmpOp} {o o' : Cop} {pos : Pos} {ea eb ec : Ex} (ho : cCop op = some o) (ho' : cCop op' = some o') (hs : isSetE b = false) (hs' : isSetE c = false)
    (ha : PE X a (tA D ea)) (hb : PE X b (tA D eb)) (hc : PE X c (tA D ec)) : PE X (.Compare a [op, op'] [b, c] pos) (tA D (.chain o o' ea eb ec)) := by
  have hm : lastMarks [op, op'] [b, c] = false := by
    show lastMarks [op'] [c] = false
    show behindInMarks op' c = false
    cases c <;> first | rfl | (simp [isSetE] at hs')
  refine PE.of (pe_chain (snd_cop ok ho) (snd_cop ok ho') ha hb hc hm) fun σ H Q ⟨n, g, e, te, h, ts, S, w⟩ => ?_
  simp only [evA] at w
  refine two_parts S w fun ra rb e2 h2 g2 H2 x y S2 f1 f2 w2 => ?_
  cases q1 : rd ra e2 h2 with
  | none => rw [q1] at w2; exact w2.elim
  | some px =>
    cases q2 : rd rb e2 h2 with
    | none => rw [q1, q2] at w2; exact w2.elim
    | some py =>
      rw [q1, q2] at w2
      simp only at w2
      cases q3 : opCmp o px py with
      | none => rw [q3] at w2; exact w2.elim
      | some z =>
        rw [q3] at w2
        refine ⟨g2, px, py, z, S2.rd f1 q1, S2.rd f2 q2, q3, z, rfl, ?_⟩
        cases z with
        | false => rw [if_neg Bool.false_ne_true]; exact Wp.made w2 S2 (mk_same (.bl false))
        | true =>
          rw [if_pos rfl]
          refine ⟨n, g2, e2, te, h2, ts, S2, Wp.bind w2 fun rc e3 h3 g3 H3 v _ E3 S3 r3 w3 => ?_⟩
          obtain ⟨g3', E3', S3', f3⟩ := S3.keep r3
          have w3' := w3.mono E3'
          cases q4 : rd rb e3 h3 with
          | none => rw [q4] at w3'; exact w3'.elim
          | some py' =>
            cases q5 : rd rc e3 h3 with
            | none => rw [q4, q5] at w3'; exact w3'.elim
            | some pz =>
              rw [q4, q5] at w3'
              simp only at w3'
              cases q6 : opCmp o' py' pz with
              | none => rw [q6] at w3'; exact w3'.elim
              | some z' =>
                rw [q6] at w3'
                exact ⟨g3', py', pz, z', S3'.rd ((f2.ext E3).ext E3') q4, S3'.rd f3 q5, q6, Wp.made w3' S3' (mk_same (.bl z'))⟩

/-! built-ins -/
theorem looks_bd {n : En} {σ : List (Option V)} {H : Hp} {g : Gh} {e te : Env} {h : Hs} {ts : List (Option V)} (S : SimT D.T n g e te h σ ts H) : ∀ {rs : List Rs} {ws : List V} {xs : List PV}, Paired (RF D g H (σ ++ ts)) rs ws → rs.mapM (fun r => rd r e h) = some xs → BdL D.T g H xs ws
  | _, _, xs, .nil, q => by simp at q; subst q; exact .nil
  | r :: rs, w :: ws, xs, .cons f t, q => by
    rw [List.mapM_cons] at q
    cases q1 : rd r e h with
    | none => rw [q1] at q; cases q
    | some p =>
      rw [q1] at q
      cases q2 : rs.mapM (fun r => rd r e h) with
      | none => rw [q2] at q; cases q
      | some ps =>
        rw [q2] at q
        cases q
        exact .cons (S.rd f q1) (looks_bd S t q2)
theorem snd_bcall (ok : XOk D.T N sc k X) {f : Expr → Ex} {x : Str} {es : List Expr} {p pos : Pos} {b : Bn} {lo hi : Nat} (hb : bnOf x = some (b, lo, hi)) (hl : lo ≤ es.length) (hk : okName x = true) (hg : Gl X x) (hm : X.mg x = none)
    (hs : (es.all fun e => !isStarE e) = true) (hf : ∀ e ∈ es, PE X e (tA D (f e))) : PE X (.Call (.Name x p) es [] pos) (tA D (.bcall b (cList f es))) := by
  obtain ⟨hv, h1⟩ := bn_boot hb
  obtain ⟨k1, k2, k3⟩ := okName_ne hk
  cases es with
  | nil => simp at hl; omega
  | cons a es =>
    have hs' : isStarE a = false ∧ (es.all fun e => !isStarE e) = true := by simpa using hs
    have key : ∀ σ H Q, tA D (.bcall b (cList f (a :: es))) σ H Q → tCB (rCB D.T b) (tR D (cList f (a :: es))) σ H Q := fun σ H Q ⟨n, g, e, te, h, ts, S, w⟩ => by
      simp only [evA] at w
      refine ⟨n, g, e, te, h, ts, S, Wp.bind w fun rs e1 h1 g1 H1 ws _ E1 S1 r1 w1 => ?_⟩
      cases q : rs.mapM (fun r => rd r e1 h1) with
      | none => rw [q] at w1; exact w1.elim
      | some xs =>
        rw [q] at w1
        simp only at w1
        cases q3 : opB b xs with
        | none => rw [q3] at w1; exact w1.elim
        | some z =>
          rw [q3] at w1
          exact ⟨g1, xs, z.1, z.2, looks_bd S1 r1 q, q3, fun v H' m => Wp.made w1 S1 m⟩
    have hpa := snd_looks (X := X) (D := D) (f := f) hs hf
    have hc := snd_bn ok b
    cases b <;> first
      | exact PE.of (pe_callB hc hg hm hv hpa k3 k1 (starEach_cons hs'.1) (starEach_plain hs'.2)) key
      | exact PE.of (pe_callTy hc hg hm hv hpa k3 k1 (starEach_cons hs'.1) (starEach_plain hs'.2)) key
/-! isinstance -/
theorem isi_core (ok : XOk D.T N sc k X) {n : En} {σ : List (Option V)} {H : Hp} {g : Gh} {e te : Env} {h : Hs} {ts : List (Option V)} (S : SimT D.T n g e te h σ ts H) {r : Rs} {w : V} (f : RF D g H (σ ++ ts) r w) {nm : String} (q : (rd r e h).bind typeName = some nm) : TyX X.K H w (.type nm) ∧ valTy nm = true := by
  cases q1 : rd r e h with
  | none => rw [q1] at q; cases q
  | some p =>
    rw [q1] at q
    rw [ok.K]
    exact ⟨(S.rd f q1).ty q, typeName_val q⟩
theorem ty_boot {S : Sc} {x : Str} {nm : String} (h : tyName S x = some nm) : okName x = true ∧ glB S.sc x = true ∧ x ∈ S.free ∧ bootBuiltins x = some (.type nm) ∧ plainTy nm = true := by
  unfold tyName at h
  split at h
  · rename_i hc
    simp only [Bool.and_eq_true, List.contains_iff_mem] at hc
    refine ⟨hc.1.1, hc.1.2, hc.2, ?_⟩
    split at h; · rename_i e; cases h; subst e; exact ⟨by decide +kernel, by decide⟩
    split at h; · rename_i e; cases h; subst e; exact ⟨by decide +kernel, by decide⟩
    split at h; · rename_i e; cases h; subst e; exact ⟨by decide +kernel, by decide⟩
    split at h; · rename_i e; cases h; subst e; exact ⟨by decide +kernel, by decide⟩
    split at h; · rename_i e; cases h; subst e; exact ⟨by decide +kernel, by decide⟩
    split at h; · rename_i e; cases h; subst e; exact ⟨by decide +kernel, by decide⟩
    cases h
  · cases h
theorem snd_tyName (ok : XOk D.T N sc k X) {S : Sc} (so : ScOk D S) (hs : S.sc = sc) {x : Str} {nm : String} {p : Pos} (h : tyName S x = some nm) : PE X (.Name x p) (tC (.ty nm)) := by
  obtain ⟨h1, h2, h3, h4, _⟩ := ty_boot h
  obtain ⟨k1, k2, k3⟩ := okName_ne h1
  exact pe_bltn (glB_gl ok (by rw [← hs]; exact h2)) (by rw [ok.mg]; exact so.free x h3) h4 rfl k3 k1
theorem snd_isi1 (ok : XOk D.T N sc k X) {S : Sc} (so : ScOk D S) (hs : S.sc = sc) {a : Expr} {x : Str} {nm : String} {p p' pos : Pos} {ea : Ex} (h : tyName S x = some nm) (hst : isStarE a = false) (hg : Gl X "isinstance") (hm : X.mg "isinstance" = none) (ha : PE X a (tA D ea)) :
    PE X (.Call (.Name "isinstance" p) [a, .Name x p'] [] pos) (tA D (.isi ea [nm])) := by
  obtain ⟨h1, h2, h3, h4, h5⟩ := ty_boot h
  refine PE.of (pe_callB call_isi hg hm (by decide +kernel) (pa_cons ha (pa_cons (snd_tyName ok so hs h) pa_nil) (starEach_cons hst)) (by decide) (by decide) (starEach_cons hst) rfl) fun σ H Q ⟨n, g, e, te, h, ts, S, w⟩ => ?_
  simp only [evA] at w
  refine ⟨n, g, e, te, h, ts, S, Wp.bind w fun ra e1 h1 g1 H1 v _ E1 S1 r1 w1 => ?_⟩
  obtain ⟨g1', E1', S1', f1⟩ := S1.keep r1
  have w1' := w1.mono E1'
  cases q : (rd ra e1 h1).bind typeName with
  | none => rw [q] at w1'; exact w1'.elim
  | some nn =>
    rw [q] at w1'
    obtain ⟨t1, t2⟩ := isi_core ok S1' f1 q
    refine ⟨v, .ty nm, _, _, isAny nn [nm], rfl, .ty nm, t1, ?_, Wp.made w1' S1' (mk_same (.bl _))⟩
    rw [kit_one t2 h5]
    simp [isAny]
theorem tyNames_pa (ok : XOk D.T N sc k X) {S : Sc} (so : ScOk D S) (hs : S.sc = sc) : ∀ {ys : List Expr} {ns : List String}, tyNames S ys = some ns → ∃ t, PA X ys t ∧ (∀ σ H Q, Q (ns.map V.ty) H → t σ H Q) ∧ (ns.all plainTy) = true
  | [], ns, h => by
    simp [tyNames] at h; subst h
    exact ⟨_, pa_nil, fun _ _ _ q => q, rfl⟩
  | y :: ys, ns, h => by
    cases y with
    | Name x p =>
      simp only [tyNames] at h
      cases q1 : tyName S x with
      | none => rw [q1] at h; cases h
      | some nm =>
        cases q2 : tyNames S ys with
        | none => rw [q1, q2] at h; cases h
        | some ns' =>
          rw [q1, q2] at h
          cases h
          obtain ⟨t, h1, h2, h3⟩ := tyNames_pa ok so hs q2
          exact ⟨_, pa_cons (snd_tyName ok so hs q1) h1, fun σ H Q q => h2 σ H _ q, by simp [(ty_boot q1).2.2.2.2]; simpa using h3⟩
    | _ => simp [tyNames] at h
theorem paired_ty : ∀ ns : List String, Paired ClsV (ns.map V.ty) (ns.map Value.type)
  | [] => .nil
  | n :: ns => .cons (.ty n) (paired_ty ns)
theorem tyNames_len {S : Sc} : ∀ {ys : List Expr} {ns : List String}, tyNames S ys = some ns → ns.length = ys.length
  | [], ns, h => by simp [tyNames] at h; subst h; rfl
  | y :: ys, ns, h => by
    cases y with
    | Name x p =>
      simp only [tyNames] at h
      cases q1 : tyName S x with
      | none => rw [q1] at h; cases h
      | some nm =>
        cases q2 : tyNames S ys with
        | none => rw [q1, q2] at h; cases h
        | some ns' => rw [q1, q2] at h; cases h; simp [tyNames_len q2]
    | _ => simp [tyNames] at h
theorem snd_isiT (ok : XOk D.T N sc k X) {S : Sc} (so : ScOk D S) (hs : S.sc = sc) {a : Expr} {ys : List Expr} {ns : List String} {j : Nat} {p p' pos : Pos} {ea : Ex} (h : tyNames S ys = some ns) (hl : ys.length ≤ 1000) (hst : isStarE a = false) (hg : Gl X "isinstance") (hm : X.mg "isinstance" = none) (ha : PE X a (tA D ea)) :
    PE X (.Call (.Name "isinstance" p) [a, .Tuple ys j p'] [] pos) (tA D (.isi ea ns)) := by
  obtain ⟨t, h1, h2, h3⟩ := tyNames_pa ok so hs h
  refine PE.of (pe_callB call_isiT hg hm (by decide +kernel) (pa_cons ha (pa_cons (pe_tup h1) pa_nil) (starEach_cons hst)) (by decide) (by decide) (starEach_cons hst) rfl) fun σ H Q ⟨n, g, e, te, hh, ts, S', w⟩ => ?_
  simp only [evA] at w
  refine ⟨n, g, e, te, hh, ts, S', Wp.bind w fun ra e1 h1 g1 H1 v _ E1 S1 r1 w1 => ?_⟩
  obtain ⟨g1', E1', S1', f1⟩ := S1.keep r1
  have w1' := w1.mono E1'
  cases q : (rd ra e1 h1).bind typeName with
  | none => rw [q] at w1'; exact w1'.elim
  | some nn =>
    rw [q] at w1'
    refine h2 σ H1 _ ⟨by rw [List.length_map, tyNames_len h]; exact small1000' hl, fun pt hpt => ?_⟩
    obtain ⟨E2, S2⟩ := S1'.sim.lay0 (a := pt) (.tup (ns.map V.ty)) hpt
    have S2' : SimT D.T n _ e1 te h1 σ ts _ := ⟨S1'.l1, S1'.l2, S2⟩
    obtain ⟨t1, t2⟩ := isi_core ok S2' (f1.ext E2) q
    exact ⟨v, pt, _, _, _, isAny nn ns, rfl, upd_same, paired_ty ns, t1, kit_any t2 h3, Wp.made (w1'.mono E2) S2' (mk_same (.bl _))⟩
end
end PL

/-! Calls of defs; methods that write; what is walked. -/
namespace PL
open PySem PySem.Spec PyProof.Rows L2

/-! ### writing -/
section
variable {T : Tx} {n : En} {g : Gh} {env : Env} {h : Hs} {σ : List (Option V)} {H : Hp}
theorem Sim.writeOwn (S : Sim T n g env h σ H) {i : Nat} {xs ys : List PV} {a : Addr} {vs : List V} (hi : env[i]? = some (.own (.lst xs))) (hσ : σ[i]? = some (some (.ref a))) (hl : vs.length ≤ sizeLine) (r : TrL T g H ys vs) :
    Ext g H g (upd H a (.lst vs)) ∧ Sim T n g (env.set i (.own (.lst ys))) h σ (upd H a (.lst vs)) := by
  obtain ⟨a', e1, o⟩ := S.sl i _ hi
  rw [hσ] at e1
  cases e1
  have E : Ext g H g (upd H a (.lst vs)) := ⟨fun _ x => x, fun b hb => upd_ne fun z => o.nF (z ▸ hb), [], by simp⟩
  refine ⟨E, by simpa using S.len, fun b hb => ?_, S.F0, S.Fn, S.c0, S.cF, S.cd, S.cl, fun j c b h1 h2 => ?_, fun b h1 h2 => ?_, fun j s hs => ?_, fun j k p q w h1 h2 => ?_⟩
  · rw [E.H b hb]; exact S.fin b hb
  · have q := S.cv j c b h1 h2
    have hb : b ≠ a := fun z => o.nc (z ▸ List.mem_of_getElem? h2)
    cases c
    exact ListAt.ext E (upd_ne hb) q
  · rw [upd_ne (fun z : b = a => h1 (by rw [z]; exact o.ne))]; exact S.fr b h1 h2
  · rcases getElem?_set_or hs with ⟨rfl, rfl⟩ | ⟨hne, hs'⟩
    · exact ⟨a, hσ, o.nF, o.nc, o.ne, vs, upd_same, hl, r.ext E⟩
    · have q := S.sl j s hs'
      cases s with
      | no => trivial
      | val p => obtain ⟨w, e1, e2⟩ := q; exact ⟨w, e1, e2.ext E⟩
      | own p =>
        obtain ⟨b, e3, e2⟩ := q
        have hb : b ≠ a := fun z => hne (S.od j i _ _ _ hs' hi (z ▸ e3) hσ)
        exact ⟨b, e3, e2.nF, e2.nc, e2.ne, e2.at_.ext E (upd_ne hb)⟩
  · have back : ∀ (m : Nat) (p : PV), (env.set i (SV.own (.lst ys)))[m]? = some (SV.own p) → ∃ p', env[m]? = some (SV.own p') := fun m p hm => by
      rcases getElem?_set_or hm with ⟨rfl, _⟩ | ⟨_, hm'⟩
      · exact ⟨_, hi⟩
      · exact ⟨_, hm'⟩
    obtain ⟨p', h1'⟩ := back j p h1
    obtain ⟨q', h2'⟩ := back k q h2
    exact S.od j k p' q' w h1' h2'
theorem nodup_at {α : Type} {l : List α} {i j : Nat} {x : α} (hd : l.Nodup) (h1 : l[i]? = some x) (h2 : l[j]? = some x) : i = j := by
  obtain ⟨a1, b1⟩ := List.getElem?_eq_some_iff.mp h1
  obtain ⟨a2, b2⟩ := List.getElem?_eq_some_iff.mp h2
  have hp := List.pairwise_iff_getElem.mp hd
  rcases Nat.lt_trichotomy i j with c | c | c
  · exact absurd (b1.trans b2.symm) (hp i j a1 a2 c)
  · exact c
  · exact absurd (b2.trans b1.symm) (hp j i a2 a1 c)
theorem Sim.writeCell (S : Sim T n g env h σ H) {i : Nat} {ys : List PV} {a : Addr} {vs : List V} (hc : g.ce[i]? = some a) (hl : vs.length ≤ sizeLine) (r : TrL T g H ys vs) :
    Ext g H g (upd H a (.lst vs)) ∧ Sim T n g env (h.set i (.lst ys)) σ (upd H a (.lst vs)) := by
  have ha := List.mem_of_getElem? hc
  have E : Ext g H g (upd H a (.lst vs)) := ⟨fun _ x => x, fun b hb => upd_ne fun z => S.cF a ha (z ▸ hb), [], by simp⟩
  refine ⟨E, S.len, fun b hb => ?_, S.F0, S.Fn, S.c0, S.cF, S.cd, by simpa using S.cl, fun j c b h1 h2 => ?_, fun b h1 h2 => ?_, fun j s hs => ?_, S.od⟩
  · rw [E.H b hb]; exact S.fin b hb
  · rcases getElem?_set_or h1 with ⟨rfl, rfl⟩ | ⟨hne, h1'⟩
    · rw [hc] at h2
      cases h2
      exact ⟨vs, upd_same, hl, r.ext E⟩
    · have q := S.cv j c b h1' h2
      have hb : b ≠ a := fun z => hne (nodup_at S.cd (z ▸ h2) hc)
      cases c
      exact ListAt.ext E (upd_ne hb) q
  · rw [upd_ne (fun z : b = a => h2 (by rw [z]; exact ha))]; exact S.fr b h1 h2
  · have q := S.sl j s hs
    cases s with
    | no => trivial
    | val p => obtain ⟨w, e1, e2⟩ := q; exact ⟨w, e1, e2.ext E⟩
    | own p =>
      obtain ⟨b, e3, e2⟩ := q
      have hb : b ≠ a := fun z => e2.nc (z ▸ ha)
      exact ⟨b, e3, e2.nF, e2.nc, e2.ne, e2.at_.ext E (upd_ne hb)⟩
end
section
variable {D : Wd} {n : En} {σ : List (Option V)} {e te : Env} {h : Hs} {ts : List (Option V)} {g : Gh} {H : Hp}
/-- what may be written: where it stands, what writing does -/
theorem SimT.mut (S : SimT D.T n g e te h σ ts H) {r : Rs} {w : V} (f : RF D g H (σ ++ ts) r w) {xs : List PV} (hm : mut? r e h = some xs) :
    ∃ a ws, w = .ref a ∧ H a = some (.lst ws) ∧ ws.length ≤ sizeLine ∧ TrL D.T g H xs ws ∧ ∀ ys vs, vs.length ≤ sizeLine → TrL D.T g H ys vs →
      Ext g H g (upd H a (.lst vs)) ∧ SimT D.T n g (put r ys e h).1 te (put r ys e h).2 σ ts (upd H a (.lst vs)) := by
  have cell : ∀ {j : Nat} {p : PV}, p = .ref j → Tr D.T g H p w → (match h[j]? with | some (.lst xs) => some xs | none => none) = some xs →
      ∃ a ws, w = .ref a ∧ H a = some (.lst ws) ∧ ws.length ≤ sizeLine ∧ TrL D.T g H xs ws ∧ ∀ ys vs, vs.length ≤ sizeLine → TrL D.T g H ys vs →
        Ext g H g (upd H a (.lst vs)) ∧ SimT D.T n g e te (h.set j (.lst ys)) σ ts (upd H a (.lst vs)) := by
    intro j p hp t hc
    subst hp
    cases t with
    | ref hn =>
      rename_i a
      cases q : h[j]? with
      | none => rw [q] at hc; cases hc
      | some c =>
        cases c with
        | lst zs =>
          rw [q] at hc
          simp at hc
          subst hc
          obtain ⟨ws, e1, e2, e3⟩ := S.sim.cv j _ a q hn
          refine ⟨a, ws, rfl, e1, e2, e3, fun ys vs hl r => ?_⟩
          obtain ⟨E, S'⟩ := S.sim.writeCell hn hl r
          exact ⟨E, S.l1, S.l2, S'⟩
  cases r with
  | slot i =>
    simp only [mut?] at hm
    cases q : e[i]? with
    | none => rw [q] at hm; cases hm
    | some s =>
      rw [q] at hm
      have hi : i < e.length := (List.getElem?_eq_some_iff.mp q).1
      have hσ : (σ ++ ts)[i]? = some (some w) := f
      have q' : (e ++ te)[i]? = some s := by rw [List.getElem?_append_left hi]; exact q
      cases s with
      | no => cases hm
      | val p =>
        cases p with
        | ref j =>
          obtain ⟨w', e1, e2⟩ := S.sim.sl i _ q'
          rw [hσ] at e1
          cases e1
          obtain ⟨a, ws, h1, h2, h3, h4, h5⟩ := cell rfl e2 hm
          refine ⟨a, ws, h1, h2, h3, h4, fun ys vs hl r => ?_⟩
          have := h5 ys vs hl r
          simp only [put, q]
          exact this
        | _ => cases hm
      | own p =>
        cases p with
        | lst zs =>
          simp at hm
          subst hm
          obtain ⟨a, e1, o⟩ := S.sim.sl i _ q'
          rw [hσ] at e1
          cases e1
          obtain ⟨ws, h2, h3, h4⟩ := o.at_
          refine ⟨a, ws, rfl, h2, h3, h4, fun ys vs hl r => ?_⟩
          obtain ⟨E, S'⟩ := S.sim.writeOwn q' hσ hl r
          have e3 : (e ++ te).set i (.own (.lst ys)) = e.set i (.own (.lst ys)) ++ te := List.set_append_left _ _ hi
          rw [e3] at S'
          simp only [put, q]
          exact ⟨E, by simpa using S.l1, S.l2, S'⟩
        | _ => cases hm
  | v p fr =>
    cases p with
    | ref j =>
      obtain ⟨a, ws, h1, h2, h3, h4, h5⟩ := cell rfl f hm
      exact ⟨a, ws, h1, h2, h3, h4, fun ys vs hl r => h5 ys vs hl r⟩
    | _ => cases hm
end

/-! ### methods -/
def rM (T : Tx) (m : Mn) : V → List V → Hp → VK → Prop := fun x vs H Q => ∃ g xs ys as z a ws, x = .ref a ∧ H a = some (.lst ws) ∧ ws.length ≤ sizeLine ∧ TrL T g H xs ws ∧ TrL T g H as vs ∧ opM m xs as = some (z, ys) ∧
  ∀ ws', ws'.length ≤ sizeLine → TrL T g H ys ws' → ∀ w, Tr T g H z w → Q w (upd H a (.lst ws'))
section
variable {T : Tx} {X : Cx}
theorem seq_of {n : Nat} {i : Int} {j : Nat} (h : PL.ixN n i = some j) : seqIndex? i n = some j := (ixN_seq (n := n) (i := i) (j := j) h).1
theorem snd_append : MtR X "list.append" (rM T .append) := by
  intro pins s σ H x vs v us Q I rx r ⟨g, xs, ys, as, z, a, ws, ex, ha, hl, tx, ta, he, hq⟩
  subst ex
  match as, ta, he with
  | [p], .cons (v := w) t .nil, he =>
    simp only [opM] at he
    split at he
    · rename_i hlt
      cases he
      rw [line_eq, tx.length] at hlt
      exact mt_append pins s σ H _ _ v us Q I rx r ⟨a, ws, w, rfl, rfl, ha, hlt, hq _ (by simp; omega) (tx.append (.cons t .nil)) _ .non⟩
    · cases he
theorem snd_extend : MtR X "list.extend" (rM T .extend) := by
  intro pins s σ H x vs v us Q I rx r ⟨g, xs, ys, as, z, a, ws, ex, ha, hl, tx, ta, he, hq⟩
  subst ex
  match as, ta, he with
  | [.lst zs], .cons (v := w) t .nil, he =>
    cases t with
    | lst hF hb hlb tb =>
      rename_i b us'
      simp only [opM] at he
      split at he
      · rename_i hlt
        cases he
        rw [line_eq, tx.length, tb.length] at hlt
        exact mt_extend pins s σ H _ _ v us Q I rx r ⟨a, b, ws, us', rfl, rfl, ha, hb, hlt, hq _ (by rw [List.length_append]; exact hlt) (tx.append tb) _ .non⟩
      · cases he
theorem snd_pop : MtR X "list.pop" (rM T .pop) := by
  intro pins s σ H x vs v us Q I rx r ⟨g, xs, ys, as, z, a, ws, ex, ha, hl, tx, ta, he, hq⟩
  subst ex
  match as, ta, he with
  | [], .nil, he =>
    simp only [opM, Option.map_eq_some_iff] at he
    obtain ⟨y, h1, h2⟩ := he
    cases h2
    obtain ⟨w, h3, h4⟩ := tx.get h1
    rw [tx.length] at h3
    exact mt_pop pins s σ H _ _ v us Q I rx r ⟨a, ws, w, rfl, rfl, ha, h3, hq _ (by simp; omega) tx.dropLast _ h4⟩
theorem snd_popAt : MtR X "list.pop" (rM T .popAt) := by
  intro pins s σ H x vs v us Q I rx r ⟨g, xs, ys, as, z, a, ws, ex, ha, hl, tx, ta, he, hq⟩
  subst ex
  match as, ta, he with
  | [.int i], .cons (v := w) t .nil, he =>
    cases t
    simp only [opM] at he
    split at he
    · rename_i hb
      cases q : PL.ixN xs.length i with
      | none => rw [q] at he; cases he
      | some k =>
        rw [q] at he
        simp only [Option.bind, Option.map_eq_some_iff] at he
        obtain ⟨y, h1, h2⟩ := he
        cases h2
        obtain ⟨w, h3, h4⟩ := tx.get h1
        have hs := seq_of q
        rw [tx.length] at hs
        exact mt_popAt pins s σ H _ _ v us Q I rx r ⟨a, ws, i, k, w, rfl, rfl, ha, hb.1, hb.2, hs, h3, hq _ (Nat.le_trans (len_erase ws k) hl) (tx.eraseIdx k) _ h4⟩
    · cases he
end
section
variable {D : Wd} {N : List Str} {sc : Scope} {asg : Str → Bool} {k : Nat} {X : Cx}
theorem meth_key {m : Mn} {eo : Ex} {f : Expr → Ex} {es : List Expr} (ok : XOk D.T N sc k X) (σ : L2.St) (H : Hp) (Q : VK) (h : tA D (.meth m eo (cList f es)) σ H Q) : tBM X.K "list" (rM D.T m) (tA D eo) (tL D (cList f es)) σ H Q := by
  obtain ⟨n, g, e, te, h, ts, S, w⟩ := h
  simp only [evA] at w
  refine ⟨n, g, e, te, h, ts, S, Wp.bind w fun ro e1 h1 g1 H1 x _ E1 S1 r1 w1 => ?_⟩
  obtain ⟨g1', E1', S1', f1⟩ := S1.keep r1
  have w1' := w1.mono E1'
  cases q : mut? ro e1 h1 with
  | none => rw [q] at w1'; exact w1'.elim
  | some xs0 =>
    rw [q] at w1'
    obtain ⟨a, ws, rfl, ha, hl, tx, _⟩ := S1'.mut f1 q
    refine ⟨.inl ⟨rfl, ws, SqL.of ha⟩, ?_⟩
    refine ⟨n, g1', e1, te, h1, ts, S1', Wp.bind w1' fun as e2 h2 g2 H2 vs _ E2 S2 r2 w2 => ?_⟩
    cases q2 : mut? ro e2 h2 with
    | none => rw [q2] at w2; exact w2.elim
    | some xs =>
      rw [q2] at w2
      simp only at w2
      cases q3 : opM m xs as with
      | none => rw [q3] at w2; exact w2.elim
      | some z =>
        obtain ⟨z, ys⟩ := z
        rw [q3] at w2
        obtain ⟨a', ws', e', ha', hl', tx', hput⟩ := S2.mut (f1.ext E2) q2
        cases e'
        refine ⟨g2, xs, ys, as, z, a, ws', rfl, ha', hl', tx', r2, q3, fun ws2 hl2 t2 v tv => ?_⟩
        obtain ⟨E3, S3⟩ := hput ys ws2 hl2 t2
        exact Wp.made (w2.mono E3) S3 (mk_same (tv.ext E3))
theorem snd_meth (ok : XOk D.T N sc k X) {m : Mn} {nm : Str} {o : Expr} {es : List Expr} {apos pos : Pos} {eo : Ex} {f : Expr → Ex} (hm : mnOf nm es.length = some m) (hp : plainObj o = true) (hline : (apos.endLine == pos.line) = true) (h4 : es.length ≤ 4)
    (hs : (es.all fun e => !isStarE e) = true) (ho : PE X o (tA D eo)) (hf : ∀ e ∈ es, PE X e (tA D (f e))) : PE X (.Call (.Attribute o nm apos) es [] pos) (tA D (.meth m eo (cList f es))) := by
  have hbase : attributeBase o nm X.env (eval o X.env) = eval o X.env := by cases o <;> first | rfl | (simp [plainObj] at hp)
  have hfew : ∀ {e : Expr} {r : List Expr}, es = e :: r → ((backTo pos (starEach (e :: r) X.env)).all (fun x => !x.1) && (backToKw pos (keywordEach [] X.env)).all (fun x => x.1.isSome)
      && decide ((e :: r).length + ([] : List Keyword).length + (if ([] : List Keyword).isEmpty then 0 else 1) < 30)) = true := by
    intro e r he
    rw [← he]
    have h1 : (backTo pos (starEach es X.env)).all (fun x => !x.1) = true := by
      have := starEach_plain (env := X.env) (pos := pos) hs
      rw [List.any_eq_false] at this
      rw [List.all_eq_true]
      intro x hx
      simpa using this x hx
    rw [h1]
    simp [backToKw, keywordEach]
    omega
  have fin : ∀ {id : String}, (Slot "list" nm id) → typeOf (.builtin id) = pure (.type "method_descriptor") → MtR X id (rM D.T m) → PE X (.Call (.Attribute o nm apos) es [] pos) (tA D (.meth m eo (cList f es))) := by
    intro id sl ty mt
    cases es with
    | nil =>
      refine PE.of (pe_bm0 PySem.F.plainAttrs_list sl ty mt ho hbase hline) fun σ H Q h => ?_
      · obtain ⟨n, g, e, te, h, ts, S, w⟩ := meth_key ok σ H Q h
        refine ⟨n, g, e, te, h, ts, S, w.imp (fun _ _ _ _ _ q => q) fun x H1 ⟨t1, t2⟩ => ⟨t1, ?_⟩⟩
        obtain ⟨n, g, e, te, h, ts, S, w⟩ := t2
        simp only [cList, evL] at w
        exact w g H1 [] (Ext.refl _ _) S .nil
    | cons a r =>
      have hs' : isStarE a = false ∧ (r.all fun e => !isStarE e) = true := by simpa using hs
      exact PE.of (pe_bm PySem.F.plainAttrs_list sl ty mt ho (snd_args hs hf) hbase (hfew rfl) hline (starEach_cons hs'.1) (starEach_plain hs'.2)) (meth_key ok)
  unfold mnOf at hm
  split at hm
  · rename_i e
    simp only [Bool.and_eq_true, decide_eq_true_eq] at e
    obtain ⟨e, _⟩ := e
    cases hm; subst e
    exact fin PySem.F.slot_list_append PySem.F.type_list_append snd_append
  split at hm
  · rename_i e
    simp only [Bool.and_eq_true, decide_eq_true_eq] at e
    obtain ⟨e, _⟩ := e
    cases hm; subst e
    exact fin PySem.F.slot_list_extend PySem.F.type_list_extend snd_extend
  split at hm
  · rename_i e
    simp only [Bool.and_eq_true, decide_eq_true_eq] at e
    obtain ⟨e, _⟩ := e
    cases hm; subst e
    exact fin PySem.F.slot_list_pop PySem.F.type_list_pop snd_pop
  split at hm
  · rename_i e
    simp only [Bool.and_eq_true, decide_eq_true_eq] at e
    obtain ⟨e, _⟩ := e
    cases hm; subst e
    exact fin PySem.F.slot_list_pop PySem.F.type_list_pop snd_popAt
  · cases hm
end

/-! ### the call of a def -/
def spF (D : Wd) (i : Nat) (m : Nat) : Sp := fun vs H Q E => vs.length = m ∧ ∃ g h ps, TrL D.T g H ps vs ∧ Sim D.T (en0 H g) g [] h [] H ∧
  match D.C i ps h with
  | .ret p fr h' => ∀ g' H' w, Ext g H g' H' → Sim D.T (en0 H g) g' [] h' [] H' → Res D.T (en0 H g) g' H' [] [] p fr w → Q w H'
  | .exc c fs h' => ∀ g' H' cls d, Ext g H g' H' → Sim D.T (en0 H g) g' [] h' [] H' → ExcAt D.T D.cs g' H' c fs cls d → E cls d H'
  | .stuck => False
def permL {α : Type} (d : α) (perm : List Nat) (l : List α) : List α := perm.map fun i => l.getD i d
structure FnsOk (D : Wd) (k : Nat) : Prop where
  fn : ∀ (i : Nat) (d : DefT), D.ds[i]? = some d → FnOk D.T.P D.T.w D.T.K D.T.mg D.T.base (L2.CX D.T.P D.T.w) (k + 2) d.f d.fd d.ps (spF D i d.ps.length)
  bi : ∀ (i : Nat) (d : DefT), D.ds[i]? = some d → Binds D.T.K d.fd d.ps []
  kwb : ∀ z ∈ D.kw, ∀ d, D.ds[z.1]? = some d → ∀ (s : Shared) (us ws : List Value), us.length = z.2.1 → ws.length = z.2.2.1.length → BindsTo s d.fd ⟨us, z.2.2.1.zip ws⟩ (d.ps.zip (permL .none z.2.2.2 (us ++ ws)))
section
variable {T : Tx} {n : En} {g g' : Gh} {env : Env} {h h' : Hs} {σ : List (Option V)} {H H' : Hp}
/-- from a state: the callee's -/
theorem Sim.enter (S : Sim T n g env h σ H) : Sim T (en0 H g) g [] h [] H :=
  ⟨rfl, S.fin, fun _ x => x, fun _ x => .inl x, ⟨[], by simp, fun _ x => by simp at x⟩, S.cF, S.cd, S.cl, S.cv, fun _ _ _ => rfl, fun i s x => by simp at x, fun i j p q w x => by simp at x⟩
/-- behind the call -/
theorem Sim.after (S : Sim T n g env h σ H) (E : Ext g H g' H') (S' : Sim T (en0 H g) g' [] h' [] H') : Sim T n g' env h' σ H' := by
  obtain ⟨l, c1, c2⟩ := S'.c0
  have old : ∀ a, H a ≠ none → a ∉ g.ce → H' a = H a := fun a ha hc => S'.fr a ha fun x => by
    rw [c1] at x
    rcases List.mem_append.mp x with x | x
    · exact hc x
    · exact ha (c2 a x)
  refine ⟨S.len, S'.fin, fun a x => E.F a (S.F0 a x), fun a x => ?_, ?_, S'.cF, S'.cd, S'.cl, S'.cv, fun a h1 h2 => ?_, fun i s hs => ?_, S.od⟩
  · rcases S'.Fn a x with x | x
    · exact S.Fn a x
    · exact .inr (S.he x)
  · obtain ⟨l0, e1, e2⟩ := S.c0
    refine ⟨l0 ++ l, by rw [c1]; show g.ce ++ l = _; rw [e1, List.append_assoc], fun a ha => ?_⟩
    rcases List.mem_append.mp ha with ha | ha
    · exact e2 a ha
    · exact S.he (c2 a ha)
  · have hc : a ∉ g.ce := fun x => h2 (by rw [c1]; exact List.mem_append_left _ x)
    have e := S.fr a h1 hc
    rw [old a (by rw [e]; exact h1) hc, e]
  · have q := S.sl i s hs
    cases s with
    | no => trivial
    | val p => obtain ⟨w, e1, e2⟩ := q; exact ⟨w, e1, e2.ext E⟩
    | own p =>
      obtain ⟨a, e1, o⟩ := q
      have hs := o.at_.some
      refine ⟨a, e1, fun x => ?_, fun x => ?_, o.ne, o.at_.ext E (old a hs o.nc)⟩
      · rcases S'.Fn a x with x | x
        · exact o.nF x
        · exact hs x
      · rw [c1] at x
        rcases List.mem_append.mp x with x | x
        · exact o.nc x
        · exact hs (c2 a x)
theorem Res.after (S : Sim T n g env h σ H) {p : PV} {fr : Bool} {w : V} (r : Res T (en0 H g) g' H' [] [] p fr w) : Res T n g' H' env σ p fr w := by
  cases fr with
  | false => cases p <;> exact r
  | true =>
    cases p with
    | lst xs =>
      obtain ⟨a, rfl, o, ap⟩ := r
      have hn : H a = none := o.ne
      refine ⟨a, rfl, ⟨o.nF, o.nc, S.he hn, o.at_⟩, fun i q hi hw => ?_⟩
      obtain ⟨b, e1, e2⟩ := S.sl i _ hi
      rw [hw] at e1
      cases e1
      exact e2.at_.some hn
    | _ => exact r
end
section
variable {D : Wd} {N : List Str} {sc : Scope} {asg : Str → Bool} {k : Nat} {X : Cx}
/-- the callee's promise, from the arguments -/
theorem call_sp {n : En} {σ : List (Option V)} {H : Hp} {g : Gh} {e te : Env} {h : Hs} {ts : List (Option V)} {i m : Nat} {ps : List PV} {vs : List V} {Q : VK} (S : SimT D.T n g e te h σ ts H) (hl : vs.length = m) (r : TrL D.T g H ps vs)
    (w : Wp D n σ te ts (relA D n σ te ts) (match D.C i ps h with
        | .ret p fr h2 => .ok (.v p fr) e h2
        | .exc c fs h2 => .exc c fs e h2
        | .stuck => .stuck) g H Q) : spF D i m vs H Q (WE D.W σ) := by
  refine ⟨hl, g, h, ps, r, S.sim.enter, ?_⟩
  cases q : D.C i ps h with
  | stuck => rw [q] at w; exact w
  | ret p fr h' =>
    rw [q] at w
    exact fun g' H' v E S' rs => w g' H' v E ⟨S.l1, S.l2, S.sim.after E S'⟩ (Res.after S.sim rs)
  | exc c fs h' =>
    rw [q] at w
    exact fun g' H' cls d E S' x => w g' H' cls d E ⟨S.l1, S.l2, S.sim.after E S'⟩ x
theorem snd_call (xg : XG D N sc asg k X) (F : FnsOk D k) {f : Expr → Ex} {x : Str} {es : List Expr} {p pos : Pos} {i : Nat} {d : DefT} (hd : D.ds[i]? = some d) (hx : x = d.x) (so1 : D.T.mg d.x = some (.ref d.f) ∧ PySem.W.keepIn D.T.K (.ref d.f) = true)
    (hl : es.length = d.ps.length) (hk : okName x = true) (hg : Gl X x) (hs : (es.all fun e => !isStarE e) = true) (hf : ∀ e ∈ es, PE X e (tA D (f e))) : PE X (.Call (.Name x p) es [] pos) (tA D (.call i [] (cList f es))) := by
  subst hx
  obtain ⟨k1, k2, k3⟩ := okName_ne hk
  have Fi : FnOk X.prog X.w X.K X.mg X.base (L2.CX X.prog X.w) (k + 2) d.f d.fd d.ps (spF D i d.ps.length) := by rw [xg.P, xg.w, xg.K, xg.mg, xg.base]; exact F.fn i d hd
  have hb : Binds X.K d.fd d.ps [] := by rw [xg.K]; exact F.bi i d hd
  have hm : X.mg d.x = some (.ref d.f) := by rw [xg.mg]; exact so1.1
  have hkp : PySem.W.keepIn X.K (.ref d.f) = true := by rw [xg.K]; exact so1.2
  have key : ∀ σ H Q, tA D (.call i [] (cList f es)) σ H Q → tCallS (spF D i d.ps.length) (WE D.W) (tL D (cList f es)) σ H Q := fun σ H Q ⟨n, g, e, te, h, ts, S, w⟩ => by
    simp only [evA] at w
    refine ⟨n, g, e, te, h, ts, S, Wp.bind w fun ps e1 h1 g1 H1 vs q E1 S1 r1 w1 => ?_⟩
    exact call_sp S1 (by rw [← TrL.length r1, evL_len q]; exact hl) r1 w1
  cases es with
  | nil =>
    refine PE.of (t := tCallS (spF D i d.ps.length) (WE D.W) tNil) ⟨fun pins s σ H Q I h => ?_⟩ fun σ H Q h => ?_
    · refine wpAny_Call_Name_kw (ld_glob I hg hm ?_ k1)
      exact PySem.W.callWith_K0 I.kIn hkp (run_fnS (us := []) Fi xg.hr hb (passAt xg.tk σ) I .nil h)
    · obtain ⟨n, g, e, te, h, ts, S, w⟩ := key σ H Q h
      simp only [cList, evL] at w
      exact w g H [] (Ext.refl _ _) S .nil
  | cons a r =>
    have hs' : isStarE a = false ∧ (r.all fun e => !isStarE e) = true := by simpa using hs
    exact PE.of (pe_callS Fi xg.hr hg hm hkp hb (fun σ => passAt xg.tk σ) (snd_args hs hf) k1 (starEach_cons hs'.1) (starEach_plain hs'.2)) key

/-! keywords -/
theorem snd_kws {f : Expr → Ex} : ∀ {kws : List Keyword}, (∀ q ∈ kws, PE X q.value (tA D (f q.value))) → PK X kws (tL D (cList f (kws.map (·.value))))
  | [], _ => ⟨fun pos pins s σ H Q I ⟨n, g, e, te, h, ts, S, w⟩ => by
      simp only [List.map_nil, cList, evL] at w
      exact pk_nil.run pos pins s σ H Q I (w g H [] (Ext.refl _ _) S .nil)⟩
  | ⟨nm, a, kp⟩ :: kws, hf => ⟨fun pos pins s σ H Q I ⟨n, g, e, te, h, ts, S, w⟩ => by
      refine (pk_cons (nm := nm) (kpos := kp) (hf _ List.mem_cons_self) (snd_kws fun q hq => hf q (List.mem_cons_of_mem _ hq))).run pos pins s σ H Q I ?_
      simp only [List.map_cons, cList, evL] at w
      refine ⟨n, g, e, te, h, ts, S, Wp.bind w fun r e1 h1 g1 H1 x _ E1 S1 r1 w1 => ?_⟩
      cases q : esc r e1 with
      | none => rw [q] at w1; exact w1.elim
      | some z =>
        obtain ⟨p, fr, e2⟩ := z
        rw [q] at w1
        obtain ⟨g1', E1', S1', t1⟩ := S1.escF r1 q
        refine ⟨n, g1', e2, te, h1, ts, S1', Wp.bind (w1.mono E1') fun ps e3 h3 g3 H3 xs _ E3 S3 r3 w3 => ?_⟩
        exact w3 g3 H3 (x :: xs) (Ext.refl _ _) S3 (.cons (t1.ext E3) r3)⟩
theorem evL_app {C : Calls} {f : Expr → Ex} : ∀ {as bs : List Expr} {e : Env} {h : Hs}, evL C (cList f (as ++ bs)) e h = (evL C (cList f as) e h).bind fun ps e1 h1 => (evL C (cList f bs) e1 h1).bind fun qs e2 h2 => .ok (ps ++ qs) e2 h2
  | [], bs, e, h => by
    simp only [List.nil_append, cList, evL, Out.bind]
    cases evL C (cList f bs) e h <;> rfl
  | a :: as, bs, e, h => by
    simp only [List.cons_append, cList, evL]
    cases evA C (f a) e h with
    | stuck => rfl
    | exc c fs e1 h1 => rfl
    | ok r e1 h1 =>
      simp only [Out.bind]
      cases esc r e1 with
      | none => rfl
      | some z =>
        obtain ⟨p, fr, e2⟩ := z
        simp only [evL_app (as := as)]
        cases evL C (cList f as) e2 h1 with
        | stuck => rfl
        | exc c fs e1 h1 => rfl
        | ok ps e3 h3 =>
          simp only [Out.bind]
          cases evL C (cList f bs) e3 h3 <;> rfl
theorem perm_tr {T : Tx} {g : Gh} {H : Hp} {ps : List PV} {vs : List V} (r : TrL T g H ps vs) : ∀ perm : List Nat, TrL T g H (perm.map fun i => ps.getD i .non) (permL .non perm vs)
  | [] => .nil
  | i :: perm => by
    refine .cons ?_ (perm_tr r perm)
    show Tr T g H (ps.getD i .non) (vs.getD i .non)
    rw [List.getD_eq_getElem?_getD, List.getD_eq_getElem?_getD]
    cases q : ps[i]? with
    | none =>
      have : vs[i]? = none := by rw [List.getElem?_eq_none_iff, ← r.length]; exact List.getElem?_eq_none_iff.mp q
      rw [this]; exact .non
    | some p =>
      obtain ⟨v, e1, e2⟩ := r.get q
      rw [e1]; exact e2
theorem perm_vals {vs : List V} {us : List Value} (r : Vals vs us) : ∀ perm : List Nat, Vals (permL .non perm vs) (permL .none perm us)
  | [] => .nil
  | i :: perm => by
    refine .cons ?_ (perm_vals r perm)
    show RelV (vs.getD i .non) (us.getD i .none)
    rw [List.getD_eq_getElem?_getD, List.getD_eq_getElem?_getD]
    cases q : vs[i]? with
    | none => rw [Vals.none_of r q]; exact rfl
    | some p =>
      obtain ⟨v, e1, e2⟩ := r.get q
      rw [e1]; exact e2
theorem kwNames_all {env : PySem.Env} {pos : Pos} : ∀ {kws : List Keyword} {ks : List Str}, kwNames kws = some ks → (backToKw pos (keywordEach kws env)).all (·.1.isSome) = true ∧ (backToKw pos (keywordEach kws env)).filterMap (·.1) = ks ∧ (backToKw pos (keywordEach kws env)).any (·.1.isNone) = false ∧ kws.length = ks.length
  | [], ks, h => by simp [kwNames] at h; subst h; exact ⟨rfl, rfl, rfl, rfl⟩
  | ⟨some nm, a, kp⟩ :: r, ks, h => by
    simp only [kwNames, Option.map_eq_some_iff] at h
    obtain ⟨ks', h1, h2⟩ := h
    subst h2
    obtain ⟨a1, a2, a3, a4⟩ := kwNames_all (env := env) (pos := pos) h1
    refine ⟨?_, ?_, ?_, by simp [a4]⟩
    · simpa [keywordEach, backToKw] using a1
    · have : (backToKw pos (keywordEach r env)).filterMap (·.1) = ks' := a2
      simpa [keywordEach, backToKw] using this
    · simpa [keywordEach, backToKw] using a3
  | ⟨none, a, kp⟩ :: r, ks, h => by simp [kwNames] at h
theorem snd_callK (xg : XG D N sc asg k X) (F : FnsOk D k) {f : Expr → Ex} {x : Str} {es : List Expr} {kws : List Keyword} {ks : List Str} {perm : List Nat} {p pos : Pos} {i : Nat} {d : DefT} (hd : D.ds[i]? = some d) (hx : x = d.x) (so1 : D.T.mg d.x = some (.ref d.f) ∧ PySem.W.keepIn D.T.K (.ref d.f) = true)
    (hkn : kwNames kws = some ks) (hz : (i, es.length, ks, perm) ∈ D.kw) (hp : perm ≠ []) (hpl : perm.length = d.ps.length) (hk : okName x = true) (hg : Gl X x) (hs : (es.all fun e => !isStarE e) = true) (hf : ∀ e ∈ es, PE X e (tA D (f e))) (hfk : ∀ q ∈ kws, PE X q.value (tA D (f q.value))) :
    PE X (.Call (.Name x p) es kws pos) (tA D (.call i perm (cList f (es ++ kws.map (·.value))))) := by
  subst hx
  obtain ⟨k1, k2, k3⟩ := okName_ne hk
  have Fi : FnOk X.prog X.w X.K X.mg X.base (L2.CX X.prog X.w) (k + 2) d.f d.fd d.ps (spF D i d.ps.length) := by rw [xg.P, xg.w, xg.K, xg.mg, xg.base]; exact F.fn i d hd
  have hm : X.mg d.x = some (.ref d.f) := by rw [xg.mg]; exact so1.1
  have hkp : PySem.W.keepIn X.K (.ref d.f) = true := by rw [xg.K]; exact so1.2
  obtain ⟨a1, a2, a3, a4⟩ := kwNames_all (env := X.env) (pos := pos) hkn
  let tt : TE := fun σ H Q => tL D (cList f es) σ H fun vs H1 => tL D (cList f (kws.map (·.value))) σ H1 fun zs H2 => vs.length = es.length ∧ zs.length = kws.length ∧ spF D i d.ps.length (permL .non perm (vs ++ zs)) H2 Q (WE D.W σ)
  have key : ∀ σ H Q, tA D (.call i perm (cList f (es ++ kws.map (·.value)))) σ H Q → tt σ H Q := fun σ H Q ⟨n, g, e, te, h, ts, S, w⟩ => by
    simp only [evA, evL_app] at w
    have w' : Wp D n σ te ts (relA D n σ te ts) ((evL D.C (cList f es) e h).bind fun ps e1 h1 => (evL D.C (cList f (kws.map (·.value))) e1 h1).bind fun qs e2 h2 => match D.C i (permute perm (ps ++ qs)) h2 with
        | .ret p fr h3 => .ok (.v p fr) e2 h3
        | .exc c fs h3 => .exc c fs e2 h3
        | .stuck => .stuck) g H Q := by
      cases q1 : evL D.C (cList f es) e h with
      | stuck => rw [q1] at w; exact w
      | exc c fs e1 h1 => rw [q1] at w; exact w
      | ok ps e1 h1 =>
        rw [q1] at w
        simp only [Out.bind] at w ⊢
        cases q2 : evL D.C (cList f (kws.map (·.value))) e1 h1 with
        | stuck => rw [q2] at w; exact w
        | exc c fs e1 h1 => rw [q2] at w; exact w
        | ok qs e2 h2 => rw [q2] at w; exact w
    refine ⟨n, g, e, te, h, ts, S, Wp.bind w' fun ps e1 h1 g1 H1 vs q E1 S1 r1 w1 => ?_⟩
    refine ⟨n, g1, e1, te, h1, ts, S1, Wp.bind w1 fun qs e2 h2 g2 H2 zs q2 E2 S2 r2 w2 => ?_⟩
    refine ⟨by rw [← TrL.length r1, evL_len q], by rw [← TrL.length r2, evL_len q2]; simp, call_sp S2 ?_ (ps := permute perm (ps ++ qs)) ?_ w2⟩
    · simp [permL, hpl]
    · have r3 := perm_tr ((TrL.ext E2 r1).append r2) perm
      have e3 : permute perm (ps ++ qs) = perm.map fun i => (ps ++ qs).getD i .non := by
        cases perm with
        | nil => exact absurd rfl hp
        | cons a r => rfl
      rw [e3]; exact r3
  refine PE.of ⟨fun pins s σ H Q I h => ?_⟩ key
  have run : ∀ {us ws : List Value} {vs zs : List V} {s2 : Shared} {H2 : Hp}, Vals vs us → Vals zs ws → Inv X pins σ H2 s2 → (vs.length = es.length ∧ zs.length = kws.length ∧ spF D i d.ps.length (permL .non perm (vs ++ zs)) H2 Q (WE D.W σ)) →
      wpAny (model X.prog X.w) X.A (call (.ref d.f) us (ks.zip ws)) (EP X pins σ Q) X.xe s2 := by
    intro us ws vs zs s2 H2 r rz I2 ⟨l1, l2, hsp⟩
    have r2 : Vals (permL .non perm (vs ++ zs)) (permL .none perm (us ++ ws)) := perm_vals (r.append rz) perm
    have hb := F.kwb _ hz d hd s2 us ws (by rw [← r.length]; exact l1) (by rw [← rz.length, l2]; exact a4)
    refine wpAny_call (codeAny_mono (Fi.run X.A X.stack s2 H2 ⟨us, ks.zip ws⟩ _ _ Q (WE D.W σ) xg.hr I2.env0 hb r2 hsp) fun r s' hq => ?_)
    cases r with
    | error e => exact passAt xg.tk σ pins H2 s2 e s' I2 hq
    | ok fl =>
      cases fl with
      | ret u => exact I2.after hq
      | next => exact False.elim hq
      | brk => exact False.elim hq
      | cont => exact False.elim hq
  refine wpAny_Call_Name_kw (ld_glob I hg hm ?_ k1)
  cases es with
  | nil =>
    refine PySem.W.callWith_KW0 (h₀ := X.base) I.ok.mod.kin hkp a1 ?_ (by rw [show (backTo pos (starEach [] X.env)).any (·.1) = false from rfl, a3]; rfl)
    have h' : tt σ H Q := h
    obtain ⟨n, g, e, te, hh, ts, S, w⟩ := h'
    simp only [cList, evL] at w
    have h2 := w g H [] (Ext.refl _ _) S .nil
    refine thn ((snd_kws hfk).run pos pins s σ H _ I h2) fun ws s2 ⟨zs, H2, I2, rz, q2⟩ => ⟨I2.kIn, ?_⟩
    rw [a2]
    exact run .nil rz I2 q2
  | cons a r =>
    have hs' : isStarE a = false ∧ (r.all fun e => !isStarE e) = true := by simpa using hs
    refine PySem.W.callWith_KW (h₀ := X.base) I.ok.mod.kin hkp a1 (thn ((snd_args hs hf).run pos pins s σ H _ I h) fun us s1 ⟨vs, H1, I1, rv, q⟩ => ?_) (by rw [starEach_plain hs, a3]; rfl) (starEach_cons hs'.1)
    refine thn ((snd_kws hfk).run pos pins s1 σ H1 _ I1 q) fun ws s2 ⟨zs, H2, I2, rz, q2⟩ => ⟨I2.kIn, ?_⟩
    rw [a2]
    exact run rv rz I2 q2
end
end PL

/-! Targets; what is walked; comprehensions. -/
namespace PL
open PySem PySem.Spec PyProof.Rows L2

/-! ### slots changed -/
section
variable {T : Tx} {n : En} {g : Gh} {env env' : Env} {h : Hs} {σ σ' : List (Option V)} {H : Hp}
theorem Sim.re (S : Sim T n g env h σ H) (hl : env'.length = σ'.length)
    (hs : ∀ (i : Nat) (s : SV), env'[i]? = some s → s = .no ∨ (∃ p w, s = .val p ∧ σ'[i]? = some (some w) ∧ Tr T g H p w) ∨ (env[i]? = some s ∧ σ'[i]? = σ[i]?)) : Sim T n g env' h σ' H := by
  refine ⟨hl, S.fin, S.F0, S.Fn, S.c0, S.cF, S.cd, S.cl, S.cv, S.fr, fun i s hi => ?_, fun i j p q w h1 h2 h3 h4 => ?_⟩
  · rcases hs i s hi with rfl | ⟨p, w, rfl, e, t⟩ | ⟨e1, e2⟩
    · trivial
    · exact ⟨w, e, t⟩
    · rw [e2]; exact S.sl i s e1
  · have old : ∀ (m : Nat) (p : PV), env'[m]? = some (SV.own p) → env[m]? = some (SV.own p) ∧ σ'[m]? = σ[m]? := fun m p hm => by
      rcases hs m _ hm with e | ⟨_, _, e, _⟩ | e
      · cases e
      · cases e
      · exact e
    obtain ⟨a1, a2⟩ := old i p h1
    obtain ⟨b1, b2⟩ := old j q h2
    exact S.od i j p q w a1 b1 (by rw [← a2]; exact h3) (by rw [← b2]; exact h4)
/-- one more owner -/
theorem Sim.reOwn (S : Sim T n g env h σ H) {i0 : Nat} {xs : List PV} {a : Addr} (o : Owned T n g H (.lst xs) a) (ap : Apart env σ a) (hl : env'.length = σ'.length)
    (hs : ∀ (i : Nat) (s : SV), env'[i]? = some s → (i = i0 ∧ s = .own (.lst xs) ∧ σ'[i]? = some (some (.ref a))) ∨ (i ≠ i0 ∧ env[i]? = some s ∧ σ'[i]? = σ[i]?)) : Sim T n g env' h σ' H := by
  refine ⟨hl, S.fin, S.F0, S.Fn, S.c0, S.cF, S.cd, S.cl, S.cv, S.fr, fun i s hi => ?_, fun i j p q w h1 h2 h3 h4 => ?_⟩
  · rcases hs i s hi with ⟨_, rfl, e⟩ | ⟨_, e1, e2⟩
    · exact ⟨a, e, o⟩
    · rw [e2]; exact S.sl i s e1
  · rcases hs i _ h1 with ⟨ei, _, e⟩ | ⟨ni, e1, e2⟩
    · rcases hs j _ h2 with ⟨ej, _, _⟩ | ⟨nj, f1, f2⟩
      · exact ei.trans ej.symm
      · rw [e] at h3
        cases h3
        exact absurd (f2 ▸ h4) (ap j q f1)
    · rcases hs j _ h2 with ⟨ej, _, e⟩ | ⟨nj, f1, f2⟩
      · rw [e] at h4
        cases h4
        exact absurd (e2 ▸ h3) (ap i p e1)
      · exact S.od i j p q w e1 f1 (by rw [← e2]; exact h3) (by rw [← f2]; exact h4)
end
theorem mapLen {α : Type} (l : List α) (i : Nat) (x : α) : (l.set i x).length = l.length := by simp
theorem wipeE_len (e : Env) : ∀ vs, (wipeE vs e).length = e.length
  | [] => rfl
  | v :: vs => by simp [wipeE, wipeE_len e vs]
theorem wipeE_get (e : Env) (i : Nat) : ∀ vs, (wipeE vs e)[i]? = if i ∈ vs then (e[i]?).map (fun _ => SV.no) else e[i]?
  | [] => by simp [wipeE]
  | v :: vs => by
    unfold wipeE
    rw [List.getElem?_set]
    have ih := wipeE_get e i vs
    have hl := wipeE_len e vs
    by_cases hv : v = i
    · subst hv
      simp only [if_true, List.mem_cons, true_or]
      split
      · rename_i hlt
        rw [hl] at hlt
        rw [List.getElem?_eq_getElem hlt]; rfl
      · rename_i hlt
        rw [hl] at hlt
        rw [List.getElem?_eq_none (by omega)]; rfl
    · rw [if_neg hv, ih]
      simp [Ne.symm hv, fun h : i = v => hv h.symm]
theorem wipe_get (σ : L2.St) (i : Nat) : ∀ vs, (wipe σ vs)[i]? = if i ∈ vs then (σ[i]?).map (fun _ => none) else σ[i]?
  | [] => by simp [wipe]
  | v :: vs => by
    unfold wipe
    rw [List.getElem?_set]
    have ih := wipe_get σ i vs
    have hl := wipe_length σ vs
    by_cases hv : v = i
    · subst hv
      simp only [if_true, List.mem_cons, true_or]
      split
      · rename_i hlt
        rw [hl] at hlt
        rw [List.getElem?_eq_getElem hlt]; rfl
      · rename_i hlt
        rw [hl] at hlt
        rw [List.getElem?_eq_none (by omega)]; rfl
    · rw [if_neg hv, ih]
      simp [Ne.symm hv, fun h : i = v => hv h.symm]
theorem frzAt_len (e : Env) : ∀ vs, (frzAt vs e).length = e.length
  | [] => rfl
  | v :: vs => by simp [frzAt, frzAt_len e vs]
theorem backE_len (e0 e : Env) : ∀ vs, (backE vs e0 e).length = e.length
  | [] => rfl
  | v :: vs => by simp [backE, backE_len e0 e vs]
theorem backE_get (e0 e : Env) (i : Nat) : ∀ vs, (backE vs e0 e)[i]? = if i ∈ vs then (e[i]?).map (fun _ => e0.getD i .no) else e[i]?
  | [] => by simp [backE]
  | v :: vs => by
    unfold backE
    rw [List.getElem?_set]
    have ih := backE_get e0 e i vs
    have hl := backE_len e0 e vs
    by_cases hv : v = i
    · subst hv
      simp only [if_true, List.mem_cons, true_or]
      split
      · rename_i hlt
        rw [hl] at hlt
        rw [List.getElem?_eq_getElem hlt]; rfl
      · rename_i hlt
        rw [hl] at hlt
        rw [List.getElem?_eq_none (by omega)]; rfl
    · rw [if_neg hv, ih]
      simp [Ne.symm hv, fun h : i = v => hv h.symm]
theorem frzS_own (s : SV) : ∀ p, frzS s ≠ .own p := by cases s <;> simp [frzS]
theorem frzAt_in (e : Env) : ∀ (vs : List Nat) (i : Nat) (p : PV), i ∈ vs → (frzAt vs e)[i]? ≠ some (.own p)
  | [], i, p, h => by simp at h
  | v :: vs, i, p, h => by
    unfold frzAt
    intro q
    rcases getElem?_set_or q with ⟨_, e⟩ | ⟨hne, q'⟩
    · exact frzS_own _ p e.symm
    · rcases List.mem_cons.mp h with h | h
      · exact hne h
      · exact frzAt_in e vs i p h q'
section
variable {D : Wd} {n : En} {σ : List (Option V)} {e te : Env} {h : Hs} {ts : List (Option V)} {g : Gh} {H : Hp}
/-- the slots of a block are frozen -/
theorem SimT.frzAt (S : SimT D.T n g e te h σ ts H) : ∀ vs : List Nat, ∃ g', Ext g H g' H ∧ SimT D.T n g' (frzAt vs e) te h σ ts H
  | [] => ⟨g, Ext.refl g H, S⟩
  | v :: vs => by
    obtain ⟨g1, E1, S1⟩ := SimT.frzAt S vs
    unfold PL.frzAt
    cases q : (PL.frzAt vs e)[v]? with
    | none =>
      rw [List.set_eq_of_length_le (List.getElem?_eq_none_iff.mp q)]
      exact ⟨g1, E1, S1⟩
    | some s =>
      have hd : (PL.frzAt vs e).getD v SV.no = s := by rw [List.getD_eq_getElem?_getD, q]; rfl
      have hi : v < (PL.frzAt vs e).length := (List.getElem?_eq_some_iff.mp q).1
      rw [hd]
      have same : (PL.frzAt vs e).set v s = PL.frzAt vs e := by
        obtain ⟨h1, h2⟩ := List.getElem?_eq_some_iff.mp q
        rw [← h2, List.set_getElem_self]
      cases s with
      | no => rw [show frzS SV.no = SV.no from rfl, same]; exact ⟨g1, E1, S1⟩
      | val p => rw [show frzS (SV.val p) = SV.val p from rfl, same]; exact ⟨g1, E1, S1⟩
      | own p =>
        have q' : (PL.frzAt vs e ++ te)[v]? = some (.own p) := by rw [List.getElem?_append_left hi]; exact q
        obtain ⟨a, e1, o⟩ := S1.sim.sl v _ q'
        obtain ⟨g2, E2, S2, _⟩ := S1.sim.frzSlot q' e1
        rw [List.set_append_left _ _ hi] at S2
        exact ⟨g2, E1.trans E2, by simpa using S1.l1, S1.l2, S2⟩
/-- the slots of a block are forgotten -/
theorem SimT.wipe (S : SimT D.T n g e te h σ ts H) (vs : List Nat) : SimT D.T n g (wipeE vs e) te h (L2.wipe σ vs) ts H := by
  have l1 : (wipeE vs e).length = (L2.wipe σ vs).length := by rw [wipeE_len, wipe_length]; exact S.l1
  refine ⟨l1, S.l2, S.sim.re (by rw [List.length_append, List.length_append, l1, S.l2]) fun i s hi => ?_⟩
  by_cases hlt : i < e.length
  · have hlt' : i < (wipeE vs e).length := by rw [wipeE_len]; exact hlt
    rw [List.getElem?_append_left hlt', wipeE_get] at hi
    by_cases hv : i ∈ vs
    · rw [if_pos hv, List.getElem?_eq_getElem hlt] at hi
      cases hi
      exact .inl rfl
    · rw [if_neg hv] at hi
      refine .inr (.inr ⟨by rw [List.getElem?_append_left hlt]; exact hi, ?_⟩)
      rw [List.getElem?_append_left (by rw [← l1]; exact hlt'), List.getElem?_append_left (by rw [← S.l1]; exact hlt), wipe_get, if_neg hv]
  · have hge : (wipeE vs e).length ≤ i := by rw [wipeE_len]; omega
    rw [List.getElem?_append_right hge, wipeE_len] at hi
    refine .inr (.inr ⟨by rw [List.getElem?_append_right (by omega)]; exact hi, ?_⟩)
    rw [List.getElem?_append_right (by rw [← l1]; exact hge), List.getElem?_append_right (by rw [← S.l1]; omega), wipe_length]
/-- a slot gets a value -/
theorem SimT.setVal (S : SimT D.T n g e te h σ ts H) {i : Nat} {p : PV} {w : V} (hi : i < e.length) (t : Tr D.T g H p w) : SimT D.T n g (e.set i (.val p)) te h (σ.set i (some w)) ts H := by
  have l1 : (e.set i (.val p)).length = (σ.set i (some w)).length := by simpa using S.l1
  refine ⟨l1, S.l2, S.sim.re (by rw [List.length_append, List.length_append, l1, S.l2]) fun j s hj => ?_⟩
  have e1 : (e.set i (.val p)) ++ te = (e ++ te).set i (.val p) := (List.set_append_left _ _ hi).symm
  have e2 : (σ.set i (some w)) ++ ts = (σ ++ ts).set i (some w) := (List.set_append_left _ _ (by rw [← S.l1]; exact hi)).symm
  rw [e1] at hj
  rw [e2]
  rcases getElem?_set_or hj with ⟨rfl, rfl⟩ | ⟨hne, hj'⟩
  · refine .inr (.inl ⟨p, w, rfl, ?_, t⟩)
    rw [List.getElem?_set_self (by rw [List.length_append, ← S.l1]; omega)]
  · exact .inr (.inr ⟨hj', by rw [List.getElem?_set_ne (Ne.symm hne)]⟩)
theorem SimT.setOwn (S : SimT D.T n g e te h σ ts H) {i : Nat} {xs : List PV} {a : Addr} (hi : i < e.length) (o : Owned D.T n g H (.lst xs) a) (ap : Apart (e ++ te) (σ ++ ts) a) : SimT D.T n g (e.set i (.own (.lst xs))) te h (σ.set i (some (.ref a))) ts H := by
  have l1 : (e.set i (.own (.lst xs))).length = (σ.set i (some (.ref a))).length := by simpa using S.l1
  refine ⟨l1, S.l2, S.sim.reOwn (i0 := i) o ap (by rw [List.length_append, List.length_append, l1, S.l2]) fun j s hj => ?_⟩
  have e1 : (e.set i (.own (.lst xs))) ++ te = (e ++ te).set i (.own (.lst xs)) := (List.set_append_left _ _ hi).symm
  have e2 : (σ.set i (some (V.ref a))) ++ ts = (σ ++ ts).set i (some (V.ref a)) := (List.set_append_left _ _ (by rw [← S.l1]; exact hi)).symm
  rw [e1] at hj
  rw [e2]
  rcases getElem?_set_or hj with ⟨rfl, rfl⟩ | ⟨hne, hj'⟩
  · refine .inl ⟨rfl, rfl, ?_⟩
    rw [List.getElem?_set_self (by rw [List.length_append, ← S.l1]; omega)]
  · exact .inr ⟨hne, hj', by rw [List.getElem?_set_ne (Ne.symm hne)]⟩
/-- a slot gets what an expression hands back -/
theorem SimT.setRes (S : SimT D.T n g e te h σ ts H) {i : Nat} {p : PV} {fr : Bool} {w : V} (hi : i < e.length) (r : Res D.T n g H (e ++ te) (σ ++ ts) p fr w) : SimT D.T n g (e.set i (PL.mk p fr)) te h (σ.set i (some w)) ts H := by
  cases p with
  | lst xs =>
    cases fr with
    | true =>
      obtain ⟨a, rfl, o, ap⟩ := r
      exact S.setOwn hi o ap
    | false => exact S.setVal hi r
  | _ => exact S.setVal hi r
/-- an own list is kept beside -/
theorem SimT.push (S : SimT D.T n g e te h σ ts H) {xs : List PV} {a : Addr} (o : Owned D.T n g H (.lst xs) a) (ap : Apart (e ++ te) (σ ++ ts) a) : SimT D.T n g e (te ++ [.own (.lst xs)]) h σ (ts ++ [some (.ref a)]) H := by
  have l2 : (te ++ [SV.own (.lst xs)]).length = (ts ++ [some (V.ref a)]).length := by simp [S.l2]
  refine ⟨S.l1, l2, S.sim.reOwn (i0 := (e ++ te).length) o ap (by simp [S.l1, S.l2]) fun j s hj => ?_⟩
  rw [← List.append_assoc] at hj ⊢
  have hl : (e ++ te).length = (σ ++ ts).length := by simp [S.l1, S.l2]
  by_cases hlt : j < (e ++ te).length
  · rw [List.getElem?_append_left hlt] at hj
    exact .inr ⟨Nat.ne_of_lt hlt, hj, by rw [List.getElem?_append_left (by rw [← hl]; exact hlt)]⟩
  · have hj2 : j = (e ++ te).length := by
      have := (List.getElem?_eq_some_iff.mp hj).1
      rw [List.length_append] at this
      simp at this ⊢
      simp at hlt
      omega
    rw [List.getElem?_append_right (by omega), hj2] at hj
    simp at hj
    refine .inl ⟨hj2, hj.symm, ?_⟩
    rw [hj2, hl, List.getElem?_append_right (Nat.le_refl _)]
    simp
/-- .. and comes back -/
theorem SimT.pop {s : SV} {o : Option V} (S : SimT D.T n g e (te ++ [s]) h σ (ts ++ [o]) H) : SimT D.T n g e te h σ ts H := by
  have l2 : te.length = ts.length := by simpa using S.l2
  refine ⟨S.l1, l2, S.sim.re (by simp [S.l1, l2]) fun j s' hj => .inr (.inr ?_)⟩
  have hlt := (List.getElem?_eq_some_iff.mp hj).1
  have hl : (e ++ te).length = (σ ++ ts).length := by simp [S.l1, l2]
  have a1 : (e ++ (te ++ [s]))[j]? = (e ++ te)[j]? := by rw [← List.append_assoc]; exact List.getElem?_append_left hlt
  have a2 : (σ ++ (ts ++ [o]))[j]? = (σ ++ ts)[j]? := by rw [← List.append_assoc]; exact List.getElem?_append_left (by rw [← hl]; exact hlt)
  rw [a1, a2]
  exact ⟨hj, rfl⟩
theorem SimT.top {p : PV} {w : V} (S : SimT D.T n g e (te ++ [.own p]) h σ (ts ++ [some w]) H) : ∃ a, w = .ref a ∧ Owned D.T n g H p a ∧ Apart (e ++ te) (σ ++ ts) a := by
  have l2 : te.length = ts.length := by simpa using S.l2
  have hl : (e ++ te).length = (σ ++ ts).length := by simp [S.l1, l2]
  have hi : (e ++ (te ++ [SV.own p]))[(e ++ te).length]? = some (.own p) := by
    rw [← List.append_assoc, List.getElem?_append_right (Nat.le_refl _)]; simp
  have hw : (σ ++ (ts ++ [some w]))[(e ++ te).length]? = some (some w) := by
    rw [← List.append_assoc, hl, List.getElem?_append_right (Nat.le_refl _)]; simp
  obtain ⟨a, e1, o⟩ := S.sim.sl _ _ hi
  rw [hw] at e1
  cases e1
  refine ⟨a, rfl, o, fun i q h1 h2 => ?_⟩
  have hlt := (List.getElem?_eq_some_iff.mp h1).1
  have h1' : (e ++ (te ++ [SV.own p]))[i]? = some (.own q) := by rw [← List.append_assoc, List.getElem?_append_left hlt]; exact h1
  have h2' : (σ ++ (ts ++ [some (V.ref a)]))[i]? = some (some (.ref a)) := by rw [← List.append_assoc, List.getElem?_append_left (by rw [← hl]; exact hlt)]; exact h2
  exact absurd (S.sim.od _ _ _ _ _ h1' hi h2' hw) (Nat.ne_of_lt hlt)
/-- the list that is kept beside grows -/
theorem SimT.app {xs ys : List PV} {a : Addr} {vs : List V} (S : SimT D.T n g e (te ++ [.own (.lst xs)]) h σ (ts ++ [some (.ref a)]) H) (hl : vs.length ≤ sizeLine) (r : TrL D.T g H ys vs) :
    Ext g H g (upd H a (.lst vs)) ∧ SimT D.T n g e (te ++ [.own (.lst ys)]) h σ (ts ++ [some (.ref a)]) (upd H a (.lst vs)) := by
  have l2 : te.length = ts.length := by simpa using S.l2
  have hl' : (e ++ te).length = (σ ++ ts).length := by simp [S.l1, l2]
  have hi : (e ++ (te ++ [SV.own (.lst xs)]))[(e ++ te).length]? = some (.own (.lst xs)) := by
    rw [← List.append_assoc, List.getElem?_append_right (Nat.le_refl _)]; simp
  have hw : (σ ++ (ts ++ [some (V.ref a)]))[(e ++ te).length]? = some (some (.ref a)) := by
    rw [← List.append_assoc, hl', List.getElem?_append_right (Nat.le_refl _)]; simp
  obtain ⟨E, S'⟩ := S.sim.writeOwn hi hw hl r
  have e1 : (e ++ (te ++ [SV.own (.lst xs)])).set (e ++ te).length (.own (.lst ys)) = e ++ (te ++ [.own (.lst ys)]) := by
    rw [← List.append_assoc, ← List.append_assoc, List.set_append_right _ _ (Nat.le_refl _)]; simp
  rw [e1] at S'
  exact ⟨E, S.l1, by simp [l2], S'⟩
end

/-! ### targets -/
section
variable (D : Wd)
def tG (t : Tg) : TG := fun v σ H Q => Go D σ H fun n g e te h ts => ∃ p e', Tr D.T g H p v ∧ bindT t p e = some e' ∧ ∀ σ', SimT D.T n g e' te h σ' ts H → (∀ i, i ∉ tgIs t → σ'[i]? = σ[i]?) → Q σ' H
def tGs (t : Tg) : TGs := fun vs σ H Q => Go D σ H fun n g e te h ts => ∃ ps e', TrL D.T g H ps vs ∧ bindTs t ps e = some e' ∧ ∀ σ', SimT D.T n g e' te h σ' ts H → (∀ i, i ∉ tgIs t → σ'[i]? = σ[i]?) → Q σ' H
end
theorem PG.of {X : Cx} {e : Expr} {t t' : TG} (h : PG X e t) (i : ∀ v σ H Q, t' v σ H Q → t v σ H Q) : PG X e t' := ⟨fun pins s σ H v u Q I r q => h.run pins s σ H v u Q I r (i v σ H Q q)⟩
theorem PGs.of {X : Cx} {e : List Expr} {t t' : TGs} (h : PGs X e t) (i : ∀ v σ H Q, t' v σ H Q → t v σ H Q) : PGs X e t' := ⟨fun pins s σ H v u Q I r q => h.run pins s σ H v u Q I r (i v σ H Q q)⟩
theorem assignEach_cons {e : Expr} {es : List Expr} {env : PySem.Env} (h : isStarE e = false) : assignEach (e :: es) env = (false, assign e env) :: assignEach es env := by
  cases e <;> first | rfl | (simp [isStarE] at h)
theorem assignEach_plain {env : PySem.Env} : ∀ {es : List Expr}, (es.all fun e => !isStarE e) = true → (assignEach es env).length = es.length ∧ (assignEach es env).findIdx? (·.1) = none
  | [], _ => ⟨rfl, rfl⟩
  | e :: es, h => by
    have h' : isStarE e = false ∧ (es.all fun e => !isStarE e) = true := by simpa using h
    obtain ⟨a, b⟩ := assignEach_plain (env := env) h'.2
    rw [assignEach_cons h'.1]
    refine ⟨by simp [a], ?_⟩
    rw [List.findIdx?_cons, b]
    rfl
section
variable {D : Wd} {N : List Str} {sc : Scope} {asg : Str → Bool} {k : Nat} {X : Cx}
theorem bindTs_len {t : Tg} {ps : List PV} {e e' : Env} : bindTs t ps e = some e' → ∀ m, (∀ ps e e', bindTs t ps e = some e' → ps.length = m) → ps.length = m := fun h m f => f _ _ _ h
theorem snd_tg (xg : XG D N sc asg k X) {S : Sc} (hN : S.N = N) (hs : S.sc = sc) (ha : S.asg = asg) : ∀ (m : Nat) (e : Expr) (t : Tg), cTg S m e = some t → PG X e (tG D t)
  | 0, _, _, h => by simp [cTg] at h
  | m + 1, e, t, h => by
    have ih := snd_tg xg hN hs ha m
    cases e with
    | Name x pos =>
      simp only [cTg] at h
      split at h
      · rename_i hc
        simp only [Bool.and_eq_true] at hc
        obtain ⟨⟨h1, h2⟩, h3⟩ := hc
        cases q : idxOf? x S.N with
        | none => rw [q] at h; cases h
        | some i =>
          rw [q] at h
          cases h
          refine PG.of (pg_name (i := i) (by rw [xg.hN]; exact xg.nd) (by rw [xg.hN, ← hN]; exact idxOf_get q) (by rw [xg.hsc, ← hs]; exact locB_loc h2) (xg.fn x (by rw [← ha]; exact h3))) fun v σ H Q ⟨n, g, e, te, hh, ts, S', p, e', tp, hb, hq⟩ => ?_
          simp only [bindT] at hb
          split at hb
          · rename_i hlt
            cases hb
            refine hq _ (S'.setVal hlt tp) fun j hj => ?_
            rw [List.getElem?_set_ne]
            intro z
            exact hj (by simp [tgIs, z])
          · cases hb
      · cases h
    | Tuple es j pos =>
      simp only [cTg] at h
      split at h
      · rename_i hst
        simp only [Option.map_eq_some_iff] at h
        obtain ⟨t', h1, h2⟩ := h
        subst h2
        have hst' : (es.all fun e => !isStarE e) = true := hst
        have key : ∀ (es : List Expr) (t' : Tg), (es.all fun e => !isStarE e) = true → es.foldr (fun e t => match cTg S m e, t with | some a, some b => some (Tg.cons a b) | _, _ => none) (some Tg.nil) = some t' →
            PGs X es (tGs D t') ∧ ∀ ps e e', bindTs t' ps e = some e' → ps.length = es.length := by
          intro es
          induction es with
          | nil =>
            intro t' _ h
            cases h
            refine ⟨PGs.of pgs_nil fun vs σ H Q ⟨n, g, e, te, hh, ts, S', ps, e', tp, hb, hq⟩ => ?_, fun ps e e' hb => ?_⟩
            · cases ps with
              | nil =>
                cases tp
                simp [bindTs] at hb
                subst hb
                exact ⟨rfl, hq σ S' fun _ _ => rfl⟩
              | cons => simp [bindTs] at hb
            · cases ps with
              | nil => rfl
              | cons => simp [bindTs] at hb
          | cons a r ih2 =>
            intro t' hs' h
            have hs2 : isStarE a = false ∧ (r.all fun e => !isStarE e) = true := by simpa using hs'
            rw [List.foldr_cons] at h
            cases q1 : cTg S m a with
            | none => rw [q1] at h; cases h
            | some ta =>
              cases q2 : r.foldr (fun e t => match cTg S m e, t with | some a, some b => some (Tg.cons a b) | _, _ => none) (some Tg.nil) with
              | none => rw [q1, q2] at h; cases h
              | some tr =>
                rw [q1, q2] at h
                cases h
                obtain ⟨p1, p2⟩ := ih2 tr hs2.2 q2
                refine ⟨PGs.of (pgs_cons (ih a ta q1) p1 (by rw [assignEach_cons hs2.1]; rfl)) fun vs σ H Q ⟨n, g, e, te, hh, ts, S', ps, e', tp, hb, hq⟩ => ?_, fun ps e e' hb => ?_⟩
                · cases ps with
                  | nil => simp [bindTs] at hb
                  | cons p ps =>
                    cases tp with
                    | cons tp1 tp2 =>
                      simp only [bindTs] at hb
                      cases q3 : bindT ta p e with
                      | none => rw [q3] at hb; cases hb
                      | some e1 =>
                        rw [q3] at hb
                        refine ⟨_, _, rfl, n, g, e, te, hh, ts, S', p, e1, tp1, q3, fun σ1 S1 h1 => ?_⟩
                        refine ⟨n, g, e1, te, hh, ts, S1, ps, e', tp2, hb, fun σ2 S2 h2 => hq σ2 S2 fun i hi => ?_⟩
                        simp only [tgIs, List.mem_append, not_or] at hi
                        rw [h2 i hi.2, h1 i hi.1]
                · cases ps with
                  | nil => simp [bindTs] at hb
                  | cons p ps =>
                    simp only [bindTs] at hb
                    cases q3 : bindT ta p e with
                    | none => rw [q3] at hb; cases hb
                    | some e1 =>
                      rw [q3] at hb
                      simp [p2 ps e1 e' hb]
        obtain ⟨p1, p2⟩ := key es t' hst' h1
        obtain ⟨a1, a2⟩ := assignEach_plain (env := X.env) hst'
        refine PG.of (pg_tup xg.calm p1 a1 a2) fun v σ H Q ⟨n, g, e, te, hh, ts, S', p, e', tp, hb, hq⟩ => ?_
        cases p with
        | tup ps =>
          simp only [bindT] at hb
          obtain ⟨a, vs, rfl, ht, hl, tl⟩ := (Bd.of tp).tup
          exact ⟨a, vs, rfl, by rw [xg.K]; exact ht, by rw [← tl.length]; exact p2 _ _ _ hb, n, g, e, te, hh, ts, S', ps, e', tl, hb, hq⟩
        | _ => simp [bindT] at hb
      · cases h
    | _ => simp [cTg] at h
end

/-! ### what is walked -/
section
variable {D : Wd} {N : List Str} {sc : Scope} {asg : Str → Bool} {k : Nat} {X : Cx}
theorem pi_stuck {tg it : Expr} : PI X tg it (tI D .stuck) := ⟨fun pins s σ H R I ⟨n, g, e, te, h, ts, S, w⟩ => by simp only [evI] at w; exact w.elim⟩
theorem snd_iseq (ok : XOk D.T N sc k X) {tg it : Expr} {ex : Ex} (h : PE X it (tA D ex)) : PI X tg it (tI D (.iseq ex)) :=
  PI.of (pi_seqA h) fun σ H R ⟨n, g, e, te, hh, ts, S, w⟩ => by
    simp only [evI] at w
    refine ⟨n, g, e, te, hh, ts, S, Wp.bind w fun r e1 h1 g1 H1 x _ E1 S1 r1 w1 => ?_⟩
    cases q : esc r e1 with
    | none => rw [q] at w1; exact w1.elim
    | some z =>
      obtain ⟨p, fr, e2⟩ := z
      rw [q] at w1
      obtain ⟨g2, E2, S2, t⟩ := S1.escF r1 q
      have w2 := w1.mono E2
      simp only at w2
      cases q2 : seqOf h1 p with
      | none => rw [q2] at w2; exact w2.elim
      | some z =>
        obtain ⟨xs, gd⟩ := z
        rw [q2] at w2
        have ls : lstOf h1 p = some (xs, gd) → ∃ a, x = V.ref a ∧ ((∃ xs, SqL X.K H1 a xs ∧ R (Itl X.K a) H1) ∨ ∃ xs, SqT X.K H1 a xs ∧ R (Itt X.K a) H1) := fun q3 => by
          obtain ⟨a, rfl, kp, G⟩ := lst_kept S2.sim t q3
          obtain ⟨vs, e, _, _⟩ := kp g2 H1 (Ext.refl _ _) G
          exact ⟨a, rfl, .inl ⟨vs, by rw [ok.K]; exact e, by rw [ok.K]; exact w2 g2 H1 _ (Ext.refl _ _) S2 (it_kept kp)⟩⟩
        cases p with
        | scr ys =>
          cases q2
          cases t with
          | scr hF he hl r =>
            rename_i a o vs
            exact ⟨a, rfl, .inl ⟨vs, scr_sq ⟨o, he⟩, by rw [ok.K]; exact w2 g2 H1 _ (Ext.refl _ _) S2 (it_kept fun g' H' E _ => ⟨vs, scr_sq ⟨o, (E.H a hF).trans he⟩, hl, r.ext E⟩)⟩⟩
          | scrK he hl r =>
            rename_i a vs
            exact ⟨a, rfl, .inl ⟨vs, by rw [ok.K]; exact .inr he, by rw [ok.K]; exact w2 g2 H1 _ (Ext.refl _ _) S2 (it_kept fun g' H' E _ => ⟨vs, .inr he, hl, r.ext E⟩)⟩⟩
        | tup ys =>
          cases q2
          obtain ⟨a, vs, rfl, r, hl, kp⟩ := tup_keep t
          exact ⟨a, rfl, .inr ⟨vs, by rw [ok.K]; exact kp g2 H1 (Ext.refl _ _), by rw [ok.K]; exact w2 g2 H1 _ (Ext.refl _ _) S2 (it_tup r kp)⟩⟩
        | _ => exact ls q2
theorem small62_b {i : Int} (h : small62 i = true) : -(2 ^ 62) ≤ i ∧ i < 2 ^ 62 := by
  unfold small62 at h
  have := of_decide_eq_true h
  omega
theorem starEach_one {a : Expr} {env : PySem.Env} (h : isStarE a = false) : starEach [a] env = [(false, eval a env)] := starEach_cons h
theorem snd_rng1 {tg a : Expr} {ea : Ex} {p pos : Pos} (hg : Gl X "range") (hm : X.mg "range" = none) (hst : isStarE a = false) (ha : PE X a (tA D ea)) : PI X tg (.Call (.Name "range" p) [a] [] pos) (tI D (.irng1 ea)) :=
  PI.of (pi_range1 hg hm (pa_cons ha pa_nil (starEach_cons hst)) (starEach_one hst)) fun σ H R ⟨n, g, e, te, hh, ts, S, w⟩ => by
    simp only [evI] at w
    refine ⟨n, g, e, te, hh, ts, S, Wp.bind w fun ra e1 h1 g1 H1 x _ E1 S1 r1 w1 => ?_⟩
    obtain ⟨g1', E1', S1', f1⟩ := S1.keep r1
    have w1' := w1.mono E1'
    cases q1 : rd ra e1 h1 with
    | none => rw [q1] at w1'; exact w1'.elim
    | some px =>
      rw [q1] at w1'
      cases px with
      | int j =>
        cases (S1'.rd f1 q1).int
        simp only at w1'
        split at w1'
        · rename_i q2
          obtain ⟨b1, b2⟩ := small62_b q2
          refine ⟨j, rfl, b1, b2, ?_⟩
          have h3 : ItRel D.T g1' H1 (Itr 0 j.toNat) (rngItems 0 j) [] := by
            have := it_rng (T := D.T) (g := g1') (H := H1) 0 j
            rw [Int.sub_zero] at this; exact this
          exact w1' g1' H1 _ (Ext.refl _ _) S1' h3
        · exact w1'.elim
      | _ => exact w1'.elim
theorem snd_rng2 {tg a b : Expr} {ea eb : Ex} {p pos : Pos} (hg : Gl X "range") (hm : X.mg "range" = none) (hst : isStarE a = false) (hst2 : isStarE b = false) (ha : PE X a (tA D ea)) (hb : PE X b (tA D eb)) : PI X tg (.Call (.Name "range" p) [a, b] [] pos) (tI D (.irng2 ea eb)) :=
  PI.of (pi_range2 hg hm (pa_cons ha (pa_cons hb pa_nil (starEach_cons hst2)) (starEach_cons hst)) (by rw [starEach_cons hst, starEach_one hst2]) (starEach_one hst2)) fun σ H R ⟨n, g, e, te, hh, ts, S, w⟩ => by
    simp only [evI] at w
    refine two_parts S w fun ra rb e2 h2 g2 H2 x y S2 f1 f2 w2 => ?_
    cases q1 : rd ra e2 h2 with
    | none => rw [q1] at w2; exact w2.elim
    | some px =>
      cases q2 : rd rb e2 h2 with
      | none => rw [q1, q2] at w2; cases px <;> exact w2.elim
      | some py =>
        rw [q1, q2] at w2
        cases px with
        | int i =>
          cases py with
          | int j =>
            cases (S2.rd f1 q1).int
            cases (S2.rd f2 q2).int
            simp only at w2
            split at w2
            · rename_i q3
              obtain ⟨b1, b2⟩ := small62_b q3.1
              obtain ⟨b3, b4⟩ := small62_b q3.2
              exact ⟨i, j, rfl, ⟨b1, b2, b3, b4⟩, w2 g2 H2 _ (Ext.refl _ _) S2 (it_rng i j)⟩
            · exact w2.elim
          | _ => exact w2.elim
        | _ => exact w2.elim
theorem snd_zip (ok : XOk D.T N sc k X) {a b : Expr} {elts : List Expr} {kk : Nat} {ea eb : Ex} {p pos tpos : Pos} (hg : Gl X "zip") (hm : X.mg "zip" = none) (hst : isStarE a = false) (hst2 : isStarE b = false) (ha : PE X a (tA D ea)) (hb : PE X b (tA D eb)) :
    PI X (.Tuple elts kk tpos) (.Call (.Name "zip" p) [a, b] [] pos) (tI D (.izip ea eb)) :=
  PI.of (RZ.pi_zipA hg hm (pa_cons ha (pa_cons hb pa_nil (starEach_cons hst2)) (starEach_cons hst)) (starEach_cons hst) (by rw [starEach_one hst2]; rfl)) fun σ H R ⟨n, g, e, te, hh, ts, S, w⟩ => by
    simp only [evI] at w
    refine ⟨n, g, e, te, hh, ts, S, Wp.bind w fun ra e1 h1 g1 H1 x _ E1 S1 r1 w1 => ?_⟩
    cases q : esc ra e1 with
    | none => rw [q] at w1; exact w1.elim
    | some z =>
      obtain ⟨p, fr, e2⟩ := z
      rw [q] at w1
      obtain ⟨g2, E2, S2, t1⟩ := S1.escF r1 q
      refine ⟨n, g2, e2, te, h1, ts, S2, Wp.bind (w1.mono E2) fun rb e3 h3 g3 H3 y _ E3 S3 r3 w3 => ?_⟩
      cases q2 : esc rb e3 with
      | none => rw [q2] at w3; exact w3.elim
      | some z =>
        obtain ⟨p', fr', e4⟩ := z
        rw [q2] at w3
        obtain ⟨g4, E4, S4, t2⟩ := S3.escF r3 q2
        have w4 := w3.mono E4
        have t1' := (Tr.ext E3 t1).ext E4
        simp only at w4
        have tcase : ∀ xs ys, p = .tup xs → p' = .tup ys → ∃ a b vs ws, [x, y] = [V.ref a, V.ref b] ∧ ((SqL X.K H3 a vs ∧ SqL X.K H3 b ws ∧ R (Itz X.K a b) H3) ∨ (SqT X.K H3 a vs ∧ SqT X.K H3 b ws ∧ R (RZ.ItzT X.K a b) H3)) := fun xs ys ep ep' => by
          subst ep; subst ep'
          obtain ⟨a, vs, rfl, r, hl, kp⟩ := tup_keep t1'
          obtain ⟨b, ws, rfl, s, hl', kp'⟩ := tup_keep t2
          exact ⟨a, b, vs, ws, rfl, .inr ⟨by rw [ok.K]; exact kp g4 H3 (Ext.refl _ _), by rw [ok.K]; exact kp' g4 H3 (Ext.refl _ _), by rw [ok.K]; exact w4 g4 H3 _ (Ext.refl _ _) S4 (it_zipT r s kp kp')⟩⟩
        have lcase : (Wp D n σ te ts (relI D) (match lstOf h3 p, lstOf h3 p' with | some xs, some ys => Out.ok (zipItems xs.1 ys.1, xs.2 ++ ys.2) e4 h3 | _, _ => Out.stuck) g4 H3 R) → ∃ a b vs ws, [x, y] = [V.ref a, V.ref b] ∧ ((SqL X.K H3 a vs ∧ SqL X.K H3 b ws ∧ R (Itz X.K a b) H3) ∨ (SqT X.K H3 a vs ∧ SqT X.K H3 b ws ∧ R (RZ.ItzT X.K a b) H3)) := fun w5 => by
          cases q5 : lstOf h3 p with
          | none => rw [q5] at w5; exact w5.elim
          | some z1 =>
            cases q6 : lstOf h3 p' with
            | none => rw [q5, q6] at w5; exact w5.elim
            | some z2 =>
              obtain ⟨xs, gd⟩ := z1
              obtain ⟨ys, gd'⟩ := z2
              rw [q5, q6] at w5
              obtain ⟨a, rfl, k1, G1⟩ := lst_kept S4.sim t1' q5
              obtain ⟨b, rfl, k2, G2⟩ := lst_kept S4.sim t2 q6
              obtain ⟨vs, s1, _, _⟩ := k1 g4 H3 (Ext.refl _ _) G1
              obtain ⟨ws, s2, _, _⟩ := k2 g4 H3 (Ext.refl _ _) G2
              exact ⟨a, b, vs, ws, rfl, .inl ⟨by rw [ok.K]; exact s1, by rw [ok.K]; exact s2, by rw [ok.K]; exact w5 g4 H3 _ (Ext.refl _ _) S4 (it_zip (k1.sub fun z hz => List.mem_append_left _ hz) (k2.sub fun z hz => List.mem_append_right _ hz))⟩⟩
        cases p <;> cases p' <;> first | exact tcase _ _ rfl rfl | exact lcase w4
theorem snd_enum (ok : XOk D.T N sc k X) {a : Expr} {elts : List Expr} {kk : Nat} {ea : Ex} {p pos tpos : Pos} (hg : Gl X "enumerate") (hm : X.mg "enumerate" = none) (hst : isStarE a = false) (ha : PE X a (tA D ea)) :
    PI X (.Tuple elts kk tpos) (.Call (.Name "enumerate" p) [a] [] pos) (tI D (.ienum ea)) :=
  PI.of (pi_enumA hg hm (pa_cons ha pa_nil (starEach_cons hst)) (starEach_one hst)) fun σ H R ⟨n, g, e, te, hh, ts, S, w⟩ => by
    simp only [evI] at w
    refine ⟨n, g, e, te, hh, ts, S, Wp.bind w fun ra e1 h1 g1 H1 x _ E1 S1 r1 w1 => ?_⟩
    cases q : esc ra e1 with
    | none => rw [q] at w1; exact w1.elim
    | some z =>
      obtain ⟨p, fr, e2⟩ := z
      rw [q] at w1
      obtain ⟨g2, E2, S2, t1⟩ := S1.escF r1 q
      have w2 := w1.mono E2
      have lcase : (Wp D n σ te ts (relI D) (match lstOf h1 p with | some xs => Out.ok (enumItems xs.1, xs.2) e2 h1 | none => Out.stuck) g2 H1 R) → ∃ a xs, [x] = [V.ref a] ∧ ((SqL X.K H1 a xs ∧ R (Ite X.K a) H1) ∨ (SqT X.K H1 a xs ∧ R (IteT X.K a) H1)) := fun w5 => by
        cases q5 : lstOf h1 p with
        | none => rw [q5] at w5; exact w5.elim
        | some z1 =>
          obtain ⟨xs, gd⟩ := z1
          rw [q5] at w5
          obtain ⟨a, rfl, k1, G1⟩ := lst_kept S2.sim t1 q5
          obtain ⟨vs, s1, _, _⟩ := k1 g2 H1 (Ext.refl _ _) G1
          exact ⟨a, vs, rfl, .inl ⟨by rw [ok.K]; exact s1, by rw [ok.K]; exact w5 g2 H1 _ (Ext.refl _ _) S2 (it_enum k1)⟩⟩
      cases p with
      | tup xs =>
        obtain ⟨a, vs, rfl, r, hl, kp⟩ := tup_keep t1
        exact ⟨a, vs, rfl, .inr ⟨by rw [ok.K]; exact kp g2 H1 (Ext.refl _ _), by rw [ok.K]; exact w2 g2 H1 _ (Ext.refl _ _) S2 (it_enumT r kp)⟩⟩
      | _ => exact lcase w2
/-- the iterable of a loop, of a comprehension -/
theorem snd_it (ok : XOk D.T N sc k X) {S : Sc} (so : ScOk D S) (hs : S.sc = sc) {f : Sc → Expr → Ex} {tg it : Expr} (hf : ∀ e, PE X e (tA D (f S e))) : PI X tg it (tI D (cIt f S it (isTup tg))) := by
  have other : PI X tg it (tI D (.iseq (f S it))) := snd_iseq ok (hf it)
  unfold cIt
  split
  · rename_i x p es kws pos
    split
    · rename_i hc
      simp only [Bool.and_eq_true, List.isEmpty_iff] at hc
      obtain ⟨⟨⟨⟨hg, hk⟩, hfr⟩, hkw⟩, hst⟩ := hc
      subst hkw
      have hg' : Gl X x := glB_gl ok (by rw [← hs]; exact hg)
      have hm : X.mg x = none := by rw [ok.mg]; exact so.free x (by simpa using hfr)
      split
      · rename_i e
        subst e
        split
        · exact snd_rng1 hg' hm (by simpa using hst) (hf _)
        · rename_i a b
          have h2 : isStarE a = false ∧ isStarE b = false := by simpa using hst
          exact snd_rng2 hg' hm h2.1 h2.2 (hf _) (hf _)
        · exact pi_stuck
      split
      · rename_i e
        simp only [Bool.and_eq_true, decide_eq_true_eq] at e
        obtain ⟨e, et⟩ := e
        subst e
        split
        · rename_i a b
          have h2 : isStarE a = false ∧ isStarE b = false := by simpa using hst
          cases tg with
          | Tuple elts kk tpos => exact snd_zip ok hg' hm h2.1 h2.2 (hf _) (hf _)
          | _ => simp [isTup] at et
        · exact pi_stuck
      split
      · rename_i e
        simp only [Bool.and_eq_true, decide_eq_true_eq] at e
        obtain ⟨e, et⟩ := e
        subst e
        split
        · cases tg with
          | Tuple elts kk tpos => exact snd_enum ok hg' hm (by simpa using hst) (hf _)
          | _ => simp [isTup] at et
        · exact pi_stuck
      · exact other
    · exact other
  · exact pi_stuck
  · exact other
end
end PL

/-! Comprehensions. -/
namespace PL
open PySem PySem.Spec PyProof.Rows L2

/-- the same walk, no error wished for -/
abbrev Wd.calm (D : Wd) : Wd := { D with W := fun _ _ _ _ => False }
theorem SimT.toCalm {D : Wd} {n : En} {σ : List (Option V)} {e te : Env} {h : Hs} {ts : List (Option V)} {g : Gh} {H : Hp} (S : SimT D.T n g e te h σ ts H) : SimT D.calm.T n g e te h σ ts H := S

theorem Wp.ok {D : Wd} {α β : Type} {n : En} {σ : List (Option V)} {te : Env} {ts : List (Option V)} {rel : Gh → Hp → Env → α → β → Prop} {o : Out α} {r : α} {e : Env} {h : Hs} {g : Gh} {H : Hp} {Q : β → Hp → Prop} (q : o = .ok r e h)
    (k : ∀ g' H' w, Ext g H g' H' → SimT D.T n g' e te h σ ts H' → rel g' H' e r w → Q w H') : Wp D n σ te ts rel o g H Q := by
  subst q; exact k
theorem bind_ok {α β : Type} {o : Out α} {f : α → Env → Hs → Out β} {r : β} {e : Env} {h : Hs} (q : o.bind f = .ok r e h) : ∃ a e1 h1, o = .ok a e1 h1 ∧ f a e1 h1 = .ok r e h := by
  cases o with
  | ok a e1 h1 => exact ⟨a, e1, h1, rfl, q⟩
  | exc c fs e1 h1 => cases q
  | stuck => cases q
/-- one turn of a comprehension's loop -/
def lcStep (C : Calls) (tg : Tg) (ifs body : Ex) (vs : List Nat) : PV → Env → Hs → Out (List PV) := fun x e h => match bindT tg x (wipeE vs e) with
  | some e' => (evT C ifs e' h).bind fun k e2 h2 => if k = true then evM C body e2 h2 else .ok [] e2 h2
  | none => .stuck
theorem evM_lcin {C : Calls} {tg : Tg} {it ifs body : Ex} {e : Env} {h : Hs} : evM C (.lcin tg it ifs body) e h = (evI C it e h).bind fun xs e1 h1 => lcLoop xs.2 (lcStep C tg ifs body (tgIs tg)) xs.1 e1 h1 := by
  simp only [evM]; rfl
theorem lcStep_ok {C : Calls} {tg : Tg} {ifs body : Ex} {vs : List Nat} {x : PV} {e e1 : Env} {h h1 : Hs} {r : List PV} (q : lcStep C tg ifs body vs x e h = .ok r e1 h1) :
    ∃ e' b e2 h2, bindT tg x (wipeE vs e) = some e' ∧ evT C ifs e' h = .ok b e2 h2 ∧ (if b = true then evM C body e2 h2 else .ok [] e2 h2) = .ok r e1 h1 := by
  unfold lcStep at q
  cases q1 : bindT tg x (wipeE vs e) with
  | none => rw [q1] at q; cases q
  | some e' =>
    rw [q1] at q
    obtain ⟨b, e2, h2, q2, q3⟩ := bind_ok q
    exact ⟨e', b, e2, h2, rfl, q2, q3⟩
theorem lcLoop_gd {gd : Gd} {f : PV → Env → Hs → Out (List PV)} {xs ps : List PV} {e eF : Env} {h hF : Hs} (q : lcLoop gd f xs e h = .ok ps eF hF) : gdOk gd h = true := by
  cases xs <;> unfold lcLoop at q <;> split at q <;> first | assumption | cases q
theorem lcLoop_cons {gd : Gd} {f : PV → Env → Hs → Out (List PV)} {x : PV} {xs ps : List PV} {e eF : Env} {h hF : Hs} (q : lcLoop gd f (x :: xs) e h = .ok ps eF hF) : ∃ r e1 h1 rs, f x e h = .ok r e1 h1 ∧ lcLoop gd f xs e1 h1 = .ok rs eF hF ∧ ps = r ++ rs := by
  have hg := lcLoop_gd q
  unfold lcLoop at q
  rw [if_pos hg] at q
  obtain ⟨r, e1, h1, q1, q2⟩ := bind_ok q
  obtain ⟨rs, e2, h2, q3, q4⟩ := bind_ok q2
  cases q4
  exact ⟨r, e1, h1, rs, q1, q3, rfl⟩
theorem lcLoop_nil {gd : Gd} {f : PV → Env → Hs → Out (List PV)} {ps : List PV} {e eF : Env} {h hF : Hs} (q : lcLoop gd f [] e h = .ok ps eF hF) : ps = [] ∧ eF = e ∧ hF = h := by
  have hg := lcLoop_gd q
  unfold lcLoop at q
  rw [if_pos hg] at q
  cases q
  exact ⟨rfl, rfl, rfl⟩
theorem drop_cons {α : Type} {xs : List α} {i : Nat} (h : i < xs.length) : xs.drop i = xs[i] :: xs.drop (i + 1) := List.drop_eq_getElem_cons h

/-! slots of blocks -/
theorem wipe_ext {σ σ' : L2.St} {vs : List Nat} (hl : σ'.length = σ.length) (h : ∀ i, i ∉ vs → σ'[i]? = σ[i]?) : wipe σ' vs = wipe σ vs := by
  refine List.ext_getElem? fun i => ?_
  rw [wipe_get, wipe_get]
  by_cases hv : i ∈ vs
  · rw [if_pos hv, if_pos hv]
    by_cases hlt : i < σ.length
    · rw [List.getElem?_eq_getElem hlt, List.getElem?_eq_getElem (by omega)]; rfl
    · rw [List.getElem?_eq_none (by omega), List.getElem?_eq_none (by omega)]
  · rw [if_neg hv, if_neg hv]; exact h i hv
theorem wipe_sub {σ : L2.St} {vs ws : List Nat} (h : ∀ i ∈ ws, i ∈ vs) : wipe (wipe σ ws) vs = wipe σ vs :=
  wipe_ext (wipe_length σ ws) fun i hi => by rw [wipe_get, if_neg fun x => hi (h i x)]
theorem wipeE_sub {e : Env} {vs ws : List Nat} (h : ∀ i ∈ ws, i ∈ vs) : wipeE vs (wipeE ws e) = wipeE vs e := by
  refine List.ext_getElem? fun i => ?_
  rw [wipeE_get, wipeE_get, wipeE_get]
  by_cases hv : i ∈ vs
  · rw [if_pos hv, if_pos hv]
    split
    · cases e[i]? <;> rfl
    · rfl
  · rw [if_neg hv, if_neg hv, if_neg fun x => hv (h i x)]

mutual
theorem bindT_len {x : PV} {e e' : Env} : ∀ {t : Tg}, bindT t x e = some e' → e'.length = e.length
  | .nm i, h => by
    simp only [bindT] at h
    split at h
    · cases h; simp
    · cases h
  | .tp t, h => by
    cases x <;> simp only [bindT] at h <;> first | (cases h; done) | exact bindTs_len' h
  | .nil, h => by simp [bindT] at h
  | .cons t ts, h => by simp [bindT] at h
theorem bindTs_len' {xs : List PV} {e e' : Env} : ∀ {t : Tg}, bindTs t xs e = some e' → e'.length = e.length
  | .nil, h => by
    cases xs <;> simp only [bindTs] at h
    · cases h; rfl
    · cases h
  | .cons t ts, h => by
    cases xs with
    | nil => simp [bindTs] at h
    | cons x xs =>
      simp only [bindTs, Option.bind_eq_some_iff] at h
      obtain ⟨e1, h1, h2⟩ := h
      rw [bindTs_len' h2, bindT_len h1]
  | .nm i, h => by cases xs <;> simp [bindTs] at h
  | .tp t, h => by cases xs <;> simp [bindTs] at h
end
theorem apart_back {σ : L2.St} {e e0 te : Env} {ts : List (Option V)} {vs : List Nat} {a : Addr} (le : e.length = σ.length) (le0 : e0.length = σ.length) (hno : ∀ i p, i ∈ vs → e0[i]? ≠ some (.own p)) (ap : Apart (wipeE vs e ++ te) (L2.wipe σ vs ++ ts) a) : Apart (backE vs e0 e ++ te) (σ ++ ts) a := by
  intro i q hi hw
  by_cases hlt : i < e.length
  · rw [List.getElem?_append_left (by rw [backE_len]; exact hlt), backE_get] at hi
    rw [List.getElem?_append_left (by rw [← le]; exact hlt)] at hw
    by_cases hv : i ∈ vs
    · rw [if_pos hv, List.getElem?_eq_getElem hlt] at hi
      have hs : SV.own q = e0.getD i .no := by simpa using hi.symm
      have hlt0 : i < e0.length := by omega
      exact hno i q hv (by rw [hs, List.getD_eq_getElem?_getD, List.getElem?_eq_getElem hlt0]; rfl)
    · rw [if_neg hv] at hi
      refine ap i q ?_ ?_
      · rw [List.getElem?_append_left (by rw [wipeE_len]; exact hlt), wipeE_get, if_neg hv]; exact hi
      · rw [List.getElem?_append_left (by rw [wipe_length, ← le]; exact hlt), wipe_get, if_neg hv]; exact hw
  · rw [List.getElem?_append_right (by rw [backE_len]; omega), backE_len] at hi
    rw [List.getElem?_append_right (by omega)] at hw
    refine ap i q ?_ ?_
    · rw [List.getElem?_append_right (by rw [wipeE_len]; omega), wipeE_len]; exact hi
    · rw [List.getElem?_append_right (by rw [wipe_length]; omega), wipe_length]; exact hw

section
variable {D : Wd} {n : En}
/-- the block's slots are put back -/
theorem SimT.back {g0 g : Gh} {σ : L2.St} {e0 e te : Env} {h0 h : Hs} {ts : List (Option V)} {H0 H : Hp} {vs : List Nat} (S0 : SimT D.T n g0 e0 te h0 σ ts H0) (hno : ∀ i p, i ∈ vs → e0[i]? ≠ some (.own p)) (E : Ext g0 H0 g H) (S : SimT D.T n g (wipeE vs e) te h (L2.wipe σ vs) ts H) :
    SimT D.T n g (backE vs e0 e) te h σ ts H := by
  have le : e.length = σ.length := by have := S.l1; rw [wipeE_len, wipe_length] at this; exact this
  have l1 : (backE vs e0 e).length = σ.length := by rw [backE_len]; exact le
  refine ⟨l1, S.l2, S.sim.re (by rw [List.length_append, List.length_append, l1, S.l2]) fun i s hi => ?_⟩
  by_cases hlt : i < e.length
  · rw [List.getElem?_append_left (by rw [backE_len]; exact hlt), backE_get] at hi
    have hσ : (σ ++ ts)[i]? = σ[i]? := List.getElem?_append_left (by rw [← le]; exact hlt)
    by_cases hv : i ∈ vs
    · rw [if_pos hv, List.getElem?_eq_getElem hlt] at hi
      have hs : s = e0.getD i .no := by simpa using hi.symm
      have hlt0 : i < e0.length := by rw [S0.l1, ← le]; exact hlt
      have h0 : e0[i]? = some s := by rw [hs, List.getD_eq_getElem?_getD, List.getElem?_eq_getElem hlt0]; rfl
      cases s with
      | no => exact .inl rfl
      | own p => exact absurd h0 (hno i p hv)
      | val p =>
        obtain ⟨w, e1, t⟩ := S0.sim.sl i _ (by rw [List.getElem?_append_left hlt0]; exact h0)
        exact .inr (.inl ⟨p, w, rfl, e1, t.ext E⟩)
    · rw [if_neg hv] at hi
      refine .inr (.inr ⟨?_, ?_⟩)
      · rw [List.getElem?_append_left (by rw [wipeE_len]; exact hlt), wipeE_get, if_neg hv]; exact hi
      · rw [hσ, List.getElem?_append_left (by rw [wipe_length, ← le]; exact hlt), wipe_get, if_neg hv]
  · rw [List.getElem?_append_right (by rw [backE_len]; omega), backE_len] at hi
    refine .inr (.inr ⟨?_, ?_⟩)
    · rw [List.getElem?_append_right (by rw [wipeE_len]; omega), wipeE_len]; exact hi
    · rw [List.getElem?_append_right (by rw [← le]; omega), List.getElem?_append_right (by rw [wipe_length, ← le]; omega), wipe_length]
theorem SimT.grow {g : Gh} {σ : L2.St} {e te : Env} {h : Hs} {ts : List (Option V)} {H H' : Hp} (S : SimT D.T n g e te h σ ts H) {D' : Addr → Prop} (hg : ∀ a, H a ≠ none → H' a = H a) (hD : ∀ a, D' a → H a = none ∧ H' a ≠ none) : Ext g H (gF g D') H' ∧ SimT D.T n (gF g D') e te h σ ts H' := by
  obtain ⟨E, S'⟩ := S.sim.grow hg hD
  exact ⟨E, S.l1, S.l2, S'⟩
/-- one element is reckoned and appended -/
theorem elt_step {g : Gh} {σ : L2.St} {e te e' : Env} {h h' : Hs} {ts : List (Option V)} {H : Hp} {ex : Ex} {acc r : List PV} {Da : Addr} {Nx : Hp → Prop} (S : SimT D.T n g e (te ++ [.own (.lst acc)]) h σ (ts ++ [some (.ref Da)]) H)
    (q : evM D.C (.one ex) e h = .ok r e' h') (hl : acc.length + 1 ≤ line)
    (k : ∀ g' H', Ext g H g' H' → SimT D.T n g' e' (te ++ [.own (.lst (acc ++ r))]) h' σ (ts ++ [some (.ref Da)]) H' → Nx H') :
    r.length = 1 ∧ tA D.calm ex σ H fun y H4 => ∃ ac, H4 Da = some (.lst ac) ∧ ac.length < sizeLine ∧ Nx (upd H4 Da (.lst (ac ++ [y]))) := by
  simp only [evM] at q
  obtain ⟨rr, e1, h1, q1, q2⟩ := bind_ok q
  cases q3 : esc rr e1 with
  | none => rw [q3] at q2; cases q2
  | some z =>
    obtain ⟨p, fr, e2⟩ := z
    rw [q3] at q2
    cases q2
    refine ⟨rfl, n, g, e, te ++ [.own (.lst acc)], h, ts ++ [some (.ref Da)], S, Wp.ok q1 fun g1 H1 y E1 S1 r1 => ?_⟩
    have S1' : SimT D.T n g1 e1 (te ++ [.own (.lst acc)]) h' σ (ts ++ [some (.ref Da)]) H1 := S1
    obtain ⟨g2, E2, S2, t⟩ := S1'.escF r1 q3
    obtain ⟨a, ea, o, _⟩ := S2.top
    cases ea
    obtain ⟨ac, h4, h5, h6⟩ := o.at_
    have hlen : ac.length + 1 ≤ sizeLine := by rw [← h6.length, ← line_eq]; exact hl
    refine ⟨ac, h4, hlen, ?_⟩
    obtain ⟨E3, S3⟩ := S2.app (vs := ac ++ [y]) (by rw [List.length_append]; exact hlen) (h6.append (.cons t .nil))
    exact k g2 _ ((E1.trans E2).trans E3) S3
end

/-! ### the block's context -/
section
variable {D : Wd} {N : List Str} {sc : Scope} {asg : Str → Bool} {k : Nat} {X : Cx}
theorem XG.blk (xg : XG D N sc asg k X) (scope : Scope) {s : Shared} {H : Hp} {C : Addr} {cl : List (Str × Addr)} {fp : List Addr} :
    XG D.calm N (relS scope sc) (fun x => scope.names.lookup x == some .cell || scope.names.lookup x == some .local) k (X.blk s H scope (compEnvC scope cl C X.env) fp) where
  P := xg.P
  w := xg.w
  K := xg.K
  mg := xg.mg
  base := xg.base
  hN := xg.hN
  hsc := by show relS scope X.env.scope = relS scope sc; rw [xg.hsc]
  calm := xg.calm
  nd := xg.nd
  hr := xg.hr
  tk := takes_none5
  po := PassesOwn.never
  fn := fun x hx => by
    simp only [Bool.or_eq_true, beq_iff_eq] at hx
    rcases hx with hx | hx
    · exact .inl (by show (scope.names.lookup x == some .cell) = true; rw [hx]; rfl)
    · exact .inr (lookup_relS_keep (sc := X.env.scope) (by simp) hx)
theorem ScOk.blk {S : Sc} (so : ScOk D S) (scope : Scope) : ScOk D.calm (inBlk S scope) := ⟨so.defs, so.fnA, so.mgd, so.free⟩
theorem snd_ifs {S : Sc} {f : Sc → Expr → Ex} {ifs : List Expr} (hf : ∀ e, PT X e (tT D (f S e))) : PTs X ifs (tT D (cIfs f S ifs)) := by
  unfold cIfs
  split
  · exact ⟨fun pins s σ H Q I ⟨n, g, e, te, h, ts, S', w⟩ => by
      simp only [evT] at w
      exact pts_nil.run pins s σ H Q I (w g H true (Ext.refl _ _) S' rfl)⟩
  · exact pts_one (hf _)
  · exact ⟨fun pins s σ H Q I ⟨n, g, e, te, h, ts, S', w⟩ => by simp only [evT, evA, Out.bind] at w; exact w.elim⟩
theorem foldSet {it : Expr} (h : isSetE it = false) (env : PySem.Env) (x : Value) : foldedSetIterable it env x = pure x := by
  cases it <;> first | rfl | (simp [isSetE] at h)

/-- the loop's invariant -/
def LcInv (D : Wd) (n : En) (σ : L2.St) (te : Env) (ts : List (Option V)) (vs : List Nat) (gd : Gd) (f : PV → Env → Hs → Out (List PV)) (xs ps : List PV) (eF : Env) (hF : Hs) (Da : Addr) (g0 : Gh) (H0 : Hp) (i m : Nat) (H : Hp) : Prop :=
  m = xs.length - i ∧ ∃ g e h acc rest, Ext g0 H0 g H ∧ SimT D.T n g (wipeE vs e) (te ++ [.own (.lst acc)]) h (L2.wipe σ vs) (ts ++ [some (.ref Da)]) H ∧ lcLoop gd f (xs.drop i) e h = .ok rest eF hF ∧ acc ++ rest = ps
def LcInv2 (D : Wd) (n : En) (σ : L2.St) (te : Env) (ts : List (Option V)) (vs : List Nat) (gd : Gd) (f : PV → Env → Hs → Out (List PV)) (xs ps : List PV) (eF : Env) (hF : Hs) (Da : Addr) (g0 : Gh) (H0 : Hp) (ac0 : List PV) (i m : Nat) (H : Hp) : Prop :=
  m = xs.length - i ∧ ∃ g e h acc rest, Ext g0 H0 g H ∧ SimT D.T n g (wipeE vs e) (te ++ [.own (.lst (ac0 ++ acc))]) h (L2.wipe σ vs) (ts ++ [some (.ref Da)]) H ∧ lcLoop gd f (xs.drop i) e h = .ok rest eF hF ∧ acc ++ rest = ps
theorem imp_lc1 {t : Tg} {eit eifs eelt : Ex} {vs : List Nat} (hsub : ∀ i ∈ tgIs t, i ∈ vs) {σ : L2.St} {H : Hp} {Q : VK} : tA D (.lc vs t eit eifs (.one eelt)) σ H Q → tLc (tI D eit) (tG D.calm t) (tT D.calm eifs) (tA D.calm eelt) vs σ H Q := by
  rintro ⟨n, g, e, te, h, ts, S, w⟩
  simp only [evA] at w
  refine ⟨n, g, e, te, h, ts, S, Wp.bind w fun z e1 h1 g1 H1 J _ E1 S1 rJ w1 => ?_⟩
  obtain ⟨xs, gd⟩ := z
  replace rJ : ItRel D.T g1 H1 J xs gd := rJ
  intro Da hDa
  change Wp D n σ te ts (relA D n σ te ts) (match (lcLoop gd (lcStep D.C t eifs (.one eelt) vs) xs (frzAt vs e1) h1).noex with
      | .ok ps e2 h2 => if ps.length ≤ line then .ok (.v (.lst ps) true) (backE vs (frzAt vs e1) e2) h2 else .stuck
      | _ => .stuck) g1 H1 Q at w1
  cases qL : lcLoop gd (lcStep D.C t eifs (.one eelt) vs) xs (frzAt vs e1) h1 with
  | stuck => rw [qL] at w1; exact w1.elim
  | exc c fs e2 h2 => rw [qL] at w1; exact w1.elim
  | ok ps eF hF =>
    rw [qL] at w1
    simp only [Out.noex] at w1
    split at w1
    · rename_i hlen
      obtain ⟨g2, E2, S2⟩ := S1.frzAt vs
      have hno : ∀ i p, i ∈ vs → (frzAt vs e1)[i]? ≠ some (.own p) := fun i p hi => frzAt_in e1 vs i p hi
      obtain ⟨g3, E3, S3, r3⟩ := S2.made (z := .lst []) (fr := true) (w := .ref Da) (mk_lst hDa (Nat.zero_le _) .nil)
      obtain ⟨a3, ea, o3, ap3⟩ := r3
      cases ea
      have S3p := S3.push o3 ap3
      refine ⟨LcInv D n σ te ts vs gd (lcStep D.C t eifs (.one eelt) vs) xs ps eF hF Da g3 (upd H1 Da (.lst [])), ⟨xs.length, rfl, g3, frzAt vs e1, h1, [], ps, Ext.refl _ _, S3p.wipe vs, qL, rfl⟩, ?_⟩
      rintro i m H4 ⟨hm, g4, e4, h4, acc, rest, E4, S4, q4, hacc⟩
      have E14 : Ext g1 H1 g4 H4 := (E2.trans E3).trans E4
      have G4 := gd_of S4.sim (lcLoop_gd q4)
      by_cases hlt : i < xs.length
      · refine .inr ⟨((rJ g4 H4 E14 S4.sim.fin G4 i).1 xs[i] (List.getElem?_eq_getElem hlt)).1, LcInv D n σ te ts vs gd (lcStep D.C t eifs (.one eelt) vs) xs ps eF hF Da g3 (upd H1 Da (.lst [])) (i + 1) (xs.length - (i + 1)), fun H' hN => ⟨_, by omega, hN⟩, ?_⟩
        intro x H5 hy
        obtain ⟨Dn, k1, k2, tx⟩ := ((rJ g4 H4 E14 S4.sim.fin G4 i).1 xs[i] (List.getElem?_eq_getElem hlt)).2 x H5 hy
        obtain ⟨E5, S5⟩ := S4.grow k1 k2
        rw [drop_cons hlt] at q4
        obtain ⟨r, e6, h6, rs, q6, q7, hr⟩ := lcLoop_cons q4
        obtain ⟨e', b, e7, h7, q8, q9, q10⟩ := lcStep_ok q6
        refine ⟨n, _, wipeE vs e4, te ++ [.own (.lst acc)], h4, ts ++ [some (.ref Da)], S5, xs[i], e', tx, q8, fun σ' S6 hσ' => ?_⟩
        have hw : wipe σ' vs = wipe σ vs := by
          have hl : σ'.length = (L2.wipe σ vs).length := by
            have a := S6.l1
            have b := S5.l1
            have c : e'.length = (wipeE vs e4).length := bindT_len q8
            omega
          rw [wipe_ext hl fun i hi => hσ' i fun x => hi (hsub i x), wipe_sub fun i hi => hi]
        refine ⟨hw, n, _, e', te ++ [.own (.lst acc)], h4, ts ++ [some (.ref Da)], S6, Wp.ok q9 fun g8 H8 b' E8 S8 hb' => ?_⟩
        have hb'' : b = b' := hb'
        subst hb''
        have fin : ∀ g9 H9 acc', Ext g8 H8 g9 H9 → SimT D.T n g9 e6 (te ++ [.own (.lst acc')]) h6 σ' (ts ++ [some (.ref Da)]) H9 → acc' = acc ++ r → LcInv D n σ te ts vs gd (lcStep D.C t eifs (.one eelt) vs) xs ps eF hF Da g3 (upd H1 Da (.lst [])) (i + 1) (xs.length - (i + 1)) H9 := by
          intro g9 H9 acc' E9 S9 ha
          refine ⟨rfl, g9, e6, h6, acc', rs, ((E4.trans E5).trans E8).trans E9, ?_, q7, by rw [ha, ← hacc, hr, List.append_assoc]⟩
          rw [← hw]
          exact S9.wipe vs
        cases b with
        | false =>
          rw [if_neg Bool.false_ne_true] at q10 ⊢
          cases q10
          exact fin g8 H8 acc (Ext.refl _ _) S8 (by simp)
        | true =>
          rw [if_pos rfl] at q10 ⊢
          have hr1 : acc.length + r.length + rs.length ≤ line := by
            rw [← hacc, hr, List.length_append, List.length_append] at hlen
            omega
          have hr0 : r.length = 1 := by
            simp only [evM] at q10
            obtain ⟨rr, e1, h1, q1, q2⟩ := bind_ok q10
            cases q3 : esc rr e1 with
            | none => rw [q3] at q2; cases q2
            | some z => rw [q3] at q2; cases q2; rfl
          exact (elt_step (D := D) S8 q10 (by omega) fun g9 H9 E9 S9 => fin g9 H9 _ E9 S9 rfl).2
      · refine .inl ⟨(rJ g4 H4 E14 S4.sim.fin G4 i).2 (by omega), ?_⟩
        rw [List.drop_eq_nil_of_le (by omega)] at q4
        obtain ⟨rfl, rfl, rfl⟩ := lcLoop_nil q4
        rw [List.append_nil] at hacc
        subst hacc
        obtain ⟨a4, ea, o4, ap4⟩ := S4.top
        cases ea
        have S4' := S4.pop
        have E24 : Ext g2 H1 g4 H4 := E3.trans E4
        have Sb := SimT.back S2 hno E24 S4'
        have le : eF.length = σ.length := by have := S4'.l1; rw [wipeE_len, wipe_length] at this; exact this
        exact w1 g4 H4 (.ref Da) E14 Sb ⟨Da, rfl, o4, apart_back le S2.l1 hno ap4⟩
    · exact w1.elim
theorem imp_lc2 {t t1 : Tg} {eit eifs eit1 eifs1 eelt : Ex} {vs : List Nat} (hsub : ∀ i ∈ tgIs t, i ∈ vs) (hsub1 : ∀ i ∈ tgIs t1, i ∈ vs) {σ : L2.St} {H : Hp} {Q : VK} : tA D (.lc vs t eit eifs (.lcin t1 eit1 eifs1 (.one eelt))) σ H Q → tLc2 (tI D eit) (tG D.calm t) (tT D.calm eifs) (tI D.calm eit1) (tG D.calm t1) (tT D.calm eifs1) (tA D.calm eelt) vs (tgIs t1) σ H Q := by
  rintro ⟨n, g, e, te, h, ts, S, w⟩
  simp only [evA] at w
  refine ⟨n, g, e, te, h, ts, S, Wp.bind w fun z e1 h1 g1 H1 J _ E1 S1 rJ w1 => ?_⟩
  obtain ⟨xs, gd⟩ := z
  replace rJ : ItRel D.T g1 H1 J xs gd := rJ
  intro Da hDa
  change Wp D n σ te ts (relA D n σ te ts) (match (lcLoop gd (lcStep D.C t eifs (.lcin t1 eit1 eifs1 (.one eelt)) vs) xs (frzAt vs e1) h1).noex with
      | .ok ps e2 h2 => if ps.length ≤ line then .ok (.v (.lst ps) true) (backE vs (frzAt vs e1) e2) h2 else .stuck
      | _ => .stuck) g1 H1 Q at w1
  cases qL : lcLoop gd (lcStep D.C t eifs (.lcin t1 eit1 eifs1 (.one eelt)) vs) xs (frzAt vs e1) h1 with
  | stuck => rw [qL] at w1; exact w1.elim
  | exc c fs e2 h2 => rw [qL] at w1; exact w1.elim
  | ok ps eF hF =>
    rw [qL] at w1
    simp only [Out.noex] at w1
    split at w1
    · rename_i hlen
      obtain ⟨g2, E2, S2⟩ := S1.frzAt vs
      have hno : ∀ i p, i ∈ vs → (frzAt vs e1)[i]? ≠ some (.own p) := fun i p hi => frzAt_in e1 vs i p hi
      obtain ⟨g3, E3, S3, r3⟩ := S2.made (z := .lst []) (fr := true) (w := .ref Da) (mk_lst hDa (Nat.zero_le _) .nil)
      obtain ⟨a3, ea, o3, ap3⟩ := r3
      cases ea
      have S3p := S3.push o3 ap3
      refine ⟨LcInv D n σ te ts vs gd (lcStep D.C t eifs (.lcin t1 eit1 eifs1 (.one eelt)) vs) xs ps eF hF Da g3 (upd H1 Da (.lst [])), ⟨xs.length, rfl, g3, frzAt vs e1, h1, [], ps, Ext.refl _ _, S3p.wipe vs, qL, rfl⟩, ?_⟩
      rintro i m H4 ⟨hm, g4, e4, h4, acc, rest, E4, S4, q4, hacc⟩
      have E14 : Ext g1 H1 g4 H4 := (E2.trans E3).trans E4
      have G4 := gd_of S4.sim (lcLoop_gd q4)
      by_cases hlt : i < xs.length
      · refine .inr ⟨((rJ g4 H4 E14 S4.sim.fin G4 i).1 xs[i] (List.getElem?_eq_getElem hlt)).1, LcInv D n σ te ts vs gd (lcStep D.C t eifs (.lcin t1 eit1 eifs1 (.one eelt)) vs) xs ps eF hF Da g3 (upd H1 Da (.lst [])) (i + 1) (xs.length - (i + 1)), fun H' hN => ⟨_, by omega, hN⟩, ?_⟩
        intro x H5 hy
        obtain ⟨Dn, k1, k2, tx⟩ := ((rJ g4 H4 E14 S4.sim.fin G4 i).1 xs[i] (List.getElem?_eq_getElem hlt)).2 x H5 hy
        obtain ⟨E5, S5⟩ := S4.grow k1 k2
        rw [drop_cons hlt] at q4
        obtain ⟨r, e6, h6, rs, q6, q7, hr⟩ := lcLoop_cons q4
        obtain ⟨e', b, e7, h7, q8, q9, q10⟩ := lcStep_ok q6
        refine ⟨n, _, wipeE vs e4, te ++ [.own (.lst acc)], h4, ts ++ [some (.ref Da)], S5, xs[i], e', tx, q8, fun σ' S6 hσ' => ?_⟩
        have hw : wipe σ' vs = wipe σ vs := by
          have hl : σ'.length = (L2.wipe σ vs).length := by
            have a := S6.l1
            have b := S5.l1
            have c : e'.length = (wipeE vs e4).length := bindT_len q8
            omega
          rw [wipe_ext hl fun i hi => hσ' i fun x => hi (hsub i x), wipe_sub fun i hi => hi]
        refine ⟨hw, n, _, e', te ++ [.own (.lst acc)], h4, ts ++ [some (.ref Da)], S6, Wp.ok q9 fun g8 H8 b' E8 S8 hb' => ?_⟩
        have hb'' : b = b' := hb'
        subst hb''
        have fin : ∀ g9 H9 acc', Ext g8 H8 g9 H9 → SimT D.T n g9 e6 (te ++ [.own (.lst acc')]) h6 σ' (ts ++ [some (.ref Da)]) H9 → acc' = acc ++ r → LcInv D n σ te ts vs gd (lcStep D.C t eifs (.lcin t1 eit1 eifs1 (.one eelt)) vs) xs ps eF hF Da g3 (upd H1 Da (.lst [])) (i + 1) (xs.length - (i + 1)) H9 := by
          intro g9 H9 acc' E9 S9 ha
          refine ⟨rfl, g9, e6, h6, acc', rs, ((E4.trans E5).trans E8).trans E9, ?_, q7, by rw [ha, ← hacc, hr, List.append_assoc]⟩
          rw [← hw]
          exact S9.wipe vs
        cases b with
        | false =>
          rw [if_neg Bool.false_ne_true] at q10 ⊢
          cases q10
          exact fin g8 H8 acc (Ext.refl _ _) S8 (by simp)
        | true =>
          rw [if_pos rfl] at q10 ⊢
          have hr1 : acc.length + r.length + rs.length ≤ line := by
            rw [← hacc, hr, List.length_append, List.length_append] at hlen
            omega
          rw [evM_lcin] at q10
          obtain ⟨z1, e9, h9, q11, q12⟩ := bind_ok q10
          obtain ⟨xs1, gd1⟩ := z1
          refine ⟨n, g8, e7, te ++ [.own (.lst acc)], h7, ts ++ [some (.ref Da)], S8, Wp.ok q11 fun g9 H9 J1 E9 S9 rJ1 => ?_⟩
          replace rJ1 : ItRel D.T g9 H9 J1 xs1 gd1 := rJ1
          replace q12 : lcLoop gd1 (lcStep D.C t1 eifs1 (.one eelt) (tgIs t1)) xs1 e9 h9 = .ok r e6 h6 := q12
          refine ⟨LcInv2 D n σ' te ts (tgIs t1) gd1 (lcStep D.C t1 eifs1 (.one eelt) (tgIs t1)) xs1 r e6 h6 Da g9 H9 acc, ⟨xs1.length, rfl, g9, e9, h9, [], r, Ext.refl _ _, by simpa using S9.wipe (tgIs t1), q12, rfl⟩, ?_⟩
          rintro j k H10 ⟨hk, ga, ea, ha, acc1, rest1, Ea, Sa, qa, hacc1⟩
          have Ga := gd_of Sa.sim (lcLoop_gd qa)
          by_cases hlt1 : j < xs1.length
          · refine .inr ⟨((rJ1 ga H10 Ea Sa.sim.fin Ga j).1 xs1[j] (List.getElem?_eq_getElem hlt1)).1, LcInv2 D n σ' te ts (tgIs t1) gd1 (lcStep D.C t1 eifs1 (.one eelt) (tgIs t1)) xs1 r e6 h6 Da g9 H9 acc (j + 1) (xs1.length - (j + 1)), fun H' hN => ⟨_, by omega, hN⟩, ?_⟩
            intro x1 H11 hy1
            obtain ⟨Dn1, k11, k12, tx1⟩ := ((rJ1 ga H10 Ea Sa.sim.fin Ga j).1 xs1[j] (List.getElem?_eq_getElem hlt1)).2 x1 H11 hy1
            obtain ⟨Eb, Sb⟩ := Sa.grow k11 k12
            rw [drop_cons hlt1] at qa
            obtain ⟨r1, e12, h12, rs1, qb, qc, hr1'⟩ := lcLoop_cons qa
            obtain ⟨e1', b1, e13, h13, qd, qe, qf⟩ := lcStep_ok qb
            refine ⟨n, _, wipeE (tgIs t1) ea, te ++ [.own (.lst (acc ++ acc1))], ha, ts ++ [some (.ref Da)], Sb, xs1[j], e1', tx1, qd, fun σ3 Sc hσ3 => ?_⟩
            have hw1 : L2.wipe σ3 (tgIs t1) = L2.wipe σ' (tgIs t1) := by
              have hl : σ3.length = (L2.wipe σ' (tgIs t1)).length := by
                have a := Sc.l1
                have b := Sb.l1
                have c : e1'.length = (wipeE (tgIs t1) ea).length := bindT_len qd
                omega
              rw [wipe_ext hl fun i hi => hσ3 i hi, wipe_sub fun i hi => hi]
            refine ⟨hw1, n, _, e1', te ++ [.own (.lst (acc ++ acc1))], ha, ts ++ [some (.ref Da)], Sc, Wp.ok qe fun gd Hd b1' Ed Sd hb1 => ?_⟩
            have hb1' : b1 = b1' := hb1
            subst hb1'
            have fin1 : ∀ g9' H9' acc', Ext gd Hd g9' H9' → SimT D.T n g9' e12 (te ++ [.own (.lst acc')]) h12 σ3 (ts ++ [some (.ref Da)]) H9' → acc' = acc ++ acc1 ++ r1 → LcInv2 D n σ' te ts (tgIs t1) gd1 (lcStep D.C t1 eifs1 (.one eelt) (tgIs t1)) xs1 r e6 h6 Da g9 H9 acc (j + 1) (xs1.length - (j + 1)) H9' := by
              intro g9' H9' acc' E9' S9' ha'
              refine ⟨rfl, g9', e12, h12, acc1 ++ r1, rs1, ((Ea.trans Eb).trans Ed).trans E9', ?_, qc, by rw [← hacc1, hr1', List.append_assoc]⟩
              rw [← hw1, ← List.append_assoc, ← ha']
              exact S9'.wipe _
            cases b1 with
            | false =>
              rw [if_neg Bool.false_ne_true] at qf ⊢
              cases qf
              exact fin1 gd Hd (acc ++ acc1) (Ext.refl _ _) Sd (by simp)
            | true =>
              rw [if_pos rfl] at qf ⊢
              have hr0 : r1.length = 1 := by
                simp only [evM] at qf
                obtain ⟨rr, e1, h1, q1, q2⟩ := bind_ok qf
                cases q3 : esc rr e1 with
                | none => rw [q3] at q2; cases q2
                | some z => rw [q3] at q2; cases q2; rfl
              have hr2 : acc1.length + r1.length ≤ r.length := by
                rw [← hacc1, hr1', List.length_append, List.length_append]; omega
              exact (elt_step (D := D) Sd qf (by rw [List.length_append]; omega) fun g9' H9' E9' S9' => fin1 g9' H9' _ E9' S9' rfl).2
          · refine .inl ⟨(rJ1 ga H10 Ea Sa.sim.fin Ga j).2 (by omega), ?_⟩
            rw [List.drop_eq_nil_of_le (by omega)] at qa
            obtain ⟨rfl, rfl, rfl⟩ := lcLoop_nil qa
            rw [List.append_nil] at hacc1
            subst hacc1
            refine ⟨rfl, ga, e6, h6, acc ++ acc1, rs, (((E4.trans E5).trans E8).trans E9).trans Ea, ?_, q7, by rw [← hacc, hr, List.append_assoc]⟩
            rw [← hw, ← wipe_sub hsub1, ← wipeE_sub hsub1]
            exact Sa.wipe vs
      · refine .inl ⟨(rJ g4 H4 E14 S4.sim.fin G4 i).2 (by omega), ?_⟩
        rw [List.drop_eq_nil_of_le (by omega)] at q4
        obtain ⟨rfl, rfl, rfl⟩ := lcLoop_nil q4
        rw [List.append_nil] at hacc
        subst hacc
        obtain ⟨a4, ea, o4, ap4⟩ := S4.top
        cases ea
        have S4' := S4.pop
        have E24 : Ext g2 H1 g4 H4 := E3.trans E4
        have Sb := SimT.back S2 hno E24 S4'
        have le : eF.length = σ.length := by have := S4'.l1; rw [wipeE_len, wipe_length] at this; exact this
        exact w1 g4 H4 (.ref Da) E14 Sb ⟨Da, rfl, o4, apart_back le S2.l1 hno ap4⟩
    · exact w1.elim
end
end PL

/-! Tests; the compiler's expressions are sound. -/
namespace PL
open PySem PySem.Spec PyProof.Rows L2
section
variable {D : Wd} {N : List Str} {sc : Scope} {asg : Str → Bool} {k : Nat} {X : Cx}
theorem pt_iteX {c a b : Expr} {pos : Pos} {ec ea eb : Ex} (hc : PT X c (tT D ec)) (ha : PT X a (tT D ea)) (hb : PT X b (tT D eb)) : PT X (.IfExp c a b pos) (tT D (.ite ec ea eb)) :=
  ⟨fun pins s σ H Q I ⟨n, g, e, te, h, ts, S, w⟩ => by
    simp only [evT] at w
    refine isTrue_IfExp (thn (hc.run pins s σ H (fun k H1 => if k = true then tT D ea σ H1 Q else tT D eb σ H1 Q) I ⟨n, g, e, te, h, ts, S, Wp.bind w fun k e1 h1 g1 H1 x _ E1 S1 r1 w1 => ?_⟩) fun k s1 ⟨H1, I1, q1⟩ => ?_)
    · cases r1
      cases k with
      | true => rw [if_pos rfl] at w1 ⊢; exact ⟨n, g1, e1, te, h1, ts, S1, w1⟩
      | false => rw [if_neg Bool.false_ne_true] at w1 ⊢; exact ⟨n, g1, e1, te, h1, ts, S1, w1⟩
    · cases k with
      | true => rw [if_pos rfl] at q1; exact ha.run pins s1 σ H1 Q I1 q1
      | false => rw [if_neg Bool.false_ne_true] at q1; exact hb.run pins s1 σ H1 Q I1 q1⟩
theorem tT_plain {ex : Ex} (ok : XOk D.T N sc k X) (hp : plainX ex = true) {σ : L2.St} {H : Hp} {Q : Bool → Hp → Prop} (q : tT D ex σ H Q) : tA D ex σ H fun x H' => ∃ k, TruV X.K x H' k ∧ Q k H' := by
  obtain ⟨n, g, e, te, h, ts, S, w⟩ := q
  rw [evT_plain hp] at w
  refine ⟨n, g, e, te, h, ts, S, Wp.bind w fun ra e1 h1 g1 H1 x _ E1 S1 r1 w1 => ?_⟩
  obtain ⟨g1', E1', S1', f1⟩ := S1.keep r1
  have w1' := w1.mono E1'
  cases q1 : (rd ra e1 h1).bind truthy with
  | none => rw [q1] at w1'; exact w1'.elim
  | some c =>
    rw [q1] at w1'
    exact ⟨c, tru_of ok S1' f1 q1, w1' g1' H1 c (Ext.refl _ _) S1' rfl⟩
theorem pt_plain {e : Expr} {ex : Ex} (ok : XOk D.T N sc k X) (hp : plainX ex = true) (ha : PE X e (tA D ex)) (he : ∀ whole, isTrue e X.env whole = (do let v ← whole; standAt e.pos; holding [v] (PySem.truthy v))) : PT X e (tT D ex) :=
  PT.of (pt_truth ha he) fun _ _ _ q => tT_plain ok hp q
theorem evA_cmp_bl {C : Calls} {o : Cop} {a b : Ex} {e e' : Env} {h h' : Hs} {r : Rs} (q : evA C (.cmp o a b) e h = .ok r e' h') : ∃ k, r = .v (.bl k) false := by
  simp only [evA] at q
  obtain ⟨ra, e1, h1, q1, q⟩ := bind_ok q
  obtain ⟨rb, e2, h2, q2, q⟩ := bind_ok q
  split at q
  · split at q
    · cases q; exact ⟨_, rfl⟩
    · cases q
  · cases q
theorem evA_chain_bl {C : Calls} {o o' : Cop} {a b c : Ex} {e e' : Env} {h h' : Hs} {r : Rs} (q : evA C (.chain o o' a b c) e h = .ok r e' h') : ∃ k, r = .v (.bl k) false := by
  simp only [evA] at q
  obtain ⟨ra, e1, h1, q1, q⟩ := bind_ok q
  obtain ⟨rb, e2, h2, q2, q⟩ := bind_ok q
  split at q
  · split at q
    · obtain ⟨rc, e3, h3, q3, q⟩ := bind_ok q
      split at q
      · split at q
        · cases q; exact ⟨_, rfl⟩
        · cases q
      · cases q
    · cases q; exact ⟨_, rfl⟩
    · cases q
  · cases q
theorem tT_bl {ex : Ex} (hp : plainX ex = true) (hb : ∀ {C : Calls} {e e' : Env} {h h' : Hs} {r : Rs}, evA C ex e h = .ok r e' h' → ∃ k, r = .v (.bl k) false) {σ : L2.St} {H : Hp} {Q : Bool → Hp → Prop} (q : tT D ex σ H Q) : tA D ex σ H fun x H' => ∃ k, x = .bl k ∧ Q k H' := by
  obtain ⟨n, g, e, te, h, ts, S, w⟩ := q
  rw [evT_plain hp] at w
  refine ⟨n, g, e, te, h, ts, S, Wp.bind w fun ra e1 h1 g1 H1 x q1 E1 S1 r1 w1 => ?_⟩
  obtain ⟨k, rfl⟩ := hb q1
  cases r1
  exact ⟨k, rfl, w1 g1 H1 k (Ext.refl _ _) S1 rfl⟩
theorem imp_cmp {o : Cop} {ea eb : Ex} {σ : L2.St} {H : Hp} {Q : VK} : tA D (.cmp o ea eb) σ H Q → tOp (rC D.T o) (tA D ea) (tA D eb) σ H Q := by
  rintro ⟨n, g, e, te, h, ts, S, w⟩
  simp only [evA] at w
  refine two_parts S w fun ra rb e2 h2 g2 H2 x y S2 f1 f2 w2 => ?_
  cases q1 : rd ra e2 h2 with
  | none => rw [q1] at w2; exact w2.elim
  | some px =>
    cases q2 : rd rb e2 h2 with
    | none => rw [q1, q2] at w2; exact w2.elim
    | some py =>
      rw [q1, q2] at w2
      simp only at w2
      cases q3 : opCmp o px py with
      | none => rw [q3] at w2; exact w2.elim
      | some z =>
        rw [q3] at w2
        exact ⟨g2, px, py, z, S2.rd f1 q1, S2.rd f2 q2, q3, Wp.made w2 S2 (mk_same (.bl z))⟩
theorem imp_chain {o o' : Cop} {ea eb ec : Ex} {σ : L2.St} {H : Hp} {Q : VK} : tA D (.chain o o' ea eb ec) σ H Q → tChain (rC D.T o) (rC D.T o') (tA D ea) (tA D eb) (tA D ec) σ H Q := by
  rintro ⟨n, g, e, te, h, ts, S, w⟩
  simp only [evA] at w
  refine two_parts S w fun ra rb e2 h2 g2 H2 x y S2 f1 f2 w2 => ?_
  cases q1 : rd ra e2 h2 with
  | none => rw [q1] at w2; exact w2.elim
  | some px =>
    cases q2 : rd rb e2 h2 with
    | none => rw [q1, q2] at w2; exact w2.elim
    | some py =>
      rw [q1, q2] at w2
      simp only at w2
      cases q3 : opCmp o px py with
      | none => rw [q3] at w2; exact w2.elim
      | some z =>
        rw [q3] at w2
        refine ⟨g2, px, py, z, S2.rd f1 q1, S2.rd f2 q2, q3, z, rfl, ?_⟩
        cases z with
        | false => rw [if_neg Bool.false_ne_true]; exact Wp.made w2 S2 (mk_same (.bl false))
        | true =>
          rw [if_pos rfl]
          refine ⟨n, g2, e2, te, h2, ts, S2, Wp.bind w2 fun rc e3 h3 g3 H3 v _ E3 S3 r3 w3 => ?_⟩
          obtain ⟨g3', E3', S3', f3⟩ := S3.keep r3
          have w3' := w3.mono E3'
          cases q4 : rd rb e3 h3 with
          | none => rw [q4] at w3'; exact w3'.elim
          | some py' =>
            cases q5 : rd rc e3 h3 with
            | none => rw [q4, q5] at w3'; exact w3'.elim
            | some pz =>
              rw [q4, q5] at w3'
              simp only at w3'
              cases q6 : opCmp o' py' pz with
              | none => rw [q6] at w3'; exact w3'.elim
              | some z' =>
                rw [q6] at w3'
                exact ⟨g3', py', pz, z', S3'.rd ((f2.ext E3).ext E3') q4, S3'.rd f3 q5, q6, Wp.made w3' S3' (mk_same (.bl z'))⟩
theorem pt_cmpX (ok : XOk D.T N sc k X) {a b : Expr} {op : CmpOp} {o : Cop} {pos : Pos} {ea eb : Ex} (ho : cCop op = some o) (hs : isSetE b = false) (ha : PE X a (tA D ea)) (hb : PE X b (tA D eb)) : PT X (.Compare a [op] [b] pos) (tT D (.cmp o ea eb)) := by
  have hm : behindInMarks op b = false := by cases b <;> first | rfl | (simp [isSetE] at hs)
  exact PT.of (pt_cmpR (snd_cop ok ho) ha hb hm) fun _ _ _ q => imp_cmp (tT_bl rfl evA_cmp_bl q)
theorem pt_chainX (ok : XOk D.T N sc k X) {a b c : Expr} {op op' : CmpOp} {o o' : Cop} {pos : Pos} {ea eb ec : Ex} (ho : cCop op = some o) (ho' : cCop op' = some o') (hs : isSetE b = false) (hs' : isSetE c = false)
    (ha : PE X a (tA D ea)) (hb : PE X b (tA D eb)) (hc : PE X c (tA D ec)) : PT X (.Compare a [op, op'] [b, c] pos) (tT D (.chain o o' ea eb ec)) := by
  have hm : lastMarks [op, op'] [b, c] = false := by
    show lastMarks [op'] [c] = false
    show behindInMarks op' c = false
    cases c <;> first | rfl | (simp [isSetE] at hs')
  exact PT.of (pt_chain (snd_cop ok ho) (snd_cop ok ho') ha hb hc hm) fun _ _ _ q => imp_chain (tT_bl rfl evA_chain_bl q)
theorem pt_notX {a : Expr} {pos : Pos} {ea : Ex} (ha : PT X a (tT D ea)) : PT X (.UnaryOp .Not a pos) (tT D (.not ea)) :=
  PT.of (pt_not ha) fun σ H Q ⟨n, g, e, te, h, ts, S, w⟩ => by
    simp only [evT] at w
    refine ⟨n, g, e, te, h, ts, S, Wp.bind w fun c e1 h1 g1 H1 x _ E1 S1 r1 w1 => ?_⟩
    cases r1
    exact w1 g1 H1 (!c) (Ext.refl _ _) S1 rfl
theorem pw_bools {op : BoolOp} {f : Expr → Ex} {pos : Pos} : ∀ {vs : List Expr}, (∀ a ∈ vs, PT X a (tT D (f a))) → PW X (.BoolOp op vs pos) (tT D (cBools op f vs))
  | [], _ => ⟨fun wh pins s σ H R I ⟨n, g, e, te, h, ts, S, w⟩ => by simp only [cBools, evT, evA, Out.bind] at w; exact w.elim⟩
  | [a], h => by
    cases op with
    | And => exact pw_and1 (h a List.mem_cons_self)
    | Or => exact pw_or1 (h a List.mem_cons_self)
  | a :: b :: r, h => by
    have ha := h a List.mem_cons_self
    have hb := pw_bools (op := op) (f := f) (pos := pos) (vs := b :: r) fun z hz => h z (List.mem_cons_of_mem _ hz)
    cases op with
    | And =>
      refine PW.of (pw_and ha hb) fun σ H Q ⟨n, g, e, te, h, ts, S, w⟩ => ?_
      simp only [cBools, evT] at w
      refine ⟨n, g, e, te, h, ts, S, Wp.bind w fun c e1 h1 g1 H1 x _ E1 S1 r1 w1 => ?_⟩
      cases r1
      cases c with
      | true => rw [if_pos rfl] at w1 ⊢; exact ⟨n, g1, e1, te, h1, ts, S1, w1⟩
      | false => rw [if_neg Bool.false_ne_true] at w1 ⊢; exact w1 g1 H1 false (Ext.refl _ _) S1 rfl
    | Or =>
      refine PW.of (pw_or ha hb) fun σ H Q ⟨n, g, e, te, h, ts, S, w⟩ => ?_
      simp only [cBools, evT] at w
      refine ⟨n, g, e, te, h, ts, S, Wp.bind w fun c e1 h1 g1 H1 x _ E1 S1 r1 w1 => ?_⟩
      cases r1
      cases c with
      | true => rw [if_pos rfl] at w1 ⊢; exact w1 g1 H1 true (Ext.refl _ _) S1 rfl
      | false => rw [if_neg Bool.false_ne_true] at w1 ⊢; exact ⟨n, g1, e1, te, h1, ts, S1, w1⟩
theorem FnsOk.calm (F : FnsOk D k) : FnsOk D.calm k := ⟨F.fn, F.bi, F.kwb⟩
theorem permOf_len {ps : List Str} {n : Nat} {ks : List Str} {perm : List Nat} (h : permOf ps n ks = some perm) : perm.length = ps.length := by
  unfold permOf at h
  have : ∀ (l : List Nat) (f : Nat → Option Nat) (r : List Nat), l.mapM f = some r → r.length = l.length := by
    intro l f
    induction l with
    | nil => intro r h; simp at h; subst h; rfl
    | cons a l ih =>
      intro r h
      rw [List.mapM_cons] at h
      cases q1 : f a with
      | none => rw [q1] at h; cases h
      | some b =>
        rw [q1] at h
        cases q2 : l.mapM f with
        | none => rw [q2] at h; cases h
        | some bs => rw [q2] at h; cases h; simp [ih bs q2]
  rw [this _ _ _ h, List.length_range]
theorem plain_celIf {S : Sc} {ex : Ex} (h : plainX ex = true) : plainX (celIf S ex) = true := by
  unfold celIf
  split
  · rfl
  · exact h
theorem plain_call {S : Sc} {f : Sc → Expr → Ex} {x : Str} {es : List Expr} {kws : List Keyword} : plainX (cCall (f) S x es kws) = true := by
  unfold cCall
  repeat' split
  all_goals first | rfl | exact plain_celIf rfl
theorem plain_comp {S : Sc} {f : Sc → Expr → Ex} {elt : Expr} {gs : List Comprehension} {scope : Scope} : plainX (cComp f S elt gs scope) = true := by
  unfold cComp
  repeat' split
  all_goals first | rfl | (simp only []; repeat' split) <;> rfl
theorem snd_callX (xg : XG D N sc asg k X) {S : Sc} (so : ScOk D S) (hkw : ∀ z ∈ S.kws, z ∈ D.kw) (hs : S.sc = sc) (F : FnsOk D k) {f : Sc → Expr → Ex} (hf : ∀ e, PE X e (tA D (f S e))) {x : Str} {es : List Expr} {kws : List Keyword} {p pos : Pos} : PE X (.Call (.Name x p) es kws pos) (tA D (cCall f S x es kws)) := by
  unfold cCall
  split
  · rename_i hc
    simp only [Bool.and_eq_true] at hc
    obtain ⟨⟨hk, hg⟩, hst⟩ := hc
    have hg' : Gl X x := glB_gl xg.toXOk (by rw [← hs]; exact hg)
    split
    · rename_i i ps hd
      have h1 := defOf_get hd
      rw [so.defs, List.getElem?_map, Option.map_eq_some_iff] at h1
      obtain ⟨d, h2, h3⟩ := h1
      have hx : x = d.x := (congrArg Prod.fst h3).symm
      have hps : ps = d.ps := (congrArg Prod.snd h3).symm
      split
      · rename_i ks hkn
        split
        · rename_i he
          rw [List.isEmpty_iff] at he
          subst he
          split
          · rename_i hl
            exact snd_call xg F h2 hx (so.mgd i d h2) (by rw [hl, hps]) hk hg' hst fun e _ => hf e
          · exact pe_stuck
        · split
          · split
            · rename_i perm hperm
              split
              · rename_i hz
                exact snd_callK xg F h2 hx (so.mgd i d h2) hkn (hkw _ hz.1) hz.2 (by rw [permOf_len hperm, hps]) hk hg' hst (fun e _ => hf e) fun q _ => hf q.value
              · exact pe_stuck
            · exact pe_stuck
          · exact pe_stuck
      · exact pe_stuck
    · split
      · rename_i hc
        simp only [Bool.and_eq_true, List.isEmpty_iff] at hc
        obtain ⟨hfr, hkws⟩ := hc
        subst hkws
        have hm : X.mg x = none := by rw [xg.mg]; exact so.free x (by simpa using hfr)
        split
        · rename_i e
          subst e
          split
          · rename_i a y p'
            split
            · rename_i nm ht
              have h2 : isStarE a = false := by simp at hst; exact hst.1
              exact snd_isi1 xg.toXOk so hs ht h2 hg' hm (hf a)
            · exact pe_stuck
          · rename_i a ys j p'
            split
            · rename_i hl
              split
              · rename_i ns ht
                have h2 : isStarE a = false := by simp at hst; exact hst.1
                exact snd_isiT xg.toXOk so hs ht hl h2 hg' hm (hf a)
              · exact pe_stuck
            · exact pe_stuck
          · exact pe_stuck
        · split
          · rename_i b lo hi hb
            split
            · rename_i hl
              have hbc := snd_bcall xg.toXOk (p := p) (pos := pos) hb hl.1 hk hg' hm hst fun e _ => hf e
              split
              · exact snd_celIf hbc
              · exact hbc
            · exact pe_stuck
          · exact pe_stuck
      · exact pe_stuck
  · exact pe_stuck
end
end PL

/-! Comprehensions as the compiler prints them; expressions. -/
namespace PL
open PySem PySem.Spec PyProof.Rows L2
theorem PS.of {X : Cx} {e : Stmt} {t t' : TS} (h : PS X e t) (i : ∀ Dn σ H, t' Dn σ H → t Dn σ H) : PS X e t' := ⟨fun pins s σ H Dn I q => h.run pins s σ H Dn I (i Dn σ H q)⟩
section
variable {D : Wd} {k : Nat} {X : Cx}
theorem allC {t : Tg} {own : List (Str × Nat)} (h : (tgIs t).all (own.map (·.2)).contains = true) : ∀ i ∈ tgIs t, i ∈ own.map (·.2) := fun i hi => by
  have := List.all_eq_true.mp h i hi
  simpa using this
theorem snd_comp {S : Sc} (xg : XG D S.N S.sc S.asg k X) (so : ScOk D S) {f : Sc → Expr → Ex} (hf : ∀ e, PE X e (tA D (f S e)))
    (hb : ∀ (scope : Scope) (X' : Cx), XG D.calm S.N (relS scope S.sc) (inBlk S scope).asg k X' → ∀ e, PE X' e (tA D.calm (f (inBlk S scope) e)) ∧ PT X' e (tT D.calm (f (inBlk S scope) e)))
    {elt : Expr} {gs : List Comprehension} {scope : Scope} {pos : Pos} :
    PE X (.ListComp elt gs scope pos) (tA D (cComp f S elt gs scope)) ∧ ∀ {i : Nat} {y : Str} {py spos : Pos}, X.N[i]? = some y → X.env.scope.names.lookup y = some .local → swapsWith (.ListComp elt gs scope pos) (some (.Name y py)) spos.line X.env = pure true →
      PS X (.Assign [.Name y py] (.ListComp elt gs scope pos) spos) (tAsg (tA D (cComp f S elt gs scope)) (gName i)) := by
  have stk : PE X (.ListComp elt gs scope pos) (tA D .stuck) ∧ ∀ {i : Nat} {y : Str} {py spos : Pos}, X.N[i]? = some y → X.env.scope.names.lookup y = some .local → swapsWith (.ListComp elt gs scope pos) (some (.Name y py)) spos.line X.env = pure true →
      PS X (.Assign [.Name y py] (.ListComp elt gs scope pos) spos) (tAsg (tA D .stuck) (gName i)) :=
    ⟨pe_stuck, fun _ _ _ => ⟨fun pins s σ H Q I ⟨n, g, e', te, h, ts, S, w⟩ => by simp only [evA] at w; exact w.elim⟩⟩
  have xb : ∀ (s : Shared) (H : Hp) (C : Addr) (cl : List (Str × Addr)) (fp : List Addr), XG D.calm S.N (relS scope S.sc) (inBlk S scope).asg k (X.blk s H scope (compEnvC scope cl C X.env) fp) := fun s H C cl fp => xg.blk scope
  have sb : ScOk D.calm (inBlk S scope) := so.blk scope
  unfold cComp
  simp only
  split
  · rename_i hblk
    have hbk : BlkOk X.N X.env.scope scope (ownOf S.N scope) := by rw [xg.hN, xg.hsc]; exact blkOk_by hblk
    split
    · rename_i tg it ifs
      split
      · exact stk
      · rename_i hset
        simp only [Bool.not_eq_true] at hset
        split
        · rename_i t ht
          split
          · rename_i hall
            have hsub := allC hall
            have hi : PI X tg it (tI D (cIt f S it (isTup tg))) := snd_it xg.toXOk so rfl hf
            have hg := fun s H C cl fp => snd_tg (X := X.blk s H scope (compEnvC scope cl C X.env) fp) (xb s H C cl fp) (S := inBlk S scope) rfl rfl rfl 8 tg t ht
            have hts := fun s H C cl fp => snd_ifs (D := D.calm) (X := X.blk s H scope (compEnvC scope cl C X.env) fp) (S := inBlk S scope) (f := f) (ifs := ifs) fun e => (hb scope _ (xb s H C cl fp) e).2
            have he := fun s H C cl fp => (hb scope (X.blk s H scope (compEnvC scope cl C X.env) fp) (xb s H C cl fp) elt).1
            refine ⟨PE.of (pe_lc xg.calm (by rw [xg.hN]; exact xg.nd) hi hbk hg hts he (fun x => foldSet hset _ x)) fun _ _ _ q => imp_lc1 hsub q, fun h1 h2 h3 => ?_⟩
            exact PS.of (ps_setLc xg.calm (by rw [xg.hN]; exact xg.nd) h1 h2 h3 hi hbk hg hts he (fun x => foldSet hset _ x)) fun _ _ _ q => imp_lc1 hsub q
          · exact stk
        · exact stk
    · rename_i tg it ifs tg1 it1 ifs1
      split
      · exact stk
      · rename_i hset
        simp only [Bool.or_eq_true, not_or, Bool.not_eq_true] at hset
        split
        · rename_i t t1 ht ht1
          split
          · rename_i hall
            simp only [Bool.and_eq_true] at hall
            have hsub := allC hall.1.1
            have hsub1 := allC hall.1.2
            have hi : PI X tg it (tI D (cIt f S it (isTup tg))) := snd_it xg.toXOk so rfl hf
            have hg := fun s H C cl fp => snd_tg (X := X.blk s H scope (compEnvC scope cl C X.env) fp) (xb s H C cl fp) (S := inBlk S scope) rfl rfl rfl 8 tg t ht
            have hts := fun s H C cl fp => snd_ifs (D := D.calm) (X := X.blk s H scope (compEnvC scope cl C X.env) fp) (S := inBlk S scope) (f := f) (ifs := ifs) fun e => (hb scope _ (xb s H C cl fp) e).2
            have hg1 := fun s H C cl fp => snd_tg (X := X.blk s H scope (compEnvC scope cl C X.env) fp) (xb s H C cl fp) (S := inBlk S scope) rfl rfl rfl 8 tg1 t1 ht1
            have hts1 := fun s H C cl fp => snd_ifs (D := D.calm) (X := X.blk s H scope (compEnvC scope cl C X.env) fp) (S := inBlk S scope) (f := f) (ifs := ifs1) fun e => (hb scope _ (xb s H C cl fp) e).2
            have hi1 := fun s H C cl fp => snd_it (X := X.blk s H scope (compEnvC scope cl C X.env) fp) (tg := tg1) (it := it1) (xb s H C cl fp).toXOk sb rfl fun e => (hb scope _ (xb s H C cl fp) e).1
            have he := fun s H C cl fp => (hb scope (X.blk s H scope (compEnvC scope cl C X.env) fp) (xb s H C cl fp) elt).1
            refine ⟨PE.of (pe_lc2 xg.calm (by rw [xg.hN]; exact xg.nd) hi hbk hsub1 hg hts hi1 hg1 hts1 he (fun x => foldSet hset.1 _ x) (fun _ x => foldSet hset.2 _ x)) fun _ _ _ q => imp_lc2 hsub hsub1 q, fun h1 h2 h3 => ?_⟩
            exact PS.of (ps_setLc2 xg.calm (by rw [xg.hN]; exact xg.nd) h1 h2 h3 hi hbk hsub1 hg hts hi1 hg1 hts1 he (fun x => foldSet hset.1 _ x) (fun _ x => foldSet hset.2 _ x)) fun _ _ _ q => imp_lc2 hsub hsub1 q
          · exact stk
        · exact stk
    · exact stk
  · exact stk

theorem xgblk_any {S : Sc} {scope : Scope} : (inBlk S scope).N = S.N ∧ (inBlk S scope).sc = relS scope S.sc := ⟨rfl, rfl⟩
theorem cBools_nn {op : BoolOp} {f : Expr → Ex} (h : ∀ e, f e ≠ .nil) : ∀ vs, cBools op f vs ≠ .nil
  | [] => by simp [cBools]
  | [a] => h a
  | a :: b :: r => by cases op <;> simp [cBools]
theorem plain_nn {ex : Ex} (h : plainX ex = true) : ex ≠ .nil := fun e => by rw [e] at h; cases h
theorem cE_nn : ∀ (m : Nat) (S : Sc) (e : Expr), cE m S e ≠ .nil
  | 0, _, _ => fun h => Ex.noConfusion h
  | m + 1, S, e => by
    unfold cE
    split
    · unfold cName
      repeat' split
      all_goals exact fun h => Ex.noConfusion h
    · rename_i c j pos
      cases c <;> exact fun h => Ex.noConfusion h
    · split <;> exact fun h => Ex.noConfusion h
    · exact fun h => Ex.noConfusion h
    · exact fun h => Ex.noConfusion h
    · exact cBools_nn (cE_nn m S) _
    · repeat' split
      all_goals exact fun h => Ex.noConfusion h
    · repeat' split
      all_goals exact fun h => Ex.noConfusion h
    · exact fun h => Ex.noConfusion h
    · split
      · exact plain_nn (plain_celIf rfl)
      · exact fun h => Ex.noConfusion h
    · split <;> exact fun h => Ex.noConfusion h
    · exact fun h => Ex.noConfusion h
    · exact fun h => Ex.noConfusion h
    · split <;> exact fun h => Ex.noConfusion h
    · exact plain_nn plain_call
    · repeat' split
      all_goals exact fun h => Ex.noConfusion h
    · exact plain_nn (plain_celIf plain_comp)
    · exact fun h => Ex.noConfusion h
theorem snd_E : ∀ (m : Nat) (D : Wd) (S : Sc) (X : Cx), XG D S.N S.sc S.asg k X → ScOk D S → FnsOk D k → (∀ z ∈ S.kws, z ∈ D.kw) → ∀ e, PE X e (tA D (cE m S e)) ∧ PT X e (tT D (cE m S e))
  | 0, D, S, X, _, _, _, _, e => ⟨pe_stuck, pt_stuck⟩
  | m + 1, D, S, X, xg, so, F, kw, e => by
    have ih := snd_E m D S X xg so F kw
    have ihb : ∀ (scope : Scope) (X' : Cx), XG D.calm S.N (relS scope S.sc) (inBlk S scope).asg k X' → ∀ e, PE X' e (tA D.calm (cE m (inBlk S scope) e)) ∧ PT X' e (tT D.calm (cE m (inBlk S scope) e)) :=
      fun scope X' xg' => snd_E m D.calm (inBlk S scope) X' xg' (so.blk scope) F.calm kw
    have stk : PE X e (tA D .stuck) ∧ PT X e (tT D .stuck) := ⟨pe_stuck, pt_stuck⟩
    have ok := xg.toXOk
    have pl : ∀ {ex : Ex}, PE X e (tA D ex) → plainX ex = true → (∀ whole, isTrue e X.env whole = (do let v ← whole; standAt e.pos; holding [v] (PySem.truthy v))) → PE X e (tA D ex) ∧ PT X e (tT D ex) := fun h p he => ⟨h, pt_plain ok p h he⟩
    unfold cE
    split
    · refine pl (snd_name ok so rfl rfl) ?_ (fun _ => rfl)
      unfold cName
      repeat' split
      all_goals rfl
    · rename_i c j pos
      refine pl snd_const ?_ (fun _ => rfl)
      cases c <;> rfl
    · split
      · rename_i o ho
        exact pl (snd_bin ok ho (ih _).1 (ih _).1) rfl (fun _ => rfl)
      · exact stk
    · exact pl (snd_neg (ih _).1) rfl (fun _ => rfl)
    · exact ⟨snd_not ok (ih _).1, pt_notX (ih _).2⟩
    · exact ⟨snd_bools ok fun a _ => (ih a).1, (pw_bools fun a _ => (ih a).2).pt⟩
    · split
      · rename_i o ho
        split
        · exact stk
        · rename_i hs
          simp only [Bool.not_eq_true] at hs
          exact ⟨snd_cmp ok ho hs (ih _).1 (ih _).1, pt_cmpX ok ho hs (ih _).1 (ih _).1⟩
      · exact stk
    · split
      · rename_i o o' ho ho'
        split
        · exact stk
        · rename_i hs
          simp only [Bool.or_eq_true, not_or, Bool.not_eq_true] at hs
          exact ⟨snd_chain ok ho ho' hs.1 hs.2 (ih _).1 (ih _).1 (ih _).1, pt_chainX ok ho ho' hs.1 hs.2 (ih _).1 (ih _).1 (ih _).1⟩
      · exact stk
    · exact ⟨snd_ite (ih _).2 (ih _).1 (ih _).1, pt_iteX (ih _).2 (ih _).2 (ih _).2⟩
    · split
      · rename_i hc
        simp only [Bool.and_eq_true, decide_eq_true_eq] at hc
        exact pl (snd_celIf (snd_lstE hc.1 hc.2 fun e _ => (ih e).1)) (plain_celIf rfl) (fun _ => rfl)
      · exact stk
    · split
      · rename_i hc
        simp only [Bool.and_eq_true, decide_eq_true_eq] at hc
        exact pl (snd_tupE hc.1 hc.2 fun e _ => (ih e).1) rfl (fun _ => rfl)
      · exact stk
    · exact pl snd_dic0 rfl (fun _ => rfl)
    · rename_i a lo hi p2 pos
      have opt : ∀ o : Option Expr, PO X o (tO D (match o with | some l => cE m S l | none => .nil)) := fun o => by
        cases o with
        | none => exact snd_optN
        | some l =>
          exact snd_optS (cE_nn m S l) (ih l).1
      exact pl (snd_sliE ok (ih _).1 (opt lo) (opt hi)) rfl (fun _ => rfl)
    · split
      · exact stk
      · rename_i hs
        simp only [Bool.not_eq_true] at hs
        exact pl (snd_idxE ok hs (ih _).1 (ih _).1) rfl (fun _ => rfl)
    · exact pl (snd_callX xg so kw rfl F fun e => (ih e).1) plain_call (fun _ => rfl)
    · split
      · rename_i hc
        simp only [Bool.and_eq_true, decide_eq_true_eq] at hc
        obtain ⟨⟨⟨h1, h2⟩, h3⟩, h4⟩ := hc
        split
        · rename_i mk hm
          exact pl (snd_meth ok hm h1 h2 h3 h4 (ih _).1 fun e _ => (ih e).1) rfl (fun _ => rfl)
        · exact stk
      · exact stk
    · exact pl (snd_celIf (snd_comp xg so (fun e => (ih e).1) ihb).1) (plain_celIf plain_comp) (fun _ => rfl)
    · exact stk
end
end PL

/-! Statements. -/
namespace PL
open PySem PySem.Spec PyProof.Rows L2
section
variable (D : Wd)
/-- a statement's run -/
def WS (n : En) (te : Env) (ts : List (Option V)) (Dn : Ends) (o : Out Fl) (g : Gh) (H : Hp) : Prop :=
  match o with
  | .ok fl e h => ∀ g' H' σ', Ext g H g' H' → SimT D.T n g' e te h σ' ts H' → match fl with
    | .next => Dn.nx σ' H'
    | .brk => Dn.bk σ' H'
    | .cont => Dn.ct σ' H'
    | .ret p fr => ∀ v, Res D.T n g' H' (e ++ te) (σ' ++ ts) p fr v → Dn.rt v H'
  | .exc c fs e h => ∀ g' H' cls d σ', Ext g H g' H' → SimT D.T n g' e te h σ' ts H' → ExcAt D.T D.cs g' H' c fs cls d → D.W cls d σ' H'
  | .stuck => False
def tS (s : Sm) : TS := fun Dn σ H => Go D σ H fun n g e te h ts => WS D n te ts Dn (evS D.C s e h) g H
end
section
variable {D : Wd} {n : En} {σ : List (Option V)} {te : Env} {ts : List (Option V)} {g : Gh} {H : Hp}
theorem WS.mono {o : Out Fl} {Dn : Ends} {g1 : Gh} {H1 : Hp} (E : Ext g H g1 H1) (h : WS D n te ts Dn o g H) : WS D n te ts Dn o g1 H1 := by
  cases o with
  | ok r e h' => exact fun g' H' w E' S => h g' H' w (E.trans E') S
  | exc c fs e h' => exact fun g' H' cls d w E' S r => h g' H' cls d w (E.trans E') S r
  | stuck => exact h
/-- a part is an expression -/
theorem WS.bindA {α β : Type} {relA : Gh → Hp → Env → α → β → Prop} {o : Out α} {f : α → Env → Hs → Out Fl} {Dn : Ends} {P : β → Hp → Prop}
    (h : WS D n te ts Dn (o.bind f) g H)
    (k : ∀ r e' h' g' H' w, o = .ok r e' h' → Ext g H g' H' → SimT D.T n g' e' te h' σ ts H' → relA g' H' e' r w → WS D n te ts Dn (f r e' h') g' H' → P w H') : Wp D n σ te ts relA o g H P := by
  cases o with
  | ok r e h' => exact fun g' H' w E S q => k r e h' g' H' w rfl E S q (h.mono E)
  | exc c fs e h' => exact fun g' H' cls d E S x => h g' H' cls d σ E S x
  | stuck => exact h
/-- a part is a statement -/
theorem WS.bindS {o : Out Fl} {f : Fl → Env → Hs → Out Fl} {Dn Dm : Ends} (h : WS D n te ts Dn (o.bind f) g H)
    (k : ∀ fl e' h' g' H' σ', o = .ok fl e' h' → Ext g H g' H' → SimT D.T n g' e' te h' σ' ts H' → WS D n te ts Dn (f fl e' h') g' H' → match fl with
      | .next => Dm.nx σ' H'
      | .brk => Dm.bk σ' H'
      | .cont => Dm.ct σ' H'
      | .ret p fr => ∀ v, Res D.T n g' H' (e' ++ te) (σ' ++ ts) p fr v → Dm.rt v H') : WS D n te ts Dm o g H := by
  cases o with
  | ok r e h' => exact fun g' H' σ' E S => k r e h' g' H' σ' rfl E S (h.mono E)
  | exc c fs e h' => exact h
  | stuck => exact h
end
section
variable {D : Wd} {k : Nat} {X : Cx} {S : Sc}
theorem ps_stuck {e : Stmt} : PS X e (tS D .stuck) := ⟨fun pins s σ H Q I ⟨n, g, e', te, h, ts, S, w⟩ => by simp only [evS] at w; exact w.elim⟩
theorem lcFits_sw (hk : X.env.scope.kind = .function) (hs : X.env.scope = S.sc) {x : Str} {px : Pos} {e : Expr} {l : Nat} (h : lcFits S x px e = true) :
    (swapsWith e (some (.Name x px)) l X.env = pure false) ∨ (∃ a b c d, e = .ListComp a b c d ∧ X.env.scope.names.lookup x = some .local ∧ swapsWith e (some (.Name x px)) l X.env = pure true) := by
  cases e <;> first | exact .inl rfl | (simp [lcFits] at h; done) | skip
  rename_i elt gs scope pos
  simp only [lcFits, Bool.or_eq_true, Bool.and_eq_true, beq_iff_eq, Bool.not_eq_true'] at h
  rcases h with h | h
  · refine .inl ?_
    have kx : (X.env.kindOf x == some .local) = false := by show (X.env.scope.names.lookup x == some .local) = false; rw [hs]; exact h
    unfold swapsWith
    simp only [kx, Bool.and_false, Bool.false_and]
  · obtain ⟨⟨h1, h2⟩, h3⟩ := h
    exact .inr ⟨_, _, _, _, rfl, by rw [hs]; exact h1, sw_true hk (by rw [hs]; exact h1) (by simpa using h2) h3⟩
theorem snd_asg {tg e : Expr} {i : Nat} {ex : Ex} {pos : Pos} (h : PS X (.Assign [tg] e pos) (tAsg (tA D ex) (gName i))) : PS X (.Assign [tg] e pos) (tS D (.asg i ex)) :=
  PS.of h fun Dn σ H ⟨n, g, e, te, h, ts, S', w⟩ => by
    simp only [evS] at w
    refine ⟨n, g, e, te, h, ts, S', WS.bindA w fun r e1 h1 g1 H1 x _ E1 S1 r1 w1 => ?_⟩
    cases q : esc r e1 with
    | none => rw [q] at w1; exact w1.elim
    | some z =>
      obtain ⟨p, fr, e2⟩ := z
      rw [q] at w1
      simp only at w1
      split at w1
      · rename_i hi
        obtain ⟨g2, E2, S2, r2⟩ := S1.esc r1 q
        exact w1 g2 H1 _ E2 (S2.setRes hi r2)
      · exact w1.elim
theorem snd_tasg {tg e : Expr} {t : Tg} {ex : Ex} {pos : Pos} (h : PS X (.Assign [tg] e pos) (tAsg (tA D ex) (tG D t))) : PS X (.Assign [tg] e pos) (tS D (.tasg t ex)) :=
  PS.of h fun Dn σ H ⟨n, g, e, te, h, ts, S', w⟩ => by
    simp only [evS] at w
    refine ⟨n, g, e, te, h, ts, S', WS.bindA w fun r e1 h1 g1 H1 x _ E1 S1 r1 w1 => ?_⟩
    cases q : PL.esc r e1 with
    | none => rw [q] at w1; exact w1.elim
    | some z =>
      obtain ⟨p, fr, e2⟩ := z
      rw [q] at w1
      simp only at w1
      cases q2 : bindT t p e2 with
      | none => rw [q2] at w1; exact w1.elim
      | some e3 =>
        rw [q2] at w1
        obtain ⟨g2, E2, S2, t2⟩ := S1.escF r1 q
        exact ⟨n, g2, e2, te, h1, ts, S2, p, e3, t2, q2, fun σ' S3 _ => w1 g2 H1 σ' E2 S3⟩
/-- what is in flight, behind a store to a slot -/
theorem Res.reset {n : En} {g : Gh} {H : Hp} {e te : Env} {σ : L2.St} {ts : List (Option V)} {i : Nat} {s : SV} {x : V} {q : PV} {fr : Bool} {y : V} (hl : e.length = σ.length) (hi : i < e.length) (hs : ∀ p, s = .own p → x ≠ y) (r : Res D.T n g H (e ++ te) (σ ++ ts) q fr y) :
    Res D.T n g H (e.set i s ++ te) (σ.set i (some x) ++ ts) q fr y := by
  cases fr with
  | false => cases q <;> exact r
  | true =>
    cases q with
    | lst xs =>
      obtain ⟨a, rfl, o, ap⟩ := r
      refine ⟨a, rfl, o, fun k p hk hw => ?_⟩
      rw [← List.set_append_left _ _ hi] at hk
      rw [← List.set_append_left _ _ (by rw [← hl]; exact hi)] at hw
      rcases getElem?_set_or hk with ⟨rfl, h2⟩ | ⟨hne, hk'⟩
      · rw [List.getElem?_set_self (by rw [List.length_append, ← hl]; omega)] at hw
        cases hw
        exact hs p h2.symm rfl
      · rw [List.getElem?_set_ne (Ne.symm hne)] at hw
        exact ap k p hk' hw
    | _ => exact r
theorem Res.unpush {n : En} {g : Gh} {H : Hp} {e te : Env} {σ : L2.St} {ts : List (Option V)} {s : SV} {x : V} {q : PV} {fr : Bool} {y : V} (hl : (e ++ te).length = (σ ++ ts).length) (r : Res D.T n g H (e ++ (te ++ [s])) (σ ++ (ts ++ [some x])) q fr y) :
    Res D.T n g H (e ++ te) (σ ++ ts) q fr y ∧ ∀ p xs, s = .own p → q = .lst xs → fr = true → x ≠ y := by
  rw [← List.append_assoc, ← List.append_assoc] at r
  cases fr with
  | false => exact ⟨by cases q <;> exact r, fun _ _ _ _ h => by cases h⟩
  | true =>
    cases q with
    | lst xs =>
      obtain ⟨a, rfl, o, ap⟩ := r
      refine ⟨⟨a, rfl, o, fun k p hk hw => ?_⟩, fun p xs hs _ _ => ?_⟩
      · have hlt := (List.getElem?_eq_some_iff.mp hk).1
        exact ap k p (by rw [List.getElem?_append_left hlt]; exact hk) (by rw [List.getElem?_append_left (by rw [← hl]; exact hlt)]; exact hw)
      · subst hs
        intro hx
        subst hx
        refine ap (e ++ te).length p ?_ ?_
        · rw [List.getElem?_append_right (Nat.le_refl _)]; simp
        · rw [hl, List.getElem?_append_right (Nat.le_refl _)]; simp
    | _ => exact ⟨r, fun _ _ _ h => by cases h⟩
theorem snd_par {e1 e2 : Expr} {x y : Str} {px py pt pt2 : Pos} {kt k2 : Nat} {i j : Nat} {ea eb : Ex} {pos : Pos} (h : PS X (.Assign [.Tuple [.Name x px, .Name y py] kt pt] (.Tuple [e1, e2] k2 pt2) pos) (tPar i j (tCons (tA D ea) (tCons (tA D eb) tNil)))) :
    PS X (.Assign [.Tuple [.Name x px, .Name y py] kt pt] (.Tuple [e1, e2] k2 pt2) pos) (tS D (.par i j ea eb)) :=
  PS.of h fun Dn σ H ⟨n, g, e, te, h, ts, S', w⟩ => by
    simp only [evS] at w
    refine ⟨n, g, e, te, h, ts, S', WS.bindA w fun r e1 h1 g1 H1 x _ E1 S1 r1 w1 => ?_⟩
    cases q : PL.esc r e1 with
    | none => rw [q] at w1; exact w1.elim
    | some z =>
      obtain ⟨p, fr, e2⟩ := z
      rw [q] at w1
      simp only at w1
      obtain ⟨g2, E2, S2, r2⟩ := S1.esc r1 q
      have w2 := w1.mono E2
      have plain : Tr D.T g2 H1 p x → PL.mk p fr = .val p → tCons (tA D eb) tNil σ H1 fun xs H2 => ∃ v w, x :: xs = [v, w] ∧ Dn.nx ((σ.set i (some v)).set j (some w)) H2 := fun t hmk => by
        refine ⟨n, g2, e2, te, h1, ts, S2, WS.bindA w2 fun r3 e3 h3 g3 H3 y _ E3 S3 r3 w3 => ?_⟩
        cases q3 : PL.esc ‹Rs› e3 with
        | none => rw [q3] at w3; exact w3.elim
        | some z =>
          obtain ⟨p4, fr4, e4⟩ := z
          rw [q3] at w3
          simp only at w3
          split at w3
          · rename_i hc
            obtain ⟨g4, E4, S4, r4⟩ := S3.esc r3 q3
            rw [hmk] at w3
            refine ⟨_, _, rfl, w3 g4 H3 _ E4 ?_⟩
            exact (S4.setVal hc.1 ((t.ext E3).ext E4)).setRes (by simpa using hc.2) (Res.reset S4.l1 hc.1 (fun _ h => by cases h) r4)
          · exact w3.elim
      cases fr with
      | false => exact plain (by cases p <;> exact r2) (by cases p <;> rfl)
      | true =>
        cases p with
        | lst xs =>
          obtain ⟨a, rfl, o, ap⟩ := r2
          have S2' := S2.push o ap
          refine ⟨n, g2, e2, te ++ [.own (.lst xs)], h1, ts ++ [some (.ref a)], S2', ?_⟩
          cases qb : evA D.C eb e2 h1 with
          | stuck => rw [qb] at w2; exact w2.elim
          | exc c fs e3 h3 => rw [qb] at w2 ⊢; exact fun g' H' cls d E' S3 xx => w2 g' H' cls d σ E' S3.pop xx
          | ok r3 e3 h3 =>
            rw [qb] at w2 ⊢
            intro g3 H3 y E3 S3 r3'
            simp only [Out.bind] at w2
            cases q3 : PL.esc r3 e3 with
            | none => rw [q3] at w2; exact w2.elim
            | some z =>
              obtain ⟨p4, fr4, e4⟩ := z
              rw [q3] at w2
              simp only at w2
              split at w2
              · rename_i hc
                obtain ⟨g4, E4, S4, r4⟩ := S3.esc r3' q3
                obtain ⟨a', ea', o4, ap4⟩ := S4.top
                cases ea'
                have S5 := S4.pop
                obtain ⟨r5, hne⟩ := Res.unpush (by rw [List.length_append, List.length_append, S5.l1, S5.l2]) r4
                have S6 := S5.setOwn hc.1 o4 ap4
                refine ⟨_, _, rfl, w2 g4 H3 _ (E3.trans E4) ?_⟩
                show SimT D.T n g4 ((e4.set i (SV.own (.lst xs))).set j (PL.mk p4 fr4)) te h3 ((σ.set i (some (.ref a))).set j (some y)) ts H3
                refine S6.setRes (by simpa using hc.2) ?_
                by_cases hf : fr4 = true ∧ ∃ ys, p4 = .lst ys
                · obtain ⟨hf, ys, hp⟩ := hf
                  exact Res.reset S5.l1 hc.1 (fun p hp' => hne _ ys rfl hp hf) r5
                · cases fr4 with
                  | false => cases p4 <;> exact r5
                  | true =>
                    cases p4 with
                    | lst ys => exact absurd ⟨rfl, ys, rfl⟩ hf
                    | _ => exact r5
              · exact w2.elim
        | _ => exact plain r2 rfl
theorem snd_seti {o i e : Expr} {eo ei ex : Ex} {tpos pos : Pos} (h : PS X (.Assign [.Subscript o i tpos] e pos) (tAsg (tA D ex) (gSub (tA D eo) (tA D ei) rSetL))) : PS X (.Assign [.Subscript o i tpos] e pos) (tS D (.seti eo ei ex)) :=
  PS.of h fun Dn σ H ⟨n, g, e, te, h, ts, S', w⟩ => by
    simp only [evS] at w
    refine ⟨n, g, e, te, h, ts, S', WS.bindA w fun r e1 h1 g1 H1 x _ E1 S1 r1 w1 => ?_⟩
    cases q : PL.esc r e1 with
    | none => rw [q] at w1; exact w1.elim
    | some z =>
      obtain ⟨p, fr, e2⟩ := z
      rw [q] at w1
      simp only at w1
      obtain ⟨g2, E2, S2, t2⟩ := S1.escF r1 q
      have w2 := w1.mono E2
      refine ⟨n, g2, e2, te, h1, ts, S2, WS.bindA w2 fun ro e3 h3 g3 H3 xo _ E3 S3 r3 w3 => ?_⟩
      obtain ⟨g3', E3', S3', f3⟩ := S3.keep r3
      have w3' := w3.mono E3'
      refine ⟨n, g3', e3, te, h3, ts, S3', WS.bindA w3' fun ri e4 h4 g4 H4 xi _ E4 S4 r4 w4 => ?_⟩
      obtain ⟨g4', E4', S4', f4⟩ := S4.keep r4
      have w4' := w4.mono E4'
      cases q1 : mut? ro e4 h4 with
      | none => rw [q1] at w4'; exact w4'.elim
      | some xs =>
        cases q2 : PL.rd ri e4 h4 with
        | none => rw [q1, q2] at w4'; exact w4'.elim
        | some pi =>
          rw [q1, q2] at w4'
          cases pi with
          | int kk =>
            simp only at w4'
            cases q3 : PL.ixN xs.length kk with
            | none => rw [q3] at w4'; exact w4'.elim
            | some j =>
              rw [q3] at w4'
              have Eo := (E3'.trans E4).trans E4'
              obtain ⟨a, ws, rfl, ha, hl, tx, hput⟩ := S4'.mut ((f3.ext E4).ext E4') q1
              have hi : xi = .int kk := by have := S4'.rd f4 q2; cases this; rfl
              subst hi
              have E24 : Ext g2 H1 g4' H4 := ((E3.trans E3').trans E4).trans E4'
              obtain ⟨E5, S5⟩ := hput (xs.set j p) (ws.set j x) (by simpa using hl) (TrL.set (t2.ext E24) j tx)
              have hs := seq_of q3
              rw [tx.length] at q3 hs
              exact ⟨a, ws, kk, j, rfl, rfl, ha, by first | exact hs | exact q3, w4' g4' _ σ E5 S5⟩
          | _ => exact w4'.elim
theorem snd_exprS {e : Expr} {ex : Ex} {pos : Pos} (h : PS X (.Expr e pos) (tDrop (tA D ex))) : PS X (.Expr e pos) (tS D (.expr ex)) :=
  PS.of h fun Dn σ H ⟨n, g, e, te, h, ts, S', w⟩ => by
    simp only [evS] at w
    exact ⟨n, g, e, te, h, ts, S', WS.bindA w fun r e1 h1 g1 H1 x _ E1 S1 r1 w1 => w1 g1 H1 σ (Ext.refl _ _) S1⟩
theorem snd_if {c : Expr} {a b : List Stmt} {ec : Ex} {sa sb : Sm} {pos : Pos} (hc : PT X c (tT D ec)) (ha : PSs X a (tS D sa)) (hb : PSs X b (tS D sb)) : PS X (.If c a b pos) (tS D (.ite ec sa sb)) :=
  PS.of (ps_if hc ha hb) fun Dn σ H ⟨n, g, e, te, h, ts, S', w⟩ => by
    simp only [evS] at w
    refine ⟨n, g, e, te, h, ts, S', WS.bindA w fun r e1 h1 g1 H1 x _ E1 S1 r1 w1 => ?_⟩
    cases r1
    cases r with
    | true => rw [if_pos rfl] at w1 ⊢; exact ⟨n, g1, e1, te, h1, ts, S1, w1⟩
    | false => rw [if_neg Bool.false_ne_true] at w1 ⊢; exact ⟨n, g1, e1, te, h1, ts, S1, w1⟩
theorem snd_seq {st : Stmt} {r : List Stmt} {sa sb : Sm} (ha : PS X st (tS D sa)) (hb : PSs X r (tS D sb)) : PSs X (st :: r) (tS D (.seq sa sb)) :=
  ⟨fun pins s σ H Dn I ⟨n, g, e, te, h, ts, S', w⟩ => by
    simp only [evS] at w
    refine (pss_cons ha hb).run pins s σ H Dn I ⟨n, g, e, te, h, ts, S', WS.bindS w fun fl e1 h1 g1 H1 σ1 _ E1 S1 w1 => ?_⟩
    cases fl with
    | next => exact ⟨n, g1, e1, te, h1, ts, S1, w1⟩
    | brk => exact w1 g1 H1 σ1 (Ext.refl _ _) S1
    | cont => exact w1 g1 H1 σ1 (Ext.refl _ _) S1
    | ret p fr => exact w1 g1 H1 σ1 (Ext.refl _ _) S1⟩
theorem snd_cSeq {f : Stmt → Sm} : ∀ {sts : List Stmt}, (∀ st ∈ sts, PS X st (tS D (f st))) → PSs X sts (tS D (cSeq (sts.map f)))
  | [], _ => ⟨fun pins s σ H Dn I ⟨n, g, e, te, h, ts, S', w⟩ => pss_nil.run pins s σ H Dn I (by
      simp only [List.map, cSeq, evS] at w
      exact w g H σ (Ext.refl _ _) S')⟩
  | [st], h => ⟨fun pins s σ H Dn I ⟨n, g, e, te, h', ts, S', w⟩ => by
      refine (pss_cons (h st List.mem_cons_self) pss_nil).run pins s σ H Dn I ⟨n, g, e, te, h', ts, S', ?_⟩
      simp only [List.map, cSeq] at w
      exact w⟩
  | st :: b :: r, h => snd_seq (h st List.mem_cons_self) (snd_cSeq (sts := b :: r) fun z hz => h z (List.mem_cons_of_mem _ hz))
theorem snd_retN {pos : Pos} : PS X (.Return none pos) (tS D (.ret (.con .non))) :=
  PS.of ps_retN fun Dn σ H ⟨n, g, e, te, h, ts, S', w⟩ => by
    simp only [evS, evA, Out.bind] at w
    exact w g H σ (Ext.refl _ _) S' .non .non
theorem snd_ret {e : Expr} {ex : Ex} {pos : Pos} (he : PE X e (tA D ex)) : PS X (.Return (some e) pos) (tS D (.ret ex)) :=
  PS.of (ps_ret he) fun Dn σ H ⟨n, g, e, te, h, ts, S', w⟩ => by
    simp only [evS] at w
    refine ⟨n, g, e, te, h, ts, S', WS.bindA w fun r e1 h1 g1 H1 x _ E1 S1 r1 w1 => ?_⟩
    cases r with
    | v p fr => exact w1 g1 H1 σ (Ext.refl _ _) S1 x r1
    | slot i =>
      simp only at w1
      have r1' : (σ ++ ts)[i]? = some (some x) := r1
      cases q : e1[i]? with
      | none => rw [q] at w1; exact w1.elim
      | some s =>
        rw [q] at w1
        have hi : i < e1.length := (List.getElem?_eq_some_iff.mp q).1
        have q' : (e1 ++ te)[i]? = some s := by rw [List.getElem?_append_left hi]; exact q
        cases s with
        | no => exact w1.elim
        | val p =>
          obtain ⟨w', e2, t⟩ := S1.sim.sl i _ q'
          rw [r1'] at e2
          cases e2
          exact w1 g1 H1 σ (Ext.refl _ _) S1 x (Res.old t)
        | own p =>
          obtain ⟨a, e2, o⟩ := S1.sim.sl i _ q'
          rw [r1'] at e2
          cases e2
          have l1 : (e1.set i SV.no).length = σ.length := by simpa using S1.l1
          have e3 : (e1.set i SV.no) ++ te = (e1 ++ te).set i SV.no := (List.set_append_left _ _ hi).symm
          have S2 : SimT D.T n g1 (e1.set i SV.no) te h1 σ ts H1 := ⟨l1, S1.l2, S1.sim.re (by rw [List.length_append, List.length_append, l1, S1.l2]) fun j s hj => by
            rw [e3] at hj
            rcases getElem?_set_or hj with ⟨_, rfl⟩ | ⟨_, hj'⟩
            · exact .inl rfl
            · exact .inr (.inr ⟨hj', rfl⟩)⟩
          refine w1 g1 H1 σ (Ext.refl _ _) S2 (.ref a) ?_
          cases p with
          | lst xs =>
            refine ⟨a, rfl, o, fun j qq hj hw => ?_⟩
            rw [e3] at hj
            rcases getElem?_set_or hj with ⟨_, hh⟩ | ⟨hne, hj'⟩
            · cases hh
            · exact hne (S1.sim.od j i _ _ _ hj' q' hw r1')
          | _ => exact o.at_.elim
/-! loops -/
theorem forLoop_cons {gd : Gd} {f : PV → Env → Hs → Out Fl} {x : PV} {xs : List PV} {e : Env} {h : Hs} (hg : gdOk gd h = true) : forLoop gd f (x :: xs) e h = (f x e h).bind fun r e1 h1 => match r with
    | .next => forLoop gd f xs e1 h1
    | .cont => forLoop gd f xs e1 h1
    | .brk => .ok .next e1 h1
    | .ret p fr => .ok (.ret p fr) e1 h1 := by
  first | (rw [forLoop, if_pos hg]; done) | (rw [forLoop, if_pos hg]; rfl)
theorem forLoop_gd {D : Wd} {n : En} {te : Env} {ts : List (Option V)} {Dn : Ends} {g : Gh} {H : Hp} {gd : Gd} {f : PV → Env → Hs → Out Fl} {xs : List PV} {e : Env} {h : Hs} (w : WS D n te ts Dn (forLoop gd f xs e h) g H) : gdOk gd h = true := by
  cases xs <;> unfold forLoop at w <;> split at w <;> first | assumption | exact w.elim
def ForInv (D : Wd) (n : En) (te : Env) (ts : List (Option V)) (gd : Gd) (f : PV → Env → Hs → Out Fl) (xs : List PV) (Dn : Ends) (g0 : Gh) (H0 : Hp) (i m : Nat) (σ : L2.St) (H : Hp) : Prop :=
  m = xs.length - i ∧ ∃ g e h, Ext g0 H0 g H ∧ SimT D.T n g e te h σ ts H ∧ WS D n te ts Dn (forLoop gd f (xs.drop i) e h) g H
theorem snd_for {tg it : Expr} {body : List Stmt} {t : Tg} {eit : Ex} {sb : Sm} {pos : Pos} (po : PassesOwn (model X.prog X.w) X.A X.env X.xe) (hc : X.calm = true) (hset : isSetE it = false) (hi : PI X tg it (tI D eit)) (hg : PG X tg (tG D t)) (hb : PSs X body (tS D sb)) :
    PS X (.For tg it body [] pos) (tS D (.for_ t eit sb)) :=
  PS.of (ps_for po hc hi hg hb (fun x => foldSet hset _ x)) fun Dn σ H ⟨n, g, e, te, h, ts, S', w⟩ => by
    simp only [evS] at w
    refine ⟨n, g, e, te, h, ts, S', WS.bindA w fun z e1 h1 g1 H1 J _ E1 S1 rJ w1 => ?_⟩
    obtain ⟨xs, gd⟩ := z
    replace rJ : ItRel D.T g1 H1 J xs gd := rJ
    generalize hf : (fun (x : PV) (e : Env) (h : Hs) => match bindT t x e with
      | some e' => evS D.C sb e' h
      | none => Out.stuck) = f at w1
    refine ⟨ForInv D n te ts gd f xs Dn g1 H1, ⟨xs.length, rfl, g1, e1, h1, Ext.refl _ _, S1, w1⟩, ?_⟩
    rintro i m σ4 H4 ⟨hm, g4, e4, h4, E4, S4, w4⟩
    have hgd := forLoop_gd w4
    have G4 := gd_of S4.sim hgd
    by_cases hlt : i < xs.length
    · refine .inr ⟨((rJ g4 H4 E4 S4.sim.fin G4 i).1 xs[i] (List.getElem?_eq_getElem hlt)).1, ForInv D n te ts gd f xs Dn g1 H1 (i + 1) (xs.length - (i + 1)), fun σ' H' hN => ⟨_, by omega, hN⟩, ?_⟩
      intro x H5 hy
      obtain ⟨Dn1, k1, k2, tx⟩ := ((rJ g4 H4 E4 S4.sim.fin G4 i).1 xs[i] (List.getElem?_eq_getElem hlt)).2 x H5 hy
      obtain ⟨E5, S5⟩ := S4.grow k1 k2
      rw [drop_cons hlt, forLoop_cons hgd] at w4
      have w5 := w4.mono E5
      have hfx : f xs[i] e4 h4 = (match bindT t xs[i] e4 with
        | some e' => evS D.C sb e' h4
        | none => Out.stuck) := by rw [← hf]
      rw [hfx] at w5
      cases q : bindT t xs[i] e4 with
      | none => rw [q] at w5; exact w5.elim
      | some e' =>
        rw [q] at w5
        refine ⟨n, _, e4, te, h4, ts, S5, xs[i], e', tx, q, fun σ6 S6 _ => ?_⟩
        refine ⟨n, _, e', te, h4, ts, S6, WS.bindS w5 fun fl e7 h7 g7 H7 σ7 _ E7 S7 w7 => ?_⟩
        have E17 := (E4.trans E5).trans E7
        cases fl with
        | next => exact ⟨rfl, g7, e7, h7, E17, S7, w7⟩
        | cont => exact ⟨rfl, g7, e7, h7, E17, S7, w7⟩
        | brk => exact w7 g7 H7 σ7 (Ext.refl _ _) S7
        | ret p fr => exact w7 g7 H7 σ7 (Ext.refl _ _) S7
    · refine .inl ⟨(rJ g4 H4 E4 S4.sim.fin G4 i).2 (by omega), ?_⟩
      rw [List.drop_eq_nil_of_le (by omega), forLoop, if_pos hgd] at w4
      exact w4 g4 H4 σ4 (Ext.refl _ _) S4
theorem snd_while {c : Expr} {body : List Stmt} {ec : Ex} {sb : Sm} {pos : Pos} (po : PassesOwn (model X.prog X.w) X.A X.env X.xe) (hc : PT X c (tT D ec)) (hb : PSs X body (tS D sb)) :
    PS X (.While c body [] pos) (tS D (.while_ ec sb)) :=
  PS.of (ps_while po hc hb) fun Dn σ H ⟨n, g, e, te, h, ts, S', w⟩ => by
    simp only [evS] at w
    refine ⟨fun m σ H => ∃ n g e te h ts, SimT D.T n g e te h σ ts H ∧ WS D n te ts Dn (whLoop (fun e h => evT D.C ec e h) (fun e h => evS D.C sb e h) m e h) g H, ⟨LF, n, g, e, te, h, ts, S', w⟩, ?_⟩
    rintro m σ1 H1 ⟨n, g1, e1, te, h1, ts, S1, w1⟩
    cases m with
    | zero => exact w1.elim
    | succ m =>
      unfold whLoop at w1
      refine ⟨n, g1, e1, te, h1, ts, S1, WS.bindA w1 fun r e2 h2 g2 H2 x _ E2 S2 r2 w2 => ?_⟩
      cases r2
      cases r with
      | false => rw [if_neg Bool.false_ne_true] at w2 ⊢; exact w2 g2 H2 σ1 (Ext.refl _ _) S2
      | true =>
        rw [if_pos rfl] at w2 ⊢
        refine ⟨fun σ' H' => ∃ n g e te h ts, SimT D.T n g e te h σ' ts H' ∧ WS D n te ts Dn (whLoop (fun e h => evT D.C ec e h) (fun e h => evS D.C sb e h) m e h) g H', fun σ' H' hN => ⟨m, by omega, hN⟩, n, g2, e2, te, h2, ts, S2, WS.bindS w2 fun fl e3 h3 g3 H3 σ3 _ E3 S3 w3 => ?_⟩
        cases fl with
        | next => exact ⟨n, g3, e3, te, h3, ts, S3, w3⟩
        | cont => exact ⟨n, g3, e3, te, h3, ts, S3, w3⟩
        | brk => exact w3 g3 H3 σ3 (Ext.refl _ _) S3
        | ret p fr => exact w3 g3 H3 σ3 (Ext.refl _ _) S3
theorem par_sw (hk : X.env.scope.kind = .function) (hs : X.env.scope = S.sc) {x y : Str} {px py pt pt2 : Pos} {kt k2 : Nat} {a b : Expr} (h : parFits S x y px py a b = true) :
    swappedStores [.Tuple [.Name x px, .Name y py] kt pt] (.Tuple [a, b] k2 pt2) X.env = pure (some [x, y]) := by
  simp only [parFits, Bool.and_eq_true, beq_iff_eq, Bool.not_eq_true', decide_eq_true_eq] at h
  obtain ⟨⟨⟨⟨⟨⟨⟨h1, h2⟩, h3⟩, h4⟩, h5⟩, h6⟩, h7⟩, h8⟩ := h
  have ky : X.env.kindOf y = some .local := by show X.env.scope.names.lookup y = _; rw [hs]; exact h2
  have kx : X.env.kindOf x = some .local := by show X.env.scope.names.lookup x = _; rw [hs]; exact h1
  have hb : X.env.blockKind = .function := by unfold Env.blockKind; rw [hk]; rfl
  have hyx : (y == x) = false := by simp; exact fun z => h4 z.symm
  unfold swappedStores
  simp only [hb, kx, ky, List.all_cons, List.all_nil, Bool.and_true, h7, h8, List.any_cons, List.any_nil, Bool.or_false]
  refine (if_neg (by simp)).trans ?_
  refine (if_neg ?_).trans ?_
  · rw [Bool.or_eq_true, not_or]
    constructor
    · cases a <;> first | (simp [isStarE] at h5; done) | exact Bool.false_ne_true
    · cases b <;> first | (simp [isStarE] at h6; done) | exact Bool.false_ne_true
  · simp [h3, Expr.pos, List.eraseDups, List.eraseDupsBy, List.eraseDupsBy.loop, hyx, hb, kx, ky]
end
end PL

/-! Bodies; the defs of the module. -/
namespace PL
open PySem PySem.Spec PyProof.Rows L2
section
variable {k : Nat} {X : Cx}
theorem snd_assign {D : Wd} {S : Sc} (hk : S.sc.kind = .function) (xg : XG D S.N S.sc S.asg k X) (so : ScOk D S) (F : FnsOk D k) (kw : ∀ z ∈ S.kws, z ∈ D.kw) {tg e : Expr} {pos : Pos} : PS X (.Assign [tg] e pos) (tS D (cAssign 60 S tg e)) := by
  have ih := snd_E 60 D S X xg so F kw
  have ok := xg.toXOk
  have hkX : X.env.scope.kind = .function := by rw [xg.hsc]; exact hk
  have tup : ∀ {ts : List Expr} {kt : Nat} {pt : Pos}, (∀ es k2 p2, e ≠ .Tuple es k2 p2) → PS X (.Assign [.Tuple ts kt pt] e pos) (tS D (if isLC e then .stuck else (match cTg S 8 (.Tuple ts kt pt) with | some t => .tasg t (cE 60 S e) | none => .stuck))) := fun {ts kt pt} hne => by
    split
    · exact ps_stuck
    · rename_i hlc
      split
      · rename_i t ht
        refine snd_tasg (ps_asg (ih e).1 (snd_tg xg rfl rfl rfl 8 _ t ht) ?_ ?_)
        · cases e <;> first | rfl | (simp [isLC] at hlc)
        · cases e <;> first | rfl | (exact absurd rfl (hne _ _ _))
      · exact ps_stuck
  unfold cAssign
  split
  · rename_i x px
    split
    · rename_i hc
      simp only [Bool.and_eq_true] at hc
      obtain ⟨⟨⟨h1, h2⟩, h3⟩, h4⟩ := hc
      split
      · rename_i i hi
        have hN : X.N[i]? = some x := by rw [xg.hN]; exact idxOf_get hi
        have hl : L2.Loc X.env.scope x := by rw [xg.hsc]; exact locB_loc h2
        refine snd_asg ?_
        rcases lcFits_sw (S := S) hkX xg.hsc (l := pos.line) h4 with hsw | ⟨elt, gs, scope, p2, rfl, hloc, hsw⟩
        · exact ps_set (by rw [xg.hN]; exact xg.nd) hN hl (ih e).1 hsw (xg.fn x h3)
        · have ih' := snd_E 59 D S X xg so F kw
          exact PS.of ((snd_comp xg so (fun e => (ih' e).1) fun scope X' xg' => snd_E 59 D.calm (inBlk S scope) X' xg' (so.blk scope) F.calm kw).2 hN hloc hsw) fun _ _ _ q => imp_celIf q
      · exact ps_stuck
    · exact ps_stuck
  · rename_i o i tpos
    split
    · exact ps_stuck
    · rename_i hc
      simp only [Bool.or_eq_true, not_or, Bool.not_eq_true] at hc
      refine snd_seti (ps_asg (ih e).1 (pg_sub (ih o).1 (ih i).1 set_list ?_) ?_ ?_ ?_)
      · intro v
        cases i <;> first | rfl | (simp [isSliceE] at hc)
      · cases e <;> first | rfl | (simp [isLC] at hc)
      · rfl
      · rfl
  · rename_i x px y py kt pt
    split
    · rename_i a b k2 p2
      split
      · exact ps_stuck
      · rename_i hp
        simp only [Bool.not_eq_true', Bool.not_eq_false] at hp
        split
        · rename_i i j hi hj
          split
          · exact ps_stuck
          · rename_i hij
            have hp' := hp
            simp only [parFits, Bool.and_eq_true, beq_iff_eq, Bool.not_eq_true', decide_eq_true_eq] at hp'
            obtain ⟨⟨⟨⟨⟨⟨⟨q1, q2⟩, q3⟩, q4⟩, q5⟩, q6⟩, q7⟩, q8⟩ := hp'
            refine snd_par (ps_par xg.calm (by rw [xg.hN]; exact xg.nd) (by rw [xg.hN]; exact idxOf_get hi) (by rw [xg.hN]; exact idxOf_get hj) hij (by rw [xg.hsc]; exact q1) (by rw [xg.hsc]; exact q2) ?_ (par_sw (S := S) hkX xg.hsc hp))
            exact pa_cons (ih a).1 (pa_cons (ih b).1 pa_nil (starEach_cons q6)) (starEach_cons q5)
        · exact ps_stuck
    · exact ps_stuck
    · rename_i hne hne2
      exact tup fun es k2 p2 he => hne2 es k2 p2 he
  · rename_i ts kt pt hnn
    split
    · exact ps_stuck
    · rename_i hne
      exact tup fun es k2 p2 he => hne es k2 p2 he
  · exact ps_stuck
theorem snd_S {D : Wd} {S : Sc} (hk : S.sc.kind = .function) (xg : XG D S.N S.sc S.asg k X) (so : ScOk D S) (F : FnsOk D k) (kw : ∀ z ∈ S.kws, z ∈ D.kw) : ∀ (m : Nat) (st : Stmt), PS X st (tS D (cS m S st))
  | 0, _ => ps_stuck
  | m + 1, st => by
    have ih := snd_S hk xg so F kw m
    have ihE := snd_E 60 D S X xg so F kw
    unfold cS
    split
    · exact PS.of ps_pass fun Dn σ H ⟨n, g, e, te, h, ts, S', w⟩ => by simp only [evS] at w; exact w g H σ (Ext.refl _ _) S'
    · exact PS.of ps_break fun Dn σ H ⟨n, g, e, te, h, ts, S', w⟩ => by simp only [evS] at w; exact w g H σ (Ext.refl _ _) S'
    · exact PS.of ps_continue fun Dn σ H ⟨n, g, e, te, h, ts, S', w⟩ => by simp only [evS] at w; exact w g H σ (Ext.refl _ _) S'
    · exact PS.of ps_doc fun Dn σ H ⟨n, g, e, te, h, ts, S', w⟩ => by simp only [evS] at w; exact w g H σ (Ext.refl _ _) S'
    · rename_i e pos _
      split
      · exact ps_stuck
      · rename_i hlc
        refine snd_exprS (ps_expr (ihE e).1 ?_)
        cases e <;> first | rfl | (simp [isLC] at hlc)
    · exact snd_assign hk xg so F kw
    · exact snd_if (ihE _).2 (snd_cSeq fun st _ => ih st) (snd_cSeq fun st _ => ih st)
    · split
      · exact ps_stuck
      · rename_i hset
        simp only [Bool.not_eq_true] at hset
        split
        · rename_i t ht
          exact snd_for xg.po xg.calm hset (snd_it xg.toXOk so rfl fun e => (ihE e).1) (snd_tg xg rfl rfl rfl 8 _ t ht) (snd_cSeq fun st _ => ih st)
        · exact ps_stuck
    · exact snd_while xg.po (ihE _).2 (snd_cSeq fun st _ => ih st)
    · exact snd_retN
    · exact snd_ret (ihE _).1
    · exact ps_stuck
end

/-! the defs -/
/-- what is known of a def: its parts -/
structure DefOk (T : Tx) (d : DefT) (fn : Fn) (mk : List Str → Scope → Sc) : Prop where
  ex : ∃ (name qual : Str) (params : Arguments) (body : List Stmt) (scope : Scope) (dV kV doc pm cdv ct oc : Value) (an od : Option Addr) (osl : Array (Option Value)) (N : List Str),
    d.fd = PySem.W.fnOf name qual params body scope dV kV doc pm an cdv ct ∧ T.K.lookup d.f = some ⟨oc, od, .func d.fd, osl⟩ ∧ PySem.W.codeIn T.K cdv qual = true ∧ FnScope N d.ps scope ∧ fn = ⟨d.ps.length, N.length, cBody (mk N scope) body⟩
theorem start_sim {D : Wd} {g : Gh} {h : Hs} {H : Hp} {ps : List PV} {vs : List V} {m : Nat} (S : Sim D.T (en0 H g) g [] h [] H) (r : TrL D.T g H ps vs) :
    SimT D.T (en0 H g) g (ps.map .val ++ List.replicate m .no) [] h (vs.map some ++ List.replicate m none) [] H := by
  have hl := r.length
  refine ⟨by simp [hl], rfl, S.re (by simp [hl]) fun i s hi => ?_⟩
  rw [List.append_nil] at hi ⊢
  by_cases hlt : i < ps.length
  · rw [List.getElem?_append_left (by simpa using hlt), List.getElem?_map, List.getElem?_eq_getElem hlt] at hi
    cases hi
    obtain ⟨v, h1, h2⟩ := r.get (List.getElem?_eq_getElem hlt)
    refine .inr (.inl ⟨_, v, rfl, ?_, h2⟩)
    rw [List.getElem?_append_left (by simp; omega), List.getElem?_map, h1]; rfl
  · rw [List.getElem?_append_right (by simpa using hlt), List.getElem?_replicate] at hi
    split at hi
    · cases hi; exact .inl rfl
    · cases hi
theorem Sim.drop {T : Tx} {n : En} {g : Gh} {e : Env} {h : Hs} {σ : List (Option V)} {H : Hp} (S : Sim T n g e h σ H) : Sim T n g [] h [] H := S.re rfl fun i s hi => by simp at hi
theorem Res.drop {T : Tx} {n : En} {g : Gh} {e : Env} {σ : List (Option V)} {H : Hp} {p : PV} {fr : Bool} {w : V} (r : Res T n g H e σ p fr w) : Res T n g H [] [] p fr w := by
  cases fr with
  | false => cases p <;> exact r
  | true =>
    cases p with
    | lst xs => obtain ⟨a, rfl, o, ap⟩ := r; exact ⟨a, rfl, o, fun i q hi => by simp at hi⟩
    | _ => exact r
theorem def_step {D : Wd} {G : List Fn} {mk : List Str → Scope → Sc} {k i : Nat} {d : DefT} {fn : Fn} (hmk : ∀ N sc, (mk N sc).N = N ∧ (mk N sc).sc = sc ∧ (mk N sc).asg = fun _ => true) (hs : ∀ N sc, ScOk D (mk N sc)) (hkw : ∀ N sc, ∀ z ∈ (mk N sc).kws, z ∈ D.kw)
    (F : FnsOk { D with C := callN G k } k) (hG : G[i]? = some fn) (dk : DefOk D.T d fn mk) :
    FnOk D.T.P D.T.w D.T.K D.T.mg D.T.base (L2.CX D.T.P D.T.w) (k + 1 + 2) d.f d.fd d.ps (spF { D with C := callN G (k + 1) } i d.ps.length) := by
  obtain ⟨name, qual, params, body, scope, dV, kV, doc, pm, cdv, ct, oc, an, od, osl, N, e1, lk, hcd, fs, efn⟩ := dk.ex
  have e1' := e1
  rw [e1] at lk
  rw [e1']
  refine fn_of (k := k + 2) lk hcd fs (fun vs H Q E q => q.1) fun A outer s H vs Q E hr q => ?_
  obtain ⟨hlen, g, h, ps, r, S0, w⟩ := q
  let D' : Wd := { D with C := callN G k, W := fun cls d _ H => E cls d H }
  have xg : XG D' N scope (fun _ => true) k (cxOf (L2.CX D.T.P D.T.w) D.T.P D.T.w D.T.K D.T.mg D.T.base N qual scope d.f cdv A outer s H E) :=
    { P := rfl, w := rfl, K := rfl, mg := rfl, base := rfl, hN := rfl, hsc := rfl, calm := rfl, nd := fs.nd, hr := hr, tk := takes_of rfl rfl rfl rfl, po := passes_of rfl, fn := fun x _ => .inl rfl }
  have F' : FnsOk D' k := ⟨F.fn, F.bi, F.kwb⟩
  obtain ⟨m1, m2, m3⟩ := hmk N scope
  have so : ScOk D' (mk N scope) := ⟨(hs N scope).defs, (hs N scope).fnA, (hs N scope).mgd, (hs N scope).free⟩
  have xg' : XG D' (mk N scope).N (mk N scope).sc (mk N scope).asg k (cxOf (L2.CX D.T.P D.T.w) D.T.P D.T.w D.T.K D.T.mg D.T.base N qual scope d.f cdv A outer s H E) := by rw [m1, m2, m3]; exact xg
  have body_ok := snd_cSeq (D := D') (f := cS 60 (mk N scope)) (sts := body) fun st _ => snd_S (by rw [m2]; exact fs.kind) xg' so F' (hkw N scope) 60 st
  refine ⟨_, body_ok, ?_⟩
  have hpl : ps.length = d.ps.length := by rw [r.length]; exact hlen
  have hst : L2.start N vs = vs.map some ++ List.replicate (N.length - d.ps.length) none := by unfold L2.start; rw [hlen]
  rw [hst]
  refine ⟨en0 H g, g, _, [], h, [], start_sim (D := D') (m := N.length - d.ps.length) S0 r, ?_⟩
  have hc : callN G (k + 1) i ps h = finish (evS (callN G k) fn.body (ps.map .val ++ List.replicate (N.length - d.ps.length) .no) h) := by
    show (match G[i]? with
      | some d => if ps.length = d.np then finish (evS (callN G k) d.body (envOf d ps) h) else Ret.stuck
      | none => Ret.stuck) = _
    rw [hG]
    subst efn
    simp only [envOf]
    rw [if_pos hpl]
  have hb : fn.body = cSeq (body.map (cS 60 (mk N scope))) := by subst efn; rfl
  rw [hb] at hc
  simp only at w
  rw [hc] at w
  show WS D' (en0 H g) [] [] _ (evS (callN G k) (cSeq (body.map (cS 60 (mk N scope)))) (ps.map .val ++ List.replicate (N.length - d.ps.length) .no) h) g H
  cases q : evS (callN G k) (cSeq (body.map (cS 60 (mk N scope)))) (ps.map .val ++ List.replicate (N.length - d.ps.length) .no) h with
  | stuck => rw [q] at w; exact w
  | exc c fs e h' => rw [q] at w; exact fun g' H' cls dd σ' E' S' x => w g' H' cls dd E' S'.sim.drop x
  | ok fl e h' =>
    rw [q] at w
    intro g' H' σ' E' S'
    cases fl with
    | next => exact w g' H' .non E' S'.sim.drop .non
    | brk => exact w
    | cont => exact w
    | ret p fr => exact fun v rv => w g' H' v E' S'.sim.drop rv.drop
theorem fns_ok {D : Wd} {G : List Fn} {mk : Bool → List Str → Scope → Sc} (hmk : ∀ c N sc, (mk c N sc).N = N ∧ (mk c N sc).sc = sc ∧ (mk c N sc).asg = fun _ => true) (hs : ∀ c N sc, ScOk D (mk c N sc)) (hkw : ∀ c N sc, ∀ z ∈ (mk c N sc).kws, z ∈ D.kw)
    (bi : ∀ (i : Nat) (d : DefT), D.ds[i]? = some d → Binds D.T.K d.fd d.ps [])
    (kwb : ∀ z ∈ D.kw, ∀ d, D.ds[z.1]? = some d → ∀ (s : Shared) (us ws : List Value), us.length = z.2.1 → ws.length = z.2.2.1.length → BindsTo s d.fd ⟨us, z.2.2.1.zip ws⟩ (d.ps.zip (permL .none z.2.2.2 (us ++ ws))))
    (dk : ∀ (i : Nat) (d : DefT), D.ds[i]? = some d → ∃ fn, G[i]? = some fn ∧ ∃ c, DefOk D.T d fn (mk c)) : ∀ k, FnsOk { D with C := callN G k } k
  | 0 => ⟨fun i d hd => ⟨fun vs H Q E q => q.1, fun A outer s H args us vs Q E _ _ _ _ q => by
      obtain ⟨_, g, h, ps, _, _, w⟩ := q
      exact w.elim⟩, bi, kwb⟩
  | k + 1 => ⟨fun i d hd => by
      obtain ⟨fn, h1, c, h2⟩ := dk i d hd
      exact def_step (D := D) (hmk c) (hs c) (hkw c) (fns_ok hmk hs hkw bi kwb dk k) h1 h2, bi, kwb⟩
end PL

/-! The end: from a run of the small language to the promise of the law's def. -/
namespace PL
open PySem PySem.Spec PyProof.Rows L2
/-- a def of the text -/
structure FD where
  x : Str
  st : Stmt
  N : List Str
  ps : List Str
  cel : Bool
instance : Inhabited FD := ⟨⟨"", .Pass ⟨0, 0, 0, 0⟩, [], [], false⟩⟩
def FD.d (z : FD) : He.DefD := ⟨(z.x, none), z.x, z.x, defArgs z.st, defBody z.st, defScope z.st, [], []⟩
def mkSc (defs : List (Str × List Str)) (free : List Str) (kws : List (Nat × Nat × List Str × List Nat)) (cel : Bool) (N : List Str) (sc : Scope) : Sc :=
  { N := N, sc := sc, blk := false, asg := fun _ => true, defs := defs, clss := [], free := free, cel := cel, kws := kws }
def defsOf (zs : List FD) : List (Str × List Str) := zs.map fun z => (z.x, z.ps)
def FD.fn (defs : List (Str × List Str)) (free : List Str) (kws : List (Nat × Nat × List Str × List Nat)) (z : FD) : Fn :=
  ⟨z.ps.length, z.N.length, cBody (mkSc defs free kws z.cel z.N (defScope z.st)) (defBody z.st)⟩
def progOf (zs : List FD) (free : List Str) (kws : List (Nat × Nat × List Str × List Nat)) : List Fn := zs.map (FD.fn (defsOf zs) free kws)
/-- every parameter by its place -/
def BindN (z : FD) : Prop := ∀ (kV doc pm : Value) (an : Option Addr) (cdv ct : Value) (us : List Value), us.length = z.ps.length →
  bindArgs (PySem.W.fnOf z.x z.x (defArgs z.st) (defBody z.st) (defScope z.st) .none kV doc pm an cdv ct) ⟨us, []⟩ = pure (z.ps.zip us)
/-- some by keyword -/
def BindK (zs : List FD) (q : Nat × Nat × List Str × List Nat) : Prop := ∀ z, zs[q.1]? = some z → ∀ (kV doc pm : Value) (an : Option Addr) (cdv ct : Value) (us ws : List Value), us.length = q.2.1 → ws.length = q.2.2.1.length →
  bindArgs (PySem.W.fnOf z.x z.x (defArgs z.st) (defBody z.st) (defScope z.st) .none kV doc pm an cdv ct) ⟨us, q.2.2.1.zip ws⟩ = pure (z.ps.zip (permL .none q.2.2.2 (us ++ ws)))
def fdOf (K : PySem.W.Frag) (f : Addr) : FuncData := match K.lookup f with
  | some ⟨_, _, .func fd, _⟩ => fd
  | _ => PySem.W.fnOf "" "" ⟨[], [], none, [], [], none, []⟩ [] ⟨.function, [], false, false, []⟩ .none .none .none .none none .none .none
def FD.t (K : PySem.W.Frag) (z : FD) : DefT := ⟨z.x, z.ps, He.fAd K (z.x, none), fdOf K (He.fAd K (z.x, none))⟩
def spLaw (n : Nat) (K : PySem.W.Frag) : Sp := fun vs H Q _ => ∃ (a : Addr) (ns : List Int), vs = [.ref a] ∧ ns.length ≤ n ∧ Only H ∧ SqL K H a (ns.map V.int) ∧ ∀ H', Q (.bl true) H'
theorem FnOk.top {P : Program} {w : World} {K : PySem.W.Frag} {mg : Str → Option Value} {base : Heap} {k : Nat} {f : Addr} {fd : FuncData} {ps : List Str} {sp sp' : Sp} (F : FnOk P w K mg base (L2.CX P w) k f fd ps sp')
    (h : ∀ vs H Q E, sp vs H Q E → sp' vs H Q fun _ _ _ => False) : FnOk P w K mg base CX0 k f fd ps sp :=
  ⟨fun vs H Q E q => F.len vs H Q _ (h _ _ _ _ q), fun A outer s H args us vs Q E hr e0 hb hv hs => codeAny_mono (F.run A outer s H args us vs Q (fun _ _ _ => False) hr e0 hb hv (h _ _ _ _ hs)) fun r s' c => by
    cases r with
    | ok v => cases v <;> exact c
    | error e => obtain ⟨_, _, _, _, _, _, _, _, _, _, _, _, z⟩ := c; exact z⟩
theorem ints_tr {T : Tx} {g : Gh} {H : Hp} : ∀ ns : List Int, TrL T g H (ns.map PV.int) (ns.map V.int)
  | [] => .nil
  | n :: ns => .cons (.int n) (ints_tr ns)
theorem top_gen {P : Program} {w : World} {K : PySem.W.Frag} {h : Heap} {mg : Str → Option Value} {f : Addr} {zs : List FD} {free : List Str} {kws : List (Nat × Nat × List Str × List Nat)} {j n k : Nat} {zl : FD}
    (X : K.In h) (G : h.Ns mainGlobals mg) (c : He.SaysD (zs.map (fun z => He.Fa.glo z.x) ++ free.map He.Fa.free) (zs.map FD.d) K) (hz : zs[j]? = some zl) (hps : zl.ps = (["script"] : List Str)) (hfa : mg zl.x = some (.ref f)) (hn : n ≤ sizeLine)
    (hsc : zs.all (fun z => C8.scC z.N z.ps (defScope z.st)) = true) (hbi : ∀ z ∈ zs, BindN z) (hbk : ∀ q ∈ kws, BindK zs q)
    (law : ∀ ns : List Int, ns.length ≤ n → ∃ fr hh, callN (progOf zs free kws) k j [.scr (ns.map .int)] [] = .ret (.bl true) fr hh) :
    ∃ fd : FuncData, (∀ (s : Shared) (v : Value), BindsTo s fd ⟨[v], []⟩ [("script", v)]) ∧ ∀ base : Heap, K.In base → base.Ns mainGlobals mg → FnOk P w K mg base CX0 (k + 2) f fd ["script"] (spLaw n K) := by
  have fun_ : ∀ z ∈ zs, FunD K z.x z.x (defArgs z.st) (defBody z.st) (defScope z.st) [] [] (He.fAd K (z.x, none)) (fdOf K (He.fAd K (z.x, none))) := fun z hz => by
    obtain ⟨fd, F⟩ := c.defs (d := z.d) (List.mem_map.mpr ⟨z, hz, rfl⟩)
    have F' : FunD K z.x z.x (defArgs z.st) (defBody z.st) (defScope z.st) [] [] (He.fAd K (z.x, none)) fd := F
    obtain ⟨oc, od, dV, kV, doc, pm, an, cdv, ct, osl, e1, lk, hcd, hD, hK⟩ := F'.ex
    have e : fdOf K (He.fAd K (z.x, none)) = fd := by unfold fdOf; rw [lk]
    rw [e]
    exact F'
  have glo : ∀ z ∈ zs, mg z.x = some (.ref (He.fAd K (z.x, none))) := fun z hz => He.glo_ok X G (c.facts (List.mem_append_left _ (List.mem_map.mpr ⟨z, hz, rfl⟩)))
  have fre : ∀ x ∈ free, mg x = none := fun x hx => He.free_ok X G (c.facts (List.mem_append_right _ (List.mem_map.mpr ⟨x, hx, rfl⟩)))
  have hzm : zl ∈ zs := List.mem_of_getElem? hz
  have bindA : ∀ (s : Shared) (us : List Value), us.length = zl.ps.length → BindsTo s (fdOf K (He.fAd K (zl.x, none))) ⟨us, []⟩ (zl.ps.zip us) := FunD.bindsA (fun_ zl hzm) (hbi zl hzm)
  refine ⟨fdOf K (He.fAd K (zl.x, none)), fun s v => by have := bindA s [v] (by rw [hps]; rfl); rw [hps] at this; exact this, fun base KB NB => ?_⟩
  let D : Wd := { T := ⟨P, w, K, mg, base, fun i => (zs[i]?).map fun z => He.fAd K (z.x, none)⟩, cs := [], ds := zs.map (FD.t K), kw := kws, C := fun _ _ _ => .stuck, W := fun _ _ _ _ => False }
  have hds : ∀ (i : Nat) (d : DefT), D.ds[i]? = some d → ∃ z, zs[i]? = some z ∧ d = z.t K := fun i d hd => by
    have hd' : (zs.map (FD.t K))[i]? = some d := hd
    rw [List.getElem?_map, Option.map_eq_some_iff] at hd'
    obtain ⟨z, h1, h2⟩ := hd'
    exact ⟨z, h1, h2.symm⟩
  have so : ∀ (cel : Bool) (N : List Str) (sc : Scope), ScOk D (mkSc (defsOf zs) free kws cel N sc) := fun cel N sc =>
    { defs := by show defsOf zs = (zs.map (FD.t K)).map _; rw [List.map_map]; rfl
      fnA := fun i d hd => by obtain ⟨z, h1, rfl⟩ := hds i d hd; show (zs[i]?).map _ = _; rw [h1]; rfl
      mgd := fun i d hd => by obtain ⟨z, h1, rfl⟩ := hds i d hd; exact ⟨glo z (List.mem_of_getElem? h1), (fun_ z (List.mem_of_getElem? h1)).kp⟩
      free := fre }
  have key := fns_ok (D := D) (G := progOf zs free kws) (mk := mkSc (defsOf zs) free kws) (fun _ _ _ => ⟨rfl, rfl, rfl⟩) so (fun _ _ _ _ h => h)
    (fun i d hd => by
      obtain ⟨z, h1, rfl⟩ := hds i d hd
      have hm := List.mem_of_getElem? h1
      exact FunD.bindsN (fun_ z hm) (hbi z hm))
    (fun q hq d hd s us ws h1 h2 => by
      obtain ⟨z, h3, rfl⟩ := hds q.1 d hd
      have hm := List.mem_of_getElem? h3
      obtain ⟨oc, od, dV, kV, doc, pm, an, cdv, ct, osl, e1, lk, hcd, hD, hK⟩ := (fun_ z hm).ex
      show BindsTo s (fdOf K (He.fAd K (z.x, none))) _ _
      rw [e1]
      rcases hD with ⟨_, rfl⟩ | ⟨e, _⟩
      · exact .of_eq (hbk q hq z h3 kV doc pm an cdv ct us ws h1 h2)
      · exact absurd rfl e)
    (fun i d hd => by
      obtain ⟨z, h1, rfl⟩ := hds i d hd
      have hm := List.mem_of_getElem? h1
      refine ⟨z.fn (defsOf zs) free kws, by unfold progOf; rw [List.getElem?_map, h1]; rfl, z.cel, ?_⟩
      obtain ⟨oc, od, dV, kV, doc, pm, an, cdv, ct, osl, e1, lk, hcd, hD, hK⟩ := (fun_ z hm).ex
      exact ⟨z.x, z.x, defArgs z.st, defBody z.st, defScope z.st, dV, kV, doc, pm, cdv, ct, oc, an, od, osl, z.N, e1, lk, hcd, C8.fnScope_by (List.all_eq_true.mp hsc z hm), rfl⟩)
    k
  have hfl : f = He.fAd K (zl.x, none) := by
    have := hfa.symm.trans (glo zl hzm)
    cases this
    rfl
  subst hfl
  have F := key.fn j (zl.t K) (by show (zs.map (FD.t K))[j]? = _; rw [List.getElem?_map, hz]; rfl)
  have F' : FnOk P w K mg base (L2.CX P w) (k + 2) (He.fAd K (zl.x, none)) (fdOf K (He.fAd K (zl.x, none))) ["script"] (spF { D with C := callN (progOf zs free kws) k } j (["script"] : List Str).length) := by
    rw [← hps]; exact F
  refine FnOk.top F' fun vs H Q E ⟨a, ns, e1, hl, hO, hS, hQ⟩ => ?_
  subst e1
  refine ⟨rfl, ⟨fun b => H b ≠ none, []⟩, [], [.scr (ns.map .int)], ?_, ?_, ?_⟩
  · refine .cons ?_ .nil
    have hlen : (ns.map V.int).length ≤ sizeLine := by rw [List.length_map]; omega
    rcases hS with (e | ⟨o, e⟩) | e
    · rcases hO a with e2 | ⟨o, xs, e2⟩
      · rw [e] at e2; cases e2
      · rw [e] at e2; cases e2
    · exact .scr (show H a ≠ none by rw [e]; exact fun z => nomatch z) e hlen (ints_tr ns)
    · exact .scrK e hlen (ints_tr ns)
  · exact ⟨rfl, fun _ h => h, fun _ h => h, fun _ h => .inl h, ⟨[], rfl, fun _ h => by simp at h⟩, fun _ h => by simp at h, List.nodup_nil, rfl, fun i c a h => by simp at h, fun _ _ _ => rfl, fun i s h => by simp at h, fun i j p q w h => by simp at h⟩
  · obtain ⟨fr, hh, e⟩ := law ns hl
    show match callN (progOf zs free kws) k j [.scr (ns.map .int)] [] with
      | .ret p fr h' => _
      | .exc c fs h' => _
      | .stuck => _
    rw [e]
    intro g' H' v E' S' r
    have : v = .bl true := by cases fr <;> (cases r; rfl)
    subst this
    exact hQ H'
end PL

namespace K03
open PL
open PySem (Str)
/-- is_list -/
def b_is_list : Sm := (.ret (.isi (.var 0) ["list", "tuple"]))
abbrev i_is_list : Nat := 0
/-- is_whole -/
def b_is_whole : Sm := (.ret (.and (.isi (.var 0) ["int"]) (.not (.isi (.var 0) ["bool"]))))
abbrev i_is_whole : Nat := 1
/-- is_row -/
def b_is_row : Sm := (.ret (.and (.call 0 [] (.cons (.var 0) .nil)) (.cmp .eq (.bcall .len (.cons (.var 0) .nil)) (.var 1))))
abbrev i_is_row : Nat := 2
/-- check_many -/
def b_check_many : Sm := (.ite (.or (.not (.call 1 [] (.cons (.var 0) .nil))) (.cmp .lt (.var 0) (.con (.int (1))))) .stuck .skip)
abbrev i_check_many : Nat := 3
/-- kept_numbers -/
def b_kept_numbers : Sm := (.seq (.ite (.or (.not (.call 2 [] (.cons (.var 1) (.cons (.var 0) .nil)))) (.not (.bcall .all (.cons (.lc [2, 3] (.nm 3) (.iseq (.var 1)) .nil (.one (.call 1 [] (.cons (.var 3) .nil)))) .nil)))) (.ret (.con .non)) .skip) (.ret (.bcall .tuple (.cons (.var 1) .nil))))
abbrev i_kept_numbers : Nat := 4
/-- kept_line -/
def b_kept_line : Sm := (.seq (.ite (.or (.not (.call 2 [] (.cons (.var 1) (.cons (.con (.int (3))) .nil)))) (.or (.not (.call 1 [] (.cons (.idx (.var 1) (.con (.int (2)))) .nil))) (.not (.isi (.idx (.var 1) (.con (.int (1)))) ["str"])))) (.ret (.con .non)) .skip) (.seq (.asg 2 (.call 4 [] (.cons (.var 0) (.cons (.idx (.var 1) (.con (.int (0)))) .nil)))) (.ret (.ite (.or (.cmp .is_ (.var 2) (.con .non)) (.cmp .notin (.idx (.var 1) (.con (.int (1)))) (.tup (.cons (.con (.str "=")) (.cons (.con (.str ">=")) .nil))))) (.con .non) (.tup (.cons (.var 2) (.cons (.idx (.var 1) (.con (.int (1)))) (.cons (.idx (.var 1) (.con (.int (2)))) .nil))))))))
abbrev i_kept_line : Nat := 5
/-- told_line -/
def b_told_line : Sm := (.ret (.tup (.cons (.cell (.bcall .list (.cons (.idx (.var 0) (.con (.int (0)))) .nil))) (.cons (.idx (.var 0) (.con (.int (1)))) (.cons (.idx (.var 0) (.con (.int (2)))) .nil)))))
abbrev i_told_line : Nat := 6
/-- need_line -/
def b_need_line : Sm := (.seq (.expr (.call 3 [] (.cons (.var 0) .nil))) (.seq (.asg 2 (.call 5 [] (.cons (.var 0) (.cons (.var 1) .nil)))) (.seq (.ite (.cmp .is_ (.var 2) (.con .non)) .stuck .skip) (.ret (.var 2)))))
abbrev i_need_line : Nat := 7
/-- turned_lines -/
def b_turned_lines : Sm := (.seq (.tasg (.tp (.cons (.nm 1) (.cons (.nm 2) (.cons (.nm 3) .nil)))) (.var 0)) (.seq (.asg 4 (.tup (.cons (.bcall .tuple (.cons (.lc [5, 6] (.nm 6) (.iseq (.var 1)) .nil (.one (.neg (.var 6)))) .nil)) (.cons (.con (.str ">=")) (.cons (.bin .sub (.con (.int (1))) (.var 3)) .nil))))) (.ret (.ite (.cmp .eq (.var 2) (.con (.str ">="))) (.lst (.cons (.var 4) .nil)) (.lst (.cons (.tup (.cons (.var 1) (.cons (.con (.str ">=")) (.cons (.bin .add (.var 3) (.con (.int (1)))) .nil)))) (.cons (.var 4) .nil)))))))
abbrev i_turned_lines : Nat := 8
/-- turned -/
def b_turned : Sm := (.ret (.cell (.lc [2, 3] (.nm 3) (.iseq (.call 8 [] (.cons (.call 7 [] (.cons (.var 0) (.cons (.var 1) .nil))) .nil))) .nil (.one (.call 6 [] (.cons (.var 3) .nil))))))
abbrev i_turned : Nat := 9
/-- common_divisor -/
def b_common_divisor : Sm := (.seq (.asg 1 (.con (.int (0)))) (.seq (.for_ (.nm 2) (.iseq (.var 0)) (.seq (.par 3 4 (.bcall .abs (.cons (.var 2) .nil)) (.var 1)) (.seq (.while_ (.var 4) (.par 3 4 (.var 4) (.bin .mod (.var 3) (.var 4)))) (.asg 1 (.var 3))))) (.ret (.var 1))))
abbrev i_common_divisor : Nat := 10
/-- plain_of -/
def b_plain_of : Sm := (.seq (.tasg (.tp (.cons (.nm 1) (.cons (.nm 2) (.cons (.nm 3) .nil)))) (.var 0)) (.seq (.asg 4 (.call 10 [] (.cons (.var 1) .nil))) (.seq (.ite (.cmp .eq (.var 4) (.con (.int (0)))) (.ret (.ite (.ite (.cmp .eq (.var 2) (.con (.str "="))) (.cmp .eq (.var 3) (.con (.int (0)))) (.cmp .le (.var 3) (.con (.int (0))))) (.tup (.cons (.bin .mul (.tup (.cons (.con (.int (0))) .nil)) (.bcall .len (.cons (.var 1) .nil))) (.cons (.con (.str ">=")) (.cons (.con (.int (0))) .nil)))) (.con .non))) .skip) (.seq (.ite (.cmp .eq (.var 2) (.con (.str ">="))) (.ret (.tup (.cons (.bcall .tuple (.cons (.lc [7, 8] (.nm 8) (.iseq (.var 1)) .nil (.one (.bin .fdiv (.var 8) (.var 4)))) .nil)) (.cons (.var 2) (.cons (.neg (.bin .fdiv (.neg (.var 3)) (.var 4))) .nil))))) .skip) (.seq (.ite (.cmp .ne (.bin .mod (.var 3) (.var 4)) (.con (.int (0)))) (.ret (.con .non)) .skip) (.seq (.asg 5 (.idx (.lc [7, 8] (.nm 8) (.iseq (.var 1)) (.cmp .ne (.var 8) (.con (.int (0)))) (.one (.var 8))) (.con (.int (0))))) (.seq (.asg 6 (.ite (.cmp .gt (.var 5) (.con (.int (0)))) (.var 4) (.neg (.var 4)))) (.ret (.tup (.cons (.bcall .tuple (.cons (.lc [7, 8] (.nm 8) (.iseq (.var 1)) .nil (.one (.bin .fdiv (.var 8) (.var 6)))) .nil)) (.cons (.var 2) (.cons (.bin .fdiv (.var 3) (.var 6)) .nil))))))))))))
abbrev i_plain_of : Nat := 11
/-- plain_row -/
def b_plain_row : Sm := (.seq (.asg 2 (.call 11 [] (.cons (.call 7 [] (.cons (.var 0) (.cons (.var 1) .nil))) .nil))) (.ret (.ite (.cmp .is_ (.var 2) (.con .non)) (.con .non) (.call 6 [] (.cons (.var 2) .nil)))))
abbrev i_plain_row : Nat := 12
/-- _law_stream -/
def b__law_stream : Sm := (.ret (.cell (.lst (.cons (.cell (.bcall .list (.cons (.var 0) .nil))) (.cons (.con (.int (0))) (.cons (.con (.int (0))) (.cons (.con (.int (17))) .nil)))))))
abbrev i__law_stream : Nat := 13
/-- _law_draw -/
def b__law_draw : Sm := (.seq (.seti (.var 0) (.con (.int (2))) (.bin .add (.idx (.var 0) (.con (.int (2)))) (.con (.int (1))))) (.seq (.while_ (.and (.cmp .eq (.idx (.var 0) (.con (.int (1)))) (.con (.int (0)))) (.cmp .ne (.idx (.var 0) (.con (.int (0)))) (.lst .nil))) (.seq (.asg 2 (.bcall .abs (.cons (.meth .popAt (.idx (.var 0) (.con (.int (0)))) (.cons (.con (.int (0))) .nil)) .nil))) (.seq (.seti (.var 0) (.con (.int (3))) (.bin .mod (.bcall .int (.cons (.bin .add (.bin .add (.bin .mul (.idx (.var 0) (.con (.int (3)))) (.con (.int (8191)))) (.var 2)) (.con (.int (3)))) .nil)) (.con (.int (2147483647))))) (.seti (.var 0) (.con (.int (1))) (.ite (.cmp .ge (.var 2) (.bin .pow (.con (.int (10))) (.con (.int (18))))) (.var 2) (.con (.int (0)))))))) (.seq (.ite (.cmp .gt (.idx (.var 0) (.con (.int (1)))) (.con (.int (0)))) (.seq (.asg 3 (.bin .mod (.bcall .int (.cons (.idx (.var 0) (.con (.int (1)))) .nil)) (.var 1))) (.seq (.seti (.var 0) (.con (.int (1))) (.bin .fdiv (.idx (.var 0) (.con (.int (1)))) (.var 1))) (.ret (.var 3)))) .skip) (.seq (.asg 4 (.bin .mod (.bcall .int (.cons (.bin .pow (.bin .add (.bin .add (.idx (.var 0) (.con (.int (3)))) (.bin .mul (.con (.int (7919))) (.idx (.var 0) (.con (.int (2)))))) (.con (.int (104729)))) (.con (.int (5)))) .nil)) (.con (.int (2147483629))))) (.ret (.bin .mod (.bin .mod (.bcall .int (.cons (.bin .pow (.bin .add (.bin .add (.bin .mul (.var 4) (.con (.int (48271)))) (.bin .mul (.con (.int (30011))) (.idx (.var 0) (.con (.int (2)))))) (.con (.int (29)))) (.con (.int (3)))) .nil)) (.con (.int (1000000007)))) (.var 1)))))))
abbrev i__law_draw : Nat := 14
/-- _law_pick -/
def b__law_pick : Sm := (.ret (.idx (.var 1) (.call 14 [] (.cons (.var 0) (.cons (.bcall .len (.cons (.var 1) .nil)) .nil)))))
abbrev i__law_pick : Nat := 15
/-- _law_same -/
def b__law_same : Sm := (.seq (.ite (.isi (.var 1) ["list", "tuple"]) (.seq (.ite (.or (.cmp .ne (.isi (.var 0) ["list"]) (.isi (.var 1) ["list"])) (.cmp .ne (.isi (.var 0) ["tuple"]) (.isi (.var 1) ["tuple"]))) (.ret (.con (.bl false))) .skip) (.ret (.and (.cmp .eq (.bcall .len (.cons (.var 0) .nil)) (.bcall .len (.cons (.var 1) .nil))) (.bcall .all (.cons (.lc [2, 3, 4] (.tp (.cons (.nm 3) (.cons (.nm 4) .nil))) (.izip (.var 0) (.var 1)) .nil (.one (.call 16 [] (.cons (.var 3) (.cons (.var 4) .nil))))) .nil))))) .skip) (.seq (.ite (.isi (.var 1) ["dict"]) (.ret (.and (.isi (.var 0) ["dict"]) (.call 16 [] (.cons (.bcall .list (.cons .stuck .nil)) (.cons (.bcall .list (.cons .stuck .nil)) .nil))))) .skip) (.seq (.ite (.or (.isi (.var 1) ["bool"]) (.isi (.var 0) ["bool"])) (.ret (.and (.isi (.var 1) ["bool"]) (.and (.isi (.var 0) ["bool"]) (.cmp .eq (.var 0) (.var 1))))) .skip) (.seq (.ite (.or (.cmp .is_ (.var 1) (.con .non)) (.cmp .is_ (.var 0) (.con .non))) (.ret (.and (.cmp .is_ (.var 1) (.con .non)) (.cmp .is_ (.var 0) (.con .non)))) .skip) (.seq (.ite (.or (.cmp .ne (.isi (.var 1) ["int"]) (.isi (.var 0) ["int"])) (.cmp .ne (.isi (.var 1) ["str"]) (.isi (.var 0) ["str"]))) (.ret (.con (.bl false))) .skip) (.ret (.and (.not (.isi (.var 0) ["list", "tuple", "dict"])) (.cmp .eq (.var 0) (.var 1)))))))))
abbrev i__law_same : Nat := 16
/-- _law_spoilt -/
def b__law_spoilt : Sm := (.seq (.ite (.isi (.var 0) ["list", "tuple"]) (.for_ (.nm 1) (.iseq (.var 0)) (.expr (.call 17 [] (.cons (.var 1) .nil)))) .skip) (.ite (.isi (.var 0) ["list"]) (.expr (.meth .append (.var 0) (.cons (.con (.str "late")) .nil))) .skip))
abbrev i__law_spoilt : Nat := 17
/-- _law_copied -/
def b__law_copied : Sm := (.seq (.ite (.isi (.var 0) ["dict"]) (.ret .stuck) .skip) (.seq (.asg 1 (.ite (.isi (.var 0) ["list", "tuple"]) (.lc [2, 4] (.nm 4) (.iseq (.var 0)) .nil (.one (.call 18 [] (.cons (.var 4) .nil)))) (.var 0))) (.ret (.ite (.isi (.var 0) ["tuple"]) (.bcall .tuple (.cons (.var 1) .nil)) (.var 1)))))
abbrev i__law_copied : Nat := 18
/-- _law_loose -/
def b__law_loose : Sm := (.seq (.ite (.not (.isi (.var 1) ["list", "tuple"])) (.ret (.var 1)) .skip) (.seq (.asg 2 (.lc [3, 4] (.nm 4) (.iseq (.var 1)) .nil (.one (.call 19 [] (.cons (.var 0) (.cons (.var 4) .nil)))))) (.ret (.ite (.cmp .eq (.call 14 [] (.cons (.var 0) (.cons (.con (.int (2))) .nil))) (.con (.int (0)))) (.bcall .tuple (.cons (.var 2) .nil)) (.var 2)))))
abbrev i__law_loose : Nat := 19
/-- _law_integer -/
def b__law_integer : Sm := (.ret (.bin .sub (.call 14 [] (.cons (.var 0) (.cons (.bin .add (.bin .mul (.con (.int (2))) (.var 1)) (.con (.int (1)))) .nil))) (.var 1)))
abbrev i__law_integer : Nat := 20
/-- _law_value -/
def b__law_value : Sm := (.ret (.bcall .sum (.cons (.lc [2, 3, 4] (.tp (.cons (.nm 3) (.cons (.nm 4) .nil))) (.izip (.var 0) (.var 1)) .nil (.one (.bcall .int (.cons (.bin .mul (.var 3) (.var 4)) .nil)))) .nil)))
abbrev i__law_value : Nat := 21
/-- _law_row_holds -/
def b__law_row_holds : Sm := (.seq (.asg 2 (.call 21 [] (.cons (.idx (.var 0) (.con (.int (0)))) (.cons (.var 1) .nil)))) (.ret (.ite (.cmp .eq (.idx (.var 0) (.con (.int (1)))) (.con (.str "="))) (.cmp .eq (.var 2) (.idx (.var 0) (.con (.int (2))))) (.cmp .ge (.var 2) (.idx (.var 0) (.con (.int (2))))))))
abbrev i__law_row_holds : Nat := 22
/-- _law_row -/
def b__law_row : Sm := (.ret (.tup (.cons (.lc [4, 5] (.nm 5) (.irng1 (.var 1)) .nil (.one (.call 20 [] (.cons (.var 0) (.cons (.var 2) .nil))))) (.cons (.call 15 [] (.cons (.var 0) (.cons (.lst (.cons (.con (.str ">=")) (.cons (.con (.str ">=")) (.cons (.con (.str "=")) .nil)))) .nil))) (.cons (.call 20 [] (.cons (.var 0) (.cons (.var 3) .nil))) .nil)))))
abbrev i__law_row : Nat := 23
/-- _law_rest -/
def b__law_rest : Sm := (.ret (.bin .sub (.bcall .int (.cons (.var 0) .nil)) (.bin .mul (.var 1) (.bin .fdiv (.bcall .int (.cons (.var 0) .nil)) (.var 1)))))
abbrev i__law_rest : Nat := 24
/-- _law_divisor -/
def b__law_divisor : Sm := (.seq (.asg 1 (.con (.int (0)))) (.seq (.for_ (.nm 2) (.iseq (.var 0)) (.seq (.par 3 4 (.bcall .abs (.cons (.var 2) .nil)) (.var 1)) (.seq (.while_ (.cmp .gt (.var 4) (.con (.int (0)))) (.par 3 4 (.var 4) (.call 24 [] (.cons (.var 3) (.cons (.var 4) .nil))))) (.asg 1 (.var 3))))) (.ret (.var 1))))
abbrev i__law_divisor : Nat := 25
/-- _law_any_row -/
def b__law_any_row : Sm := (.seq (.tasg (.tp (.cons (.nm 2) (.cons (.nm 3) (.cons (.nm 4) .nil)))) (.call 23 [] (.cons (.var 0) (.cons (.var 1) (.cons (.call 15 [] (.cons (.var 0) (.cons (.lst (.cons (.con (.int (0))) (.cons (.con (.int (2))) (.cons (.con (.int (9))) .nil)))) .nil))) (.cons (.con (.int (12))) .nil)))))) (.seq (.asg 5 (.bin .add (.con (.int (1))) (.call 14 [] (.cons (.var 0) (.cons (.con (.int (4))) .nil))))) (.ret (.tup (.cons (.lc [6, 7] (.nm 7) (.iseq (.var 2)) .nil (.one (.bin .mul (.var 5) (.var 7)))) (.cons (.var 3) (.cons (.var 4) .nil)))))))
abbrev i__law_any_row : Nat := 26
/-- _law_plain_row -/
def b__law_plain_row : Sm := (.seq (.tasg (.tp (.cons (.nm 1) (.cons (.nm 2) (.cons (.nm 3) .nil)))) (.var 0)) (.seq (.asg 4 (.call 25 [] (.cons (.var 1) .nil))) (.seq (.ite (.cmp .eq (.var 4) (.con (.int (0)))) (.seq (.asg 5 (.ite (.cmp .eq (.var 2) (.con (.str "="))) (.cmp .eq (.var 3) (.con (.int (0)))) (.cmp .le (.var 3) (.con (.int (0)))))) (.ret (.ite (.var 5) (.tup (.cons (.bin .mul (.lst (.cons (.con (.int (0))) .nil)) (.bcall .len (.cons (.var 1) .nil))) (.cons (.con (.str ">=")) (.cons (.con (.int (0))) .nil)))) (.con .non)))) .skip) (.seq (.ite (.cmp .eq (.var 2) (.con (.str ">="))) (.ret (.tup (.cons (.lc [7, 8] (.nm 8) (.iseq (.var 1)) .nil (.one (.bin .fdiv (.var 8) (.var 4)))) (.cons (.var 2) (.cons (.neg (.bin .fdiv (.neg (.var 3)) (.var 4))) .nil))))) .skip) (.seq (.ite (.cmp .ne (.call 24 [] (.cons (.var 3) (.cons (.var 4) .nil))) (.con (.int (0)))) (.ret (.con .non)) .skip) (.seq (.asg 6 (.ite (.cmp .gt (.idx (.lc [7, 8] (.nm 8) (.iseq (.var 1)) (.cmp .ne (.var 8) (.con (.int (0)))) (.one (.var 8))) (.con (.int (0)))) (.con (.int (0)))) (.var 4) (.neg (.var 4)))) (.ret (.tup (.cons (.lc [7, 8] (.nm 8) (.iseq (.var 1)) .nil (.one (.bin .fdiv (.var 8) (.var 6)))) (.cons (.var 2) (.cons (.bin .fdiv (.var 3) (.var 6)) .nil)))))))))))
abbrev i__law_plain_row : Nat := 27
/-- law -/
def b_law : Sm := (.seq (.asg 1 (.call 13 [] (.cons (.var 0) .nil))) (.seq (.for_ (.nm 2) (.irng1 (.con (.int (8)))) (.seq (.asg 3 (.bin .add (.con (.int (1))) (.call 14 [] (.cons (.var 1) (.cons (.con (.int (4))) .nil))))) (.seq (.asg 4 (.call 26 [] (.cons (.var 1) (.cons (.var 3) .nil)))) (.seq (.tasg (.tp (.cons (.nm 5) (.cons (.nm 6) (.cons (.nm 7) .nil)))) (.var 4)) (.seq (.asg 8 (.tup (.cons (.lc [18, 19] (.nm 19) (.iseq (.var 5)) .nil (.one (.neg (.var 19)))) (.cons (.con (.str ">=")) (.cons (.bin .sub (.con (.int (1))) (.var 7)) .nil))))) (.seq (.par 9 10 (.ite (.cmp .eq (.var 6) (.con (.str ">="))) (.lst (.cons (.var 8) .nil)) (.lst (.cons (.tup (.cons (.bcall .list (.cons (.var 5) .nil)) (.cons (.con (.str ">=")) (.cons (.bin .add (.var 7) (.con (.int (1)))) .nil)))) (.cons (.var 8) .nil)))) (.call 19 [] (.cons (.var 1) (.cons (.var 4) .nil)))) (.seq (.par 11 12 (.call 18 [] (.cons (.var 10) .nil)) (.call 27 [] (.cons (.var 4) .nil))) (.seq (.asg 13 (.lst (.cons (.call 9 [] (.cons (.var 3) (.cons (.var 10) .nil))) (.cons (.call 9 [1, 0] (.cons (.call 18 [] (.cons (.var 4) .nil)) (.cons (.var 3) .nil))) (.cons (.call 12 [] (.cons (.var 3) (.cons (.var 10) .nil))) (.cons (.call 12 [1, 0] (.cons (.call 18 [] (.cons (.var 4) .nil)) (.cons (.var 3) .nil))) .nil)))))) (.seq (.ite (.or (.not (.call 16 [] (.cons (.var 13) (.cons (.lst (.cons (.var 9) (.cons (.var 9) (.cons (.var 12) (.cons (.var 12) .nil))))) .nil)))) (.not (.call 16 [] (.cons (.var 10) (.cons (.var 11) .nil))))) (.ret (.con (.bl false))) .skip) (.seq (.for_ (.nm 14) (.irng1 (.con (.int (6)))) (.seq (.asg 15 (.lc [18, 20] (.nm 20) (.irng1 (.var 3)) .nil (.one (.call 20 [] (.cons (.var 1) (.cons (.con (.int (6))) .nil)))))) (.seq (.asg 16 (.call 22 [] (.cons (.var 4) (.cons (.var 15) .nil)))) (.ite (.or (.cmp .eq (.bcall .any (.cons (.lc [18, 21] (.nm 21) (.iseq (.var 9)) .nil (.one (.call 22 [] (.cons (.var 21) (.cons (.var 15) .nil))))) .nil)) (.var 16)) (.cmp .ne (.and (.cmp .isnot (.var 12) (.con .non)) (.call 22 [] (.cons (.var 12) (.cons (.var 15) .nil)))) (.var 16))) (.ret (.con (.bl false))) .skip)))) (.seq (.expr (.call 17 [] (.cons (.idx (.var 13) (.con (.int (0)))) .nil))) (.seq (.ite (.cmp .isnot (.var 12) (.con .non)) (.expr (.call 17 [] (.cons (.idx (.idx (.var 13) (.con (.int (2)))) (.con (.int (0)))) .nil))) .skip) (.ite (.not (.call 16 [] (.cons (.lst (.cons (.call 9 [] (.cons (.var 3) (.cons (.call 18 [] (.cons (.var 4) .nil)) .nil))) (.cons (.call 12 [] (.cons (.var 3) (.cons (.call 18 [] (.cons (.var 4) .nil)) .nil))) .nil))) (.cons (.lst (.cons (.var 9) (.cons (.var 12) .nil))) .nil)))) (.ret (.con (.bl false))) .skip))))))))))))) (.seq (.asg 17 (.lst (.cons (.call 12 [] (.cons (.con (.int (2))) (.cons (.tup (.cons (.lst (.cons (.con (.int (2))) (.cons (.con (.int (4))) .nil))) (.cons (.con (.str ">=")) (.cons (.con (.int (3))) .nil)))) .nil))) (.cons (.call 12 [] (.cons (.con (.int (2))) (.cons (.tup (.cons (.lst (.cons (.con (.int (2))) (.cons (.con (.int (4))) .nil))) (.cons (.con (.str "=")) (.cons (.con (.int (3))) .nil)))) .nil))) (.cons (.call 12 [] (.cons (.con (.int (1))) (.cons (.tup (.cons (.lst (.cons (.neg (.con (.int (2)))) .nil)) (.cons (.con (.str "=")) (.cons (.con (.int (4))) .nil)))) .nil))) (.cons (.call 12 [] (.cons (.con (.int (2))) (.cons (.tup (.cons (.lst (.cons (.con (.int (0))) (.cons (.con (.int (0))) .nil))) (.cons (.con (.str "=")) (.cons (.con (.int (0))) .nil)))) .nil))) (.cons (.call 9 [] (.cons (.con (.int (2))) (.cons (.tup (.cons (.lst (.cons (.con (.int (1))) (.cons (.con (.int (0))) .nil))) (.cons (.con (.str "=")) (.cons (.con (.int (3))) .nil)))) .nil))) .nil))))))) (.ret (.call 16 [] (.cons (.var 17) (.cons (.lst (.cons (.tup (.cons (.lst (.cons (.con (.int (1))) (.cons (.con (.int (2))) .nil))) (.cons (.con (.str ">=")) (.cons (.con (.int (2))) .nil)))) (.cons (.con .non) (.cons (.tup (.cons (.lst (.cons (.con (.int (1))) .nil)) (.cons (.con (.str "=")) (.cons (.neg (.con (.int (2)))) .nil)))) (.cons (.tup (.cons (.lst (.cons (.con (.int (0))) (.cons (.con (.int (0))) .nil))) (.cons (.con (.str ">=")) (.cons (.con (.int (0))) .nil)))) (.cons (.lst (.cons (.tup (.cons (.lst (.cons (.con (.int (1))) (.cons (.con (.int (0))) .nil))) (.cons (.con (.str ">=")) (.cons (.con (.int (4))) .nil)))) (.cons (.tup (.cons (.lst (.cons (.neg (.con (.int (1)))) (.cons (.con (.int (0))) .nil))) (.cons (.con (.str ">=")) (.cons (.neg (.con (.int (2)))) .nil)))) .nil))) .nil)))))) .nil)))))))
abbrev i_law : Nat := 28
def G : List Fn := [⟨1, 1, b_is_list⟩, ⟨1, 1, b_is_whole⟩, ⟨2, 2, b_is_row⟩, ⟨1, 1, b_check_many⟩, ⟨2, 4, b_kept_numbers⟩, ⟨2, 3, b_kept_line⟩, ⟨1, 1, b_told_line⟩, ⟨2, 3, b_need_line⟩, ⟨1, 7, b_turned_lines⟩, ⟨2, 4, b_turned⟩, ⟨1, 5, b_common_divisor⟩, ⟨1, 9, b_plain_of⟩, ⟨2, 3, b_plain_row⟩, ⟨1, 1, b__law_stream⟩, ⟨2, 5, b__law_draw⟩, ⟨2, 2, b__law_pick⟩, ⟨2, 5, b__law_same⟩, ⟨1, 2, b__law_spoilt⟩, ⟨1, 5, b__law_copied⟩, ⟨2, 5, b__law_loose⟩, ⟨2, 2, b__law_integer⟩, ⟨2, 5, b__law_value⟩, ⟨2, 3, b__law_row_holds⟩, ⟨4, 6, b__law_row⟩, ⟨2, 2, b__law_rest⟩, ⟨1, 5, b__law_divisor⟩, ⟨2, 8, b__law_any_row⟩, ⟨1, 9, b__law_plain_row⟩, ⟨1, 22, b_law⟩]

end K03

/-! Rules of the evaluator. -/
namespace PL
open PySem (Str)
theorem v_non (h : Hs) : view h .non = .non := rfl
theorem v_bl (h : Hs) (b : Bool) : view h (.bl b) = .bl b := rfl
theorem v_int (h : Hs) (b : Int) : view h (.int b) = .int b := rfl
theorem v_str (h : Hs) (b : Str) : view h (.str b) = .str b := rfl
theorem v_lst (h : Hs) (b : List PV) : view h (.lst b) = .lst b := rfl
theorem v_tup (h : Hs) (b : List PV) : view h (.tup b) = .tup b := rfl
theorem v_dic (h : Hs) (a : List (Int ⊕ Str)) (b : List PV) : view h (.dic a b) = .dic a b := rfl
theorem i_lst (h : Hs) (b : List PV) : seqOf h (.lst b) = some (b, []) := rfl
theorem i_tup (h : Hs) (b : List PV) : seqOf h (.tup b) = some (b, []) := rfl
theorem lo_lst (h : Hs) (b : List PV) : lstOf h (.lst b) = some (b, []) := rfl
theorem gdOk_nil (h : Hs) : gdOk [] h = true := rfl
theorem bind_okE {α β : Type} {a : α} {e : Env} {h : Hs} {f : α → Env → Hs → Out β} : (Out.ok a e h).bind f = f a e h := rfl
theorem lcLoop_run {gd : Gd} {f : PV → Env → Hs → Out (List PV)} {xs : List PV} (P : Nat → List PV → Env → Hs → Prop)
    (step : ∀ i x e h acc, xs[i]? = some x → P i acc e h → ∃ r e' h', f x e h = .ok r e' h' ∧ P (i + 1) (acc ++ r) e' h') (hgd : ∀ i acc e h, P i acc e h → gdOk gd h = true) {e : Env} {h : Hs} (h0 : P 0 [] e h) :
    ∃ ps e' h', lcLoop gd f xs e h = .ok ps e' h' ∧ P xs.length ps e' h' := by
  have key : ∀ (ys : List PV) (i : Nat) (acc : List PV) (e : Env) (h : Hs), xs.drop i = ys → P i acc e h → ∃ ps e' h', lcLoop gd f ys e h = .ok ps e' h' ∧ P (i + ys.length) (acc ++ ps) e' h' := by
    intro ys
    induction ys with
    | nil => intro i acc e h _ hp; exact ⟨[], e, h, by rw [lcLoop, if_pos (hgd _ _ _ _ hp)], by simpa using hp⟩
    | cons y ys ih =>
      intro i acc e h hd hp
      have hlt : i < xs.length := by
        by_cases hl : i < xs.length
        · exact hl
        · rw [List.drop_eq_nil_of_le (by omega)] at hd; cases hd
      rw [List.drop_eq_getElem_cons hlt] at hd
      injection hd with h1 h2
      obtain ⟨r, e1, h1', q1, p1⟩ := step i y e h acc (by rw [List.getElem?_eq_getElem hlt, h1]) hp
      obtain ⟨ps, e2, h2', q2, p2⟩ := ih (i + 1) (acc ++ r) e1 h1' h2 p1
      refine ⟨r ++ ps, e2, h2', ?_, ?_⟩
      · rw [lcLoop, if_pos (hgd _ _ _ _ hp), q1, bind_okE, q2, bind_okE]
      · have : i + (ys.length + 1) = i + 1 + ys.length := by omega
        rw [List.length_cons, this, ← List.append_assoc]; exact p2
  obtain ⟨ps, e', h', q, p⟩ := key xs 0 [] e h rfl h0
  exact ⟨ps, e', h', q, by simpa using p⟩
theorem forLoop_run {gd : Gd} {f : PV → Env → Hs → Out Fl} {xs : List PV} (P : Nat → Env → Hs → Prop)
    (step : ∀ i x e h, xs[i]? = some x → P i e h → ∃ r e' h', f x e h = .ok r e' h' ∧ (r = .next ∨ r = .cont) ∧ P (i + 1) e' h') (hgd : ∀ i e h, P i e h → gdOk gd h = true) {e : Env} {h : Hs} (h0 : P 0 e h) :
    ∃ e' h', forLoop gd f xs e h = .ok .next e' h' ∧ P xs.length e' h' := by
  have key : ∀ (ys : List PV) (i : Nat) (e : Env) (h : Hs), xs.drop i = ys → P i e h → ∃ e' h', forLoop gd f ys e h = .ok .next e' h' ∧ P (i + ys.length) e' h' := by
    intro ys
    induction ys with
    | nil => intro i e h _ hp; exact ⟨e, h, by rw [forLoop, if_pos (hgd _ _ _ hp)], by simpa using hp⟩
    | cons y ys ih =>
      intro i e h hd hp
      have hlt : i < xs.length := by
        by_cases hl : i < xs.length
        · exact hl
        · rw [List.drop_eq_nil_of_le (by omega)] at hd; cases hd
      rw [List.drop_eq_getElem_cons hlt] at hd
      injection hd with h1 h2
      obtain ⟨r, e1, h1', q1, hr, p1⟩ := step i y e h (by rw [List.getElem?_eq_getElem hlt, h1]) hp
      obtain ⟨e2, h2', q2, p2⟩ := ih (i + 1) e1 h1' h2 p1
      refine ⟨e2, h2', ?_, ?_⟩
      · rw [forLoop, if_pos (hgd _ _ _ hp), q1, bind_okE]
        rcases hr with rfl | rfl <;> exact q2
      · have : i + (ys.length + 1) = i + 1 + ys.length := by omega
        rw [List.length_cons, this]; exact p2
  obtain ⟨e', h', q, p⟩ := key xs 0 e h rfl h0
  exact ⟨e', h', q, by simpa using p⟩
theorem whLoop_run {c : Env → Hs → Out Bool} {b : Env → Hs → Out Fl} (P : Nat → Env → Hs → Prop) (Q : Env → Hs → Prop)
    (step : ∀ m e h, P m e h → (∃ e1 h1, c e h = .ok false e1 h1 ∧ Q e1 h1) ∨ (∃ e1 h1 e2 h2 m', c e h = .ok true e1 h1 ∧ b e1 h1 = .ok .next e2 h2 ∧ m' < m ∧ P m' e2 h2)) :
    ∀ (m n : Nat) (e : Env) (h : Hs), m < n → P m e h → ∃ e' h', whLoop c b n e h = .ok .next e' h' ∧ Q e' h' := by
  intro m
  induction m using Nat.strongRecOn with
  | ind m ih =>
    intro n e h hn hp
    cases n with
    | zero => omega
    | succ n =>
      unfold whLoop
      rcases step m e h hp with ⟨e1, h1, q, hq⟩ | ⟨e1, h1, e2, h2, m', q, qb, hm, hp'⟩
      · rw [q, bind_okE, if_neg Bool.false_ne_true]; exact ⟨e1, h1, rfl, hq⟩
      · rw [q, bind_okE, if_pos rfl, qb, bind_okE]
        exact ih m' hm n e2 h2 (by omega) hp'
theorem wipeE_idem (own : List Nat) (e : Env) : wipeE own (wipeE own e) = wipeE own e := wipeE_sub fun _ h => h
theorem lcStep_wipe {C : Calls} {tg : Tg} {ifs body : Ex} {own : List Nat} {x : PV} {e : Env} {h : Hs} : lcStep C tg ifs body own x e h = lcStep C tg ifs body own x (wipeE own e) h := by
  unfold lcStep; rw [wipeE_idem]
theorem backE_wipe (own : List Nat) (e0 e : Env) : backE own e0 e = backE own e0 (wipeE own e) := by
  refine List.ext_getElem? fun i => ?_
  rw [backE_get, backE_get, wipeE_get]
  by_cases hv : i ∈ own
  · rw [if_pos hv, if_pos hv, if_pos hv]; cases e[i]? <;> rfl
  · rw [if_neg hv, if_neg hv, if_neg hv]
/-- a comprehension of one clause -/
theorem lc_gen {C : Calls} {own : List Nat} {tg : Tg} {it ifs body : Ex} {e e1 : Env} {h h1 : Hs} {xs : List PV} {gd : Gd} (hi : evI C it e h = .ok (xs, gd) e1 h1) (P : Nat → List PV → Hs → Prop) (E : Nat → Env) (hE : wipeE own (frzAt own e1) = E 0)
    (step : ∀ i x h acc, xs[i]? = some x → P i acc h → ∃ r h' e', lcStep C tg ifs body own x (E i) h = .ok r e' h' ∧ wipeE own e' = E (i + 1) ∧ P (i + 1) (acc ++ r) h')
    (hgd : ∀ i acc h, P i acc h → gdOk gd h = true) (h0 : P 0 [] h1) (hlen : ∀ ps h', P xs.length ps h' → ps.length ≤ line) :
    ∃ ps h', evA C (.lc own tg it ifs body) e h = .ok (.v (.lst ps) true) (backE own (frzAt own e1) (E xs.length)) h' ∧ P xs.length ps h' := by
  obtain ⟨ps, eF, hF, q, w, p⟩ := lcLoop_run (gd := gd) (f := lcStep C tg ifs body own) (xs := xs) (fun i acc e h => wipeE own e = E i ∧ P i acc h) (e := frzAt own e1) (h := h1) (fun i x e h acc hx ⟨he, hp⟩ => by
    obtain ⟨r, h', e', q, w, p⟩ := step i x h acc hx hp
    exact ⟨r, e', h', by rw [lcStep_wipe, he]; exact q, w, p⟩) (fun i acc e h ⟨_, hp⟩ => hgd i acc h hp) ⟨hE, h0⟩
  refine ⟨ps, hF, ?_, p⟩
  simp only [evA, hi, bind_okE]
  change (match (lcLoop gd (lcStep C tg ifs body own) xs (frzAt own e1) h1).noex with
      | Out.ok ps e2 h2 => if ps.length ≤ line then Out.ok (Rs.v (PV.lst ps) true) (backE own (frzAt own e1) e2) h2 else Out.stuck
      | _ => Out.stuck) = _
  rw [q]
  simp only [Out.noex]
  rw [if_pos (hlen ps hF p), backE_wipe, w]
/-- .. that asks the heap nothing -/
theorem lc_map {C : Calls} {own : List Nat} {tg : Tg} {it body : Ex} {e e1 : Env} {h h1 : Hs} {xs : List PV} {gd : Gd} (hi : evI C it e h = .ok (xs, gd) e1 h1) (hgd : gdOk gd h1 = true) (g : PV → PV) (E0 : Env) (hE : wipeE own (frzAt own e1) = E0) (hl : xs.length ≤ line)
    (step : ∀ x, x ∈ xs → ∃ e', lcStep C tg .nil body own x E0 h1 = .ok [g x] e' h1 ∧ wipeE own e' = E0) :
    evA C (.lc own tg it .nil body) e h = .ok (.v (.lst (xs.map g)) true) (backE own (frzAt own e1) E0) h1 := by
  obtain ⟨ps, h', q, p1, p2⟩ := lc_gen (own := own) (tg := tg) (ifs := .nil) (body := body) hi (fun i acc h => acc = (xs.take i).map g ∧ h = h1) (fun _ => E0) hE (fun i x h acc hx ⟨ha, hh⟩ => by
    subst hh
    obtain ⟨e', q, w⟩ := step x (List.mem_of_getElem? hx)
    refine ⟨[g x], _, e', q, w, ?_, rfl⟩
    rw [ha, List.take_succ, hx]; simp) (fun _ _ h ⟨_, hh⟩ => by rw [hh]; exact hgd) ⟨rfl, rfl⟩ (fun ps h' ⟨hp, _⟩ => by rw [hp]; simp; exact hl)
  rw [q, p1, p2, List.take_length]
/-- one turn, its test let go -/
theorem lcStep_nil {C : Calls} {tg : Tg} {body : Ex} {own : List Nat} {x : PV} {e e' : Env} {h : Hs} (hb : bindT tg x (wipeE own e) = some e') : lcStep C tg .nil body own x e h = evM C body e' h := by
  unfold lcStep
  rw [hb]
  simp only [evT, bind_okE, if_true]
theorem evS_seq {C : Calls} {a b : Sm} {e : Env} {h : Hs} : evS C (.seq a b) e h = (evS C a e h).bind fun r e1 h1 => match r with
      | .next => evS C b e1 h1
      | r => .ok r e1 h1 := by first | (simp only [evS]; done) | (simp only [evS]; rfl)
theorem evS_while {C : Calls} {c : Ex} {b : Sm} {e : Env} {h : Hs} : evS C (.while_ c b) e h = whLoop (fun e h => evT C c e h) (fun e h => evS C b e h) LF e h := by simp only [evS]
theorem seq_next {C : Calls} {a b : Sm} {e e1 : Env} {h h1 : Hs} (q : evS C a e h = .ok .next e1 h1) : evS C (.seq a b) e h = evS C b e1 h1 := by rw [evS_seq, q, bind_okE]
theorem seq_ret {C : Calls} {a b : Sm} {e e1 : Env} {h h1 : Hs} {p : PV} {fr : Bool} (q : evS C a e h = .ok (.ret p fr) e1 h1) : evS C (.seq a b) e h = .ok (.ret p fr) e1 h1 := by rw [evS_seq, q, bind_okE]
def forStep (C : Calls) (t : Tg) (b : Sm) : PV → Env → Hs → Out Fl := fun x e h => match bindT t x e with
      | some e' => evS C b e' h
      | none => .stuck
theorem evS_for {C : Calls} {t : Tg} {it : Ex} {b : Sm} {e : Env} {h : Hs} : evS C (.for_ t it b) e h = (evI C it e h).bind fun xs e1 h1 => forLoop xs.2 (forStep C t b) xs.1 e1 h1 := by simp only [evS]; rfl
theorem asg_of {C : Calls} {i : Nat} {a : Ex} {e e1 e2 : Env} {h h1 : Hs} {r : Rs} {p : PV} {fr : Bool} (q : evA C a e h = .ok r e1 h1) (q2 : esc r e1 = some (p, fr, e2)) (hi : i < e2.length) : evS C (.asg i a) e h = .ok .next (e2.set i (mk p fr)) h1 := by
  simp only [evS, q, bind_okE, q2, hi, if_true]
end PL

namespace K03
open PL
open PySem (Str)
theorem c_is_list (k : Nat) (a0 : PV) (h : Hs) : callN G (k + 1) 0 [a0] h = finish (evS (callN G k) b_is_list [.val a0] h) := rfl
theorem c_is_whole (k : Nat) (a0 : PV) (h : Hs) : callN G (k + 1) 1 [a0] h = finish (evS (callN G k) b_is_whole [.val a0] h) := rfl
theorem c_is_row (k : Nat) (a0 a1 : PV) (h : Hs) : callN G (k + 1) 2 [a0, a1] h = finish (evS (callN G k) b_is_row [.val a0, .val a1] h) := rfl
theorem c_check_many (k : Nat) (a0 : PV) (h : Hs) : callN G (k + 1) 3 [a0] h = finish (evS (callN G k) b_check_many [.val a0] h) := rfl
theorem c_kept_numbers (k : Nat) (a0 a1 : PV) (h : Hs) : callN G (k + 1) 4 [a0, a1] h = finish (evS (callN G k) b_kept_numbers [.val a0, .val a1, .no, .no] h) := rfl
theorem c_kept_line (k : Nat) (a0 a1 : PV) (h : Hs) : callN G (k + 1) 5 [a0, a1] h = finish (evS (callN G k) b_kept_line [.val a0, .val a1, .no] h) := rfl
theorem c_told_line (k : Nat) (a0 : PV) (h : Hs) : callN G (k + 1) 6 [a0] h = finish (evS (callN G k) b_told_line [.val a0] h) := rfl
theorem c_need_line (k : Nat) (a0 a1 : PV) (h : Hs) : callN G (k + 1) 7 [a0, a1] h = finish (evS (callN G k) b_need_line [.val a0, .val a1, .no] h) := rfl
theorem c_turned_lines (k : Nat) (a0 : PV) (h : Hs) : callN G (k + 1) 8 [a0] h = finish (evS (callN G k) b_turned_lines [.val a0, .no, .no, .no, .no, .no, .no] h) := rfl
theorem c_turned (k : Nat) (a0 a1 : PV) (h : Hs) : callN G (k + 1) 9 [a0, a1] h = finish (evS (callN G k) b_turned [.val a0, .val a1, .no, .no] h) := rfl
theorem c_common_divisor (k : Nat) (a0 : PV) (h : Hs) : callN G (k + 1) 10 [a0] h = finish (evS (callN G k) b_common_divisor [.val a0, .no, .no, .no, .no] h) := rfl
theorem c_plain_of (k : Nat) (a0 : PV) (h : Hs) : callN G (k + 1) 11 [a0] h = finish (evS (callN G k) b_plain_of [.val a0, .no, .no, .no, .no, .no, .no, .no, .no] h) := rfl
theorem c_plain_row (k : Nat) (a0 a1 : PV) (h : Hs) : callN G (k + 1) 12 [a0, a1] h = finish (evS (callN G k) b_plain_row [.val a0, .val a1, .no] h) := rfl
theorem c__law_stream (k : Nat) (a0 : PV) (h : Hs) : callN G (k + 1) 13 [a0] h = finish (evS (callN G k) b__law_stream [.val a0] h) := rfl
theorem c__law_draw (k : Nat) (a0 a1 : PV) (h : Hs) : callN G (k + 1) 14 [a0, a1] h = finish (evS (callN G k) b__law_draw [.val a0, .val a1, .no, .no, .no] h) := rfl
theorem c__law_pick (k : Nat) (a0 a1 : PV) (h : Hs) : callN G (k + 1) 15 [a0, a1] h = finish (evS (callN G k) b__law_pick [.val a0, .val a1] h) := rfl
theorem c__law_same (k : Nat) (a0 a1 : PV) (h : Hs) : callN G (k + 1) 16 [a0, a1] h = finish (evS (callN G k) b__law_same [.val a0, .val a1, .no, .no, .no] h) := rfl
theorem c__law_spoilt (k : Nat) (a0 : PV) (h : Hs) : callN G (k + 1) 17 [a0] h = finish (evS (callN G k) b__law_spoilt [.val a0, .no] h) := rfl
theorem c__law_copied (k : Nat) (a0 : PV) (h : Hs) : callN G (k + 1) 18 [a0] h = finish (evS (callN G k) b__law_copied [.val a0, .no, .no, .no, .no] h) := rfl
theorem c__law_loose (k : Nat) (a0 a1 : PV) (h : Hs) : callN G (k + 1) 19 [a0, a1] h = finish (evS (callN G k) b__law_loose [.val a0, .val a1, .no, .no, .no] h) := rfl
theorem c__law_integer (k : Nat) (a0 a1 : PV) (h : Hs) : callN G (k + 1) 20 [a0, a1] h = finish (evS (callN G k) b__law_integer [.val a0, .val a1] h) := rfl
theorem c__law_value (k : Nat) (a0 a1 : PV) (h : Hs) : callN G (k + 1) 21 [a0, a1] h = finish (evS (callN G k) b__law_value [.val a0, .val a1, .no, .no, .no] h) := rfl
theorem c__law_row_holds (k : Nat) (a0 a1 : PV) (h : Hs) : callN G (k + 1) 22 [a0, a1] h = finish (evS (callN G k) b__law_row_holds [.val a0, .val a1, .no] h) := rfl
theorem c__law_row (k : Nat) (a0 a1 a2 a3 : PV) (h : Hs) : callN G (k + 1) 23 [a0, a1, a2, a3] h = finish (evS (callN G k) b__law_row [.val a0, .val a1, .val a2, .val a3, .no, .no] h) := rfl
theorem c__law_rest (k : Nat) (a0 a1 : PV) (h : Hs) : callN G (k + 1) 24 [a0, a1] h = finish (evS (callN G k) b__law_rest [.val a0, .val a1] h) := rfl
theorem c__law_divisor (k : Nat) (a0 : PV) (h : Hs) : callN G (k + 1) 25 [a0] h = finish (evS (callN G k) b__law_divisor [.val a0, .no, .no, .no, .no] h) := rfl
theorem c__law_any_row (k : Nat) (a0 a1 : PV) (h : Hs) : callN G (k + 1) 26 [a0, a1] h = finish (evS (callN G k) b__law_any_row [.val a0, .val a1, .no, .no, .no, .no, .no, .no] h) := rfl
theorem c__law_plain_row (k : Nat) (a0 : PV) (h : Hs) : callN G (k + 1) 27 [a0] h = finish (evS (callN G k) b__law_plain_row [.val a0, .no, .no, .no, .no, .no, .no, .no, .no] h) := rfl
theorem c_law (k : Nat) (a0 : PV) (h : Hs) : callN G (k + 1) 28 [a0] h = finish (evS (callN G k) b_law [.val a0, .no, .no, .no, .no, .no, .no, .no, .no, .no, .no, .no, .no, .no, .no, .no, .no, .no, .no, .no, .no, .no] h) := rfl
end K03

namespace K03
open PL
open PySem (Str)
theorem eqi (a b : Int) : opEq (.int a) (.int b) = some (a == b) := by simp [opEq, okD, dep, eqv]
/-- the stream: so many numbers drawn at most -/
def SI (c : Nat) (rest : Hs) (h : Hs) : Prop := ∃ (cells : List Int) (a n m : Int), h = .lst (cells.map .int) :: .lst [.ref 0, .int a, .int n, .int m] :: rest ∧ 0 ≤ a ∧ 0 ≤ n ∧ n ≤ c ∧ 0 ≤ m ∧ m < 2147483647 ∧ cells.length ≤ 63
variable {rest : Hs}
theorem SI.mono {c d : Nat} {h : Hs} (s : SI c rest h) (hcd : c ≤ d) : SI d rest h := by
  obtain ⟨cells, a, n, m, e, h1, h2, h3, h4⟩ := s
  exact ⟨cells, a, n, m, e, h1, h2, by omega, h4⟩
theorem mulOk_of (i j : Int) (hi : i.natAbs < 2 ^ 200) (hj : j.natAbs < 2 ^ 200) : mulOk i j = true := by
  have lg : ∀ n : Nat, n < 2 ^ 200 → n.log2 < 200 := fun n hn => by
    by_cases h0 : n = 0
    · subst h0; decide
    · exact (Nat.log2_lt h0).mpr hn
  have := lg _ hi
  have := lg _ hj
  unfold mulOk
  simp; omega
theorem nat_pow_lt {x : Int} {b : Nat} (h0 : 0 ≤ x) (h1 : x < (b : Int)) : x.natAbs < b := by omega
def wc : Ex := (.and (.cmp .eq (.idx (.var 0) (.con (.int (1)))) (.con (.int (0)))) (.cmp .ne (.idx (.var 0) (.con (.int (0)))) (.lst .nil)))
def wb : Sm := (.seq (.asg 2 (.bcall .abs (.cons (.meth .popAt (.idx (.var 0) (.con (.int (0)))) (.cons (.con (.int (0))) .nil)) .nil))) (.seq (.seti (.var 0) (.con (.int (3))) (.bin .mod (.bcall .int (.cons (.bin .add (.bin .add (.bin .mul (.idx (.var 0) (.con (.int (3)))) (.con (.int (8191)))) (.var 2)) (.con (.int (3)))) .nil)) (.con (.int (2147483647))))) (.seti (.var 0) (.con (.int (1))) (.ite (.cmp .ge (.var 2) (.bin .pow (.con (.int (10))) (.con (.int (18))))) (.var 2) (.con (.int (0)))))))
def wr : Sm := (.seq (.ite (.cmp .gt (.idx (.var 0) (.con (.int (1)))) (.con (.int (0)))) (.seq (.asg 3 (.bin .mod (.bcall .int (.cons (.idx (.var 0) (.con (.int (1)))) .nil)) (.var 1))) (.seq (.seti (.var 0) (.con (.int (1))) (.bin .fdiv (.idx (.var 0) (.con (.int (1)))) (.var 1))) (.ret (.var 3)))) .skip) (.seq (.asg 4 (.bin .mod (.bcall .int (.cons (.bin .pow (.bin .add (.bin .add (.idx (.var 0) (.con (.int (3)))) (.bin .mul (.con (.int (7919))) (.idx (.var 0) (.con (.int (2)))))) (.con (.int (104729)))) (.con (.int (5)))) .nil)) (.con (.int (2147483629))))) (.ret (.bin .mod (.bin .mod (.bcall .int (.cons (.bin .pow (.bin .add (.bin .add (.bin .mul (.var 4) (.con (.int (48271)))) (.bin .mul (.con (.int (30011))) (.idx (.var 0) (.con (.int (2)))))) (.con (.int (29)))) (.con (.int (3)))) .nil)) (.con (.int (1000000007)))) (.var 1)))))
theorem draw_body : b__law_draw = .seq (.seti (.var 0) (.con (.int (2))) (.bin .add (.idx (.var 0) (.con (.int (2)))) (.con (.int (1))))) (.seq (.while_ wc wb) wr) := rfl
section
variable (C : Calls) (cells : List Int) (a n m : Int) (many : Int) (x2 x3 x4 : SV)
def hh (rest : Hs) (cells : List Int) (a n m : Int) : Hs := .lst (cells.map .int) :: .lst [.ref 0, .int a, .int n, .int m] :: rest
theorem ix0 : PL.ixN 4 0 = some 0 := rfl
theorem ix1 : PL.ixN 4 1 = some 1 := rfl
theorem ix2 : PL.ixN 4 2 = some 2 := rfl
theorem ix3 : PL.ixN 4 3 = some 3 := rfl
theorem vr1 : view (hh rest cells a n m) (.ref 1) = .lst [.ref 0, .int a, .int n, .int m] := rfl
theorem vr0 : view (hh rest cells a n m) (.ref 0) = .lst (cells.map .int) := rfl
theorem hg1 : (hh rest cells a n m)[1]? = some (.lst [.ref 0, .int a, .int n, .int m]) := rfl
theorem hg0 : (hh rest cells a n m)[0]? = some (.lst (cells.map .int)) := rfl
theorem hs1 (a' n' m' : Int) : (hh rest cells a n m).set 1 (.lst [.ref 0, .int a', .int n', .int m']) = hh rest cells a' n' m' := rfl
theorem hs0 (cs : List Int) : (hh rest cells a n m).set 0 (.lst (cs.map .int)) = hh rest cs a n m := rfl
theorem bAdd (i j : Int) : opBin .add (.int i) (.int j) = some (.int (i + j), false) := rfl
theorem bSub (i j : Int) : opBin .sub (.int i) (.int j) = some (.int (i - j), false) := rfl
theorem bMul {i j : Int} (h : mulOk i j = true) : opBin .mul (.int i) (.int j) = some (.int (i * j), false) := by simp [opBin, h]
theorem bMod {i j : Int} (h : j ≠ 0) : opBin .mod (.int i) (.int j) = some (.int (i.fmod j), false) := by simp [opBin, h]
theorem bDiv {i j : Int} (h : j ≠ 0) (h2 : j.natAbs < 1073741824) : opBin .fdiv (.int i) (.int j) = some (.int (i.fdiv j), false) := by simp [opBin, h, h2]
theorem bPow {i : Int} {j : Nat} (h : i.natAbs < 2 ^ 64) (hj : j ≤ 1000000) : opBin .pow (.int i) (.int j) = some (.int (i ^ j), false) := by
  have : (j : Int) ≤ 1000000 := by omega
  simp [opBin, h, this]
theorem draw_1 : evS C (.seti (.var 0) (.con (.int (2))) (.bin .add (.idx (.var 0) (.con (.int (2)))) (.con (.int (1))))) [.val (.ref 1), .val (.int many), x2, x3, x4] (hh rest cells a n m) = .ok .next [.val (.ref 1), .val (.int many), x2, x3, x4] (hh rest cells a (n + 1) m) := by
  simp only [evS, evA, evM, evT, evL, evR, evO, evI, Out.bind, Out.noex, lift, rd, v_non, v_bl, v_int, v_str, v_lst, v_tup, v_dic, esc, finish, mk, permute, bindT, bindTs, i_lst, i_tup, lo_lst, List.append_nil, Option.bind_some, Option.bind_none, Option.map_some, Option.map_none, Option.bind_eq_bind, List.getElem?_cons_zero, List.getElem?_cons_succ, List.getElem?_nil, List.set_cons_zero, List.set_cons_succ, List.length_cons, List.length_nil, List.mapM_cons, List.mapM_nil, Option.pure_def, Option.getD_some, and_self, Bool.not_true, Bool.not_false, if_true, if_false, Bool.false_eq_true, Bool.true_eq_false, reduceIte, Nat.reduceAdd, Nat.reduceLT, Nat.reduceSub, vr1, opIdx, ix2, bAdd, mut?, put, hg1, hs1]
theorem eqs_int : ∀ l : List Int, okDs (l.map .int) = true ∧ deps (l.map .int) = 0
  | [] => ⟨rfl, rfl⟩
  | x :: l => by simp [okDs, deps, okD, dep, eqs_int l]
theorem draw_c : evT C wc [.val (.ref 1), .val (.int many), x2, x3, x4] (hh rest cells a n m) = .ok ((a == 0) && !cells.isEmpty) [.val (.ref 1), .val (.int many), x2, x3, x4] (hh rest cells a n m) := by
  have e1 : opEq (.lst (cells.map .int)) (.lst []) = some cells.isEmpty := by
    unfold opEq
    simp only [okD, okDs, dep, deps, eqs_int]
    cases cells <;> simp [eqv, eqvs]
  unfold wc
  simp only [evS, evA, evM, evT, evL, evR, evO, evI, Out.bind, Out.noex, lift, rd, v_non, v_bl, v_int, v_str, v_lst, v_tup, v_dic, esc, finish, mk, permute, bindT, bindTs, i_lst, i_tup, lo_lst, List.append_nil, Option.bind_some, Option.bind_none, Option.map_some, Option.map_none, Option.bind_eq_bind, List.getElem?_cons_zero, List.getElem?_cons_succ, List.getElem?_nil, List.set_cons_zero, List.set_cons_succ, List.length_cons, List.length_nil, List.mapM_cons, List.mapM_nil, Option.pure_def, Option.getD_some, and_self, Bool.not_true, Bool.not_false, if_true, if_false, Bool.false_eq_true, Bool.true_eq_false, reduceIte, Nat.reduceAdd, Nat.reduceLT, Nat.reduceSub, vr1, vr0, opIdx, ix1, ix0, opCmp, eqi, e1, truthy]
  cases a == 0 <;> simp
theorem draw_b (c : Int) (h0 : 0 ≤ m) (h1 : m < 2147483647) : ∃ y a' m', evS C wb [.val (.ref 1), .val (.int many), x2, x3, x4] (hh rest (c :: cells) a n m) = .ok .next [.val (.ref 1), .val (.int many), y, x3, x4] (hh rest cells a' n m') ∧ 0 ≤ a' ∧ 0 ≤ m' ∧ m' < 2147483647 := by
  have m1 : mulOk m 8191 = true := mulOk_of _ _ (Nat.lt_trans (show m.natAbs < 2147483647 by omega) (by decide)) (by decide)
  have p1 : opM .popAt ((c :: cells).map .int) [.int 0] = some (.int c, cells.map .int) := by
    simp [opM, PL.ixN]
  have p10 : opBin .pow (.int 10) (.int 18) = some (.int 1000000000000000000, false) := by simp [opBin]
  have fm : ∀ x : Int, 0 ≤ x.fmod 2147483647 ∧ x.fmod 2147483647 < 2147483647 := fun x => ⟨Int.fmod_nonneg_of_pos x (by decide), Int.fmod_lt_of_pos x (by decide)⟩
  have md : ∀ x : Int, opBin .mod (.int x) (.int 2147483647) = some (.int (x.fmod 2147483647), false) := fun x => bMod (by decide)
  unfold wb
  by_cases hc : (1000000000000000000 : Int) ≤ (if c < 0 then -c else c)
  · simp only [evS, evA, evM, evT, evL, evR, evO, evI, Out.bind, Out.noex, lift, rd, v_non, v_bl, v_int, v_str, v_lst, v_tup, v_dic, esc, finish, mk, permute, bindT, bindTs, i_lst, i_tup, lo_lst, List.append_nil, Option.bind_some, Option.bind_none, Option.map_some, Option.map_none, Option.bind_eq_bind, List.getElem?_cons_zero, List.getElem?_cons_succ, List.getElem?_nil, List.set_cons_zero, List.set_cons_succ, List.length_cons, List.length_nil, List.mapM_cons, List.mapM_nil, Option.pure_def, Option.getD_some, and_self, Bool.not_true, Bool.not_false, if_true, if_false, Bool.false_eq_true, Bool.true_eq_false, reduceIte, Nat.reduceAdd, Nat.reduceLT, Nat.reduceSub, vr1, vr0, opIdx, ix1, ix0, ix3, opCmp, opB, p1, p10, mut?, put, hg1, hg0, hs1, hs0, truthy, bAdd, bMul m1, md, hc, decide_true]
    exact ⟨_, _, _, rfl, by omega, (fm _).1, (fm _).2⟩
  · simp only [evS, evA, evM, evT, evL, evR, evO, evI, Out.bind, Out.noex, lift, rd, v_non, v_bl, v_int, v_str, v_lst, v_tup, v_dic, esc, finish, mk, permute, bindT, bindTs, i_lst, i_tup, lo_lst, List.append_nil, Option.bind_some, Option.bind_none, Option.map_some, Option.map_none, Option.bind_eq_bind, List.getElem?_cons_zero, List.getElem?_cons_succ, List.getElem?_nil, List.set_cons_zero, List.set_cons_succ, List.length_cons, List.length_nil, List.mapM_cons, List.mapM_nil, Option.pure_def, Option.getD_some, and_self, Bool.not_true, Bool.not_false, if_true, if_false, Bool.false_eq_true, Bool.true_eq_false, reduceIte, Nat.reduceAdd, Nat.reduceLT, Nat.reduceSub, vr1, vr0, opIdx, ix1, ix0, ix3, opCmp, opB, p1, p10, mut?, put, hg1, hg0, hs1, hs0, truthy, bAdd, bMul m1, md, hc, decide_false]
    exact ⟨_, _, _, rfl, by omega, (fm _).1, (fm _).2⟩
theorem draw_r (ha : 0 ≤ a) (hn : 0 ≤ n) (hn2 : n ≤ 1000000) (h0 : 0 ≤ m) (h1 : m < 2147483647) (hm : 0 < many) (hm2 : many < 1000000) : ∃ d a' e', evS C wr [.val (.ref 1), .val (.int many), x2, x3, x4] (hh rest cells a n m) = .ok (.ret (.int d) false) e' (hh rest cells a' n m) ∧ 0 ≤ a' ∧ 0 ≤ d ∧ d < many := by
  have hm0 : many ≠ 0 := by omega
  have fm : ∀ x : Int, 0 ≤ x.fmod many ∧ x.fmod many < many := fun x => ⟨Int.fmod_nonneg_of_pos x hm, Int.fmod_lt_of_pos x hm⟩
  have md : ∀ x : Int, opBin .mod (.int x) (.int many) = some (.int (x.fmod many), false) := fun x => bMod hm0
  have md2 : ∀ x : Int, opBin .mod (.int x) (.int 2147483629) = some (.int (x.fmod 2147483629), false) := fun x => bMod (by decide)
  have md3 : ∀ x : Int, opBin .mod (.int x) (.int 1000000007) = some (.int (x.fmod 1000000007), false) := fun x => bMod (by decide)
  have dv : opBin .fdiv (.int a) (.int many) = some (.int (a.fdiv many), false) := bDiv hm0 (by omega)
  unfold wr
  by_cases hc : 0 < a
  · simp only [evS, evA, evM, evT, evL, evR, evO, evI, Out.bind, Out.noex, lift, rd, v_non, v_bl, v_int, v_str, v_lst, v_tup, v_dic, esc, finish, mk, permute, bindT, bindTs, i_lst, i_tup, lo_lst, List.append_nil, Option.bind_some, Option.bind_none, Option.map_some, Option.map_none, Option.bind_eq_bind, List.getElem?_cons_zero, List.getElem?_cons_succ, List.getElem?_nil, List.set_cons_zero, List.set_cons_succ, List.length_cons, List.length_nil, List.mapM_cons, List.mapM_nil, Option.pure_def, Option.getD_some, and_self, Bool.not_true, Bool.not_false, if_true, if_false, Bool.false_eq_true, Bool.true_eq_false, reduceIte, Nat.reduceAdd, Nat.reduceLT, Nat.reduceSub, vr1, vr0, opIdx, ix1, ix0, ix3, opCmp, opB, mut?, put, hg1, hg0, hs1, hs0, truthy, md, dv, hc, decide_true]
    exact ⟨_, _, _, rfl, Int.fdiv_nonneg ha (by omega), (fm _).1, (fm _).2⟩
  · have mu1 : opBin .mul (.int 7919) (.int n) = some (.int (7919 * n), false) := bMul (mulOk_of _ _ (by decide) (Nat.lt_trans (show n.natAbs < 2147483647 by omega) (by decide)))
    have pw1 : opBin .pow (.int (m + 7919 * n + 104729)) (.int 5) = some (.int ((m + 7919 * n + 104729) ^ 5), false) := bPow (j := 5) (by omega) (by decide)
    generalize hmx : ((m + 7919 * n + 104729) ^ 5).fmod 2147483629 = mx at *
    have hx0 : 0 ≤ mx := by rw [← hmx]; exact Int.fmod_nonneg_of_pos _ (by decide)
    have hx1 : mx < 2147483629 := by rw [← hmx]; exact Int.fmod_lt_of_pos _ (by decide)
    have mu2 : opBin .mul (.int mx) (.int 48271) = some (.int (mx * 48271), false) := bMul (mulOk_of _ _ (Nat.lt_trans (show mx.natAbs < 2147483647 by omega) (by decide)) (by decide))
    have mu3 : opBin .mul (.int 30011) (.int n) = some (.int (30011 * n), false) := bMul (mulOk_of _ _ (by decide) (Nat.lt_trans (show n.natAbs < 2147483647 by omega) (by decide)))
    have pw2 : opBin .pow (.int (mx * 48271 + 30011 * n + 29)) (.int 3) = some (.int ((mx * 48271 + 30011 * n + 29) ^ 3), false) := bPow (j := 3) (by omega) (by decide)
    simp only [evS, evA, evM, evT, evL, evR, evO, evI, Out.bind, Out.noex, lift, rd, v_non, v_bl, v_int, v_str, v_lst, v_tup, v_dic, esc, finish, mk, permute, bindT, bindTs, i_lst, i_tup, lo_lst, List.append_nil, Option.bind_some, Option.bind_none, Option.map_some, Option.map_none, Option.bind_eq_bind, List.getElem?_cons_zero, List.getElem?_cons_succ, List.getElem?_nil, List.set_cons_zero, List.set_cons_succ, List.length_cons, List.length_nil, List.mapM_cons, List.mapM_nil, Option.pure_def, Option.getD_some, and_self, Bool.not_true, Bool.not_false, if_true, if_false, Bool.false_eq_true, Bool.true_eq_false, reduceIte, Nat.reduceAdd, Nat.reduceLT, Nat.reduceSub, vr1, vr0, opIdx, ix1, ix2, ix0, ix3, opCmp, opB, mut?, put, hg1, hg0, hs1, hs0, truthy, md, md2, md3, bAdd, mu1, pw1, hmx, mu2, mu3, pw2, hc, decide_false]
    exact ⟨_, _, _, rfl, ha, (fm _).1, (fm _).2⟩
end
theorem s_draw (k c : Nat) (h : Hs) (s : SI c rest h) (hc : c < 1000000) (many : Int) (hm : 0 < many) (hm2 : many < 1000000) : ∃ d h', callN G (k + 1) 14 [.ref 1, .int many] h = .ret (.int d) false h' ∧ SI (c + 1) rest h' ∧ 0 ≤ d ∧ d < many := by
  obtain ⟨cells, a, n, m, e, ha, hn, hnc, h0, h1, hl⟩ := s
  have e' : h = hh rest cells a n m := e
  subst e'
  rw [c__law_draw, draw_body]
  have w := whLoop_run (c := fun e h => evT (callN G k) wc e h) (b := fun e h => evS (callN G k) wb e h)
    (fun j e h => ∃ cells a m x2, j = cells.length ∧ cells.length ≤ 63 ∧ 0 ≤ a ∧ 0 ≤ m ∧ m < 2147483647 ∧ e = [.val (.ref 1), .val (.int many), x2, .no, .no] ∧ h = hh rest cells a (n + 1) m)
    (fun e h => ∃ cells a m x2, cells.length ≤ 63 ∧ 0 ≤ a ∧ 0 ≤ m ∧ m < 2147483647 ∧ e = [.val (.ref 1), .val (.int many), x2, .no, .no] ∧ h = hh rest cells a (n + 1) m)
    (fun j e h ⟨cells, a, m, x2, hj, hl, ha, h0, h1, he, hh'⟩ => by
      subst he; subst hh'
      rw [draw_c]
      cases cells with
      | nil => exact .inl ⟨_, _, by simp, [], a, m, x2, hl, ha, h0, h1, rfl, rfl⟩
      | cons c cs =>
        by_cases hz : a = 0
        · subst hz
          obtain ⟨y, a', m', q, q1, q2, q3⟩ := draw_b (callN G k) cs 0 (n + 1) m many x2 .no .no c h0 h1
          exact .inr ⟨_, _, _, _, cs.length, by simp, q, by rw [hj]; simp, cs, a', m', y, rfl, by simp at hl; omega, q1, q2, q3, rfl, rfl⟩
        · exact .inl ⟨_, _, by simp [hz], c :: cs, a, m, x2, hl, ha, h0, h1, rfl, rfl⟩)
    cells.length LF [.val (.ref 1), .val (.int many), .no, .no, .no] (hh rest cells a (n + 1) m) (by unfold LF; omega) ⟨cells, a, m, .no, rfl, hl, ha, h0, h1, rfl, rfl⟩
  obtain ⟨e1, h1', q, cells', a1, m1, x2, g1, g2, g3, g4, rfl, rfl⟩ := w
  obtain ⟨d, a2, e2, r, r1, r2, r3⟩ := draw_r (callN G k) cells' a1 (n + 1) m1 many x2 .no .no g2 (by omega) (by omega) g3 g4 hm hm2
  refine ⟨d, _, ?_, ⟨cells', a2, n + 1, m1, rfl, r1, by omega, by omega, g3, g4, g1⟩, r2, r3⟩
  rw [seq_next (draw_1 _ _ _ _ _ _ _ _ _), seq_next (by rw [evS_while]; exact q), r]
  rfl
end K03

namespace K03
open PL
open PySem (Str)
variable {rest : Hs}
theorem i1 : isAny "int" ["int"] = true := by decide
theorem i2 : isAny "int" ["bool"] = false := by decide
theorem i3 : isAny "list" ["list", "tuple"] = true := by decide
theorem i4 : isAny "tuple" ["list", "tuple"] = true := by decide
theorem i5 : isAny "str" ["str"] = true := by decide
theorem i6 : isAny "list" ["list"] = true := by decide
theorem i7 : isAny "tuple" ["list"] = false := by decide
theorem i8 : isAny "tuple" ["tuple"] = true := by decide
theorem i9 : isAny "list" ["tuple"] = false := by decide
theorem eqb (a b : Bool) : opEq (.bl a) (.bl b) = some (a == b) := by simp [opEq, okD, dep, eqv]
theorem s_is_list (k : Nat) (x : PV) (h : Hs) (n : String) (hn : typeName x = some n) : callN G (k + 1) 0 [x] h = .ret (.bl (isAny n ["list", "tuple"])) false h := by
  rw [c_is_list, b_is_list]
  cases x <;> simp [typeName] at hn <;> subst hn <;> simp only [evS, evA, evM, evT, evL, evR, evO, evI, Out.bind, Out.noex, lift, rd, v_non, v_bl, v_int, v_str, v_lst, v_tup, v_dic, esc, finish, mk, permute, bindT, bindTs, i_lst, i_tup, lo_lst, List.append_nil, Option.bind_some, Option.bind_none, Option.map_some, Option.map_none, Option.bind_eq_bind, List.getElem?_cons_zero, List.getElem?_cons_succ, List.getElem?_nil, List.set_cons_zero, List.set_cons_succ, List.length_cons, List.length_nil, List.mapM_cons, List.mapM_nil, Option.pure_def, Option.getD_some, and_self, Bool.not_true, Bool.not_false, if_true, if_false, Bool.false_eq_true, Bool.true_eq_false, reduceIte, Nat.reduceAdd, Nat.reduceLT, Nat.reduceSub, typeName]
def sq (s : Bool) (xs : List PV) : PV := if s then .lst xs else .tup xs
theorem sq_ty (s : Bool) (xs : List PV) : typeName (sq s xs) = some (if s then "list" else "tuple") := by cases s <;> rfl
theorem s_is_list_sq (k : Nat) (s : Bool) (xs : List PV) (h : Hs) : callN G (k + 1) 0 [sq s xs] h = .ret (.bl true) false h := by
  rw [s_is_list k _ h _ (sq_ty s xs)]; cases s <;> simp [i3, i4]
theorem s_is_whole_int (k : Nat) (x : Int) (h : Hs) : callN G (k + 1) 1 [.int x] h = .ret (.bl true) false h := by
  rw [c_is_whole, b_is_whole]
  simp only [evS, evA, evM, evT, evL, evR, evO, evI, Out.bind, Out.noex, lift, rd, v_non, v_bl, v_int, v_str, v_lst, v_tup, v_dic, esc, finish, mk, permute, bindT, bindTs, i_lst, i_tup, lo_lst, List.append_nil, Option.bind_some, Option.bind_none, Option.map_some, Option.map_none, Option.bind_eq_bind, List.getElem?_cons_zero, List.getElem?_cons_succ, List.getElem?_nil, List.set_cons_zero, List.set_cons_succ, List.length_cons, List.length_nil, List.mapM_cons, List.mapM_nil, Option.pure_def, Option.getD_some, and_self, Bool.not_true, Bool.not_false, if_true, if_false, Bool.false_eq_true, Bool.true_eq_false, reduceIte, Nat.reduceAdd, Nat.reduceLT, Nat.reduceSub, typeName, i1, truthy, i2, Bool.not_false]
theorem len_sq (s : Bool) (xs : List PV) : opB .len [sq s xs] = some (.int xs.length, false) := by cases s <;> rfl
theorem view_sq (h : Hs) (s : Bool) (xs : List PV) : view h (sq s xs) = sq s xs := by cases s <;> rfl
theorem items_sq (h : Hs) (s : Bool) (xs : List PV) : seqOf h (sq s xs) = some (xs, []) := by cases s <;> rfl
theorem idx_sq (s : Bool) (xs : List PV) (i : Int) : opIdx (sq s xs) (.int i) = (PL.ixN xs.length i).bind fun j => xs[j]? := by cases s <;> rfl
theorem tup_sq (s : Bool) (xs : List PV) : opB .tuple [sq s xs] = some (.tup xs, false) := by cases s <;> rfl
theorem lst_sq (s : Bool) (xs : List PV) : opB .list [sq s xs] = some (.lst xs, true) := by cases s <;> rfl
theorem s_is_row (k : Nat) (s : Bool) (xs : List PV) (m : Int) (h : Hs) : callN G (k + 2) 2 [sq s xs, .int m] h = .ret (.bl ((xs.length : Int) == m)) false h := by
  rw [c_is_row, b_is_row]
  simp only [evS, evA, evM, evT, evL, evR, evO, evI, Out.bind, Out.noex, lift, rd, v_non, v_bl, v_int, v_str, v_lst, v_tup, v_dic, esc, finish, mk, permute, bindT, bindTs, i_lst, i_tup, lo_lst, List.append_nil, Option.bind_some, Option.bind_none, Option.map_some, Option.map_none, Option.bind_eq_bind, List.getElem?_cons_zero, List.getElem?_cons_succ, List.getElem?_nil, List.set_cons_zero, List.set_cons_succ, List.length_cons, List.length_nil, List.mapM_cons, List.mapM_nil, Option.pure_def, Option.getD_some, and_self, Bool.not_true, Bool.not_false, if_true, if_false, Bool.false_eq_true, Bool.true_eq_false, reduceIte, Nat.reduceAdd, Nat.reduceLT, Nat.reduceSub, s_is_list_sq, truthy, view_sq, len_sq, opCmp, eqi]
theorem s_check_many (k : Nat) (m : Int) (hm : 1 ≤ m) (h : Hs) : callN G (k + 2) 3 [.int m] h = .ret .non false h := by
  rw [c_check_many, b_check_many]
  simp only [evS, evA, evM, evT, evL, evR, evO, evI, Out.bind, Out.noex, lift, rd, v_non, v_bl, v_int, v_str, v_lst, v_tup, v_dic, esc, finish, mk, permute, bindT, bindTs, i_lst, i_tup, lo_lst, List.append_nil, Option.bind_some, Option.bind_none, Option.map_some, Option.map_none, Option.bind_eq_bind, List.getElem?_cons_zero, List.getElem?_cons_succ, List.getElem?_nil, List.set_cons_zero, List.set_cons_succ, List.length_cons, List.length_nil, List.mapM_cons, List.mapM_nil, Option.pure_def, Option.getD_some, and_self, Bool.not_true, Bool.not_false, if_true, if_false, Bool.false_eq_true, Bool.true_eq_false, reduceIte, Nat.reduceAdd, Nat.reduceLT, Nat.reduceSub, s_is_whole_int, truthy, opCmp, Bool.not_true, show ¬ m < 1 by omega, decide_false]
theorem allBools_map {α : Type} (l : List α) (f : α → Bool) : allBools (l.map fun x => .bl (f x)) = some (l.map f) := by
  induction l with
  | nil => rfl
  | cons a l ih => simp [allBools, ih]
theorem allInts_map {α : Type} (l : List α) (f : α → Int) : allInts (l.map fun x => .int (f x)) = some (l.map f) := by
  induction l with
  | nil => rfl
  | cons a l ih => simp [allInts, ih]
theorem all_map {α : Type} (l : List α) (f : α → Bool) : opB .all [.lst (l.map fun x => .bl (f x))] = some (.bl (l.all f), false) := by
  simp [opB, allBools_map, List.all_map, Function.comp_def]
theorem s_kept_numbers (k : Nat) (s : Bool) (xs : List Int) (m : Int) (h : Hs) (hm : (xs.length : Int) = m) (hl : xs.length ≤ line) : callN G (k + 3) 4 [.int m, sq s (xs.map .int)] h = .ret (.tup (xs.map .int)) false h := by
  have lc := lc_map (gd := []) (C := callN G (k + 2)) (own := [2, 3]) (tg := .nm 3) (it := .iseq (.var 1)) (body := .one (.call 1 [] (.cons (.var 3) .nil))) (e := [.val (.int m), .val (sq s (xs.map .int)), .no, .no]) (e1 := [.val (.int m), .val (sq s (xs.map .int)), .no, .no]) (h := h) (h1 := h) (xs := xs.map .int)
    (by simp only [evS, evA, evM, evT, evL, evR, evO, evI, Out.bind, Out.noex, lift, rd, v_non, v_bl, v_int, v_str, v_lst, v_tup, v_dic, esc, finish, mk, permute, bindT, bindTs, i_lst, i_tup, lo_lst, List.append_nil, Option.bind_some, Option.bind_none, Option.map_some, Option.map_none, Option.bind_eq_bind, List.getElem?_cons_zero, List.getElem?_cons_succ, List.getElem?_nil, List.set_cons_zero, List.set_cons_succ, List.length_cons, List.length_nil, List.mapM_cons, List.mapM_nil, Option.pure_def, Option.getD_some, and_self, Bool.not_true, Bool.not_false, if_true, if_false, Bool.false_eq_true, Bool.true_eq_false, reduceIte, Nat.reduceAdd, Nat.reduceLT, Nat.reduceSub, items_sq]) rfl (fun _ => .bl true) [.val (.int m), .val (sq s (xs.map .int)), .no, .no] rfl (by simpa using hl) (fun x hx => by
      obtain ⟨y, _, rfl⟩ := List.mem_map.mp hx
      refine ⟨[.val (.int m), .val (sq s (xs.map .int)), .no, .val (.int y)], ?_, rfl⟩
      rw [lcStep_nil (e' := [.val (.int m), .val (sq s (xs.map .int)), .no, .val (.int y)]) rfl]
      simp only [evS, evA, evM, evT, evL, evR, evO, evI, Out.bind, Out.noex, lift, rd, v_non, v_bl, v_int, v_str, v_lst, v_tup, v_dic, esc, finish, mk, permute, bindT, bindTs, i_lst, i_tup, lo_lst, List.append_nil, Option.bind_some, Option.bind_none, Option.map_some, Option.map_none, Option.bind_eq_bind, List.getElem?_cons_zero, List.getElem?_cons_succ, List.getElem?_nil, List.set_cons_zero, List.set_cons_succ, List.length_cons, List.length_nil, List.mapM_cons, List.mapM_nil, Option.pure_def, Option.getD_some, and_self, Bool.not_true, Bool.not_false, if_true, if_false, Bool.false_eq_true, Bool.true_eq_false, reduceIte, Nat.reduceAdd, Nat.reduceLT, Nat.reduceSub, s_is_whole_int])
  have hz : opB .all [.lst ((xs.map PV.int).map fun _ => PV.bl true)] = some (.bl true, false) := by
    rw [List.map_map]
    have := all_map xs fun _ => true
    simp only [Function.comp_def] at this ⊢
    rw [this]; simp
  rw [c_kept_numbers, b_kept_numbers]
  simp only [backE, frzAt, frzS, List.getD_cons_zero, List.getD_cons_succ, List.set_cons_zero, List.set_cons_succ] at lc
  simp only [evS, evA, evM, evT, evL, evR, evO, evI, Out.bind, Out.noex, lift, rd, v_non, v_bl, v_int, v_str, v_lst, v_tup, v_dic, esc, finish, mk, permute, bindT, bindTs, i_lst, i_tup, lo_lst, List.append_nil, Option.bind_some, Option.bind_none, Option.map_some, Option.map_none, Option.bind_eq_bind, List.getElem?_cons_zero, List.getElem?_cons_succ, List.getElem?_nil, List.set_cons_zero, List.set_cons_succ, List.length_cons, List.length_nil, List.mapM_cons, List.mapM_nil, Option.pure_def, Option.getD_some, and_self, Bool.not_true, Bool.not_false, if_true, if_false, Bool.false_eq_true, Bool.true_eq_false, reduceIte, Nat.reduceAdd, Nat.reduceLT, Nat.reduceSub, s_is_row, truthy, view_sq, items_sq, List.length_map, hm, beq_self_eq_true, Bool.not_true, lc, hz, tup_sq]
end K03

namespace K03
open PL
open PySem (Str)
variable {rest : Hs}
structure Rw where
  ns : List Int
  eq : Bool
  b : Int
def wd (e : Bool) : Str := if e then "=" else ">="
def pvR (s t : Bool) (r : Rw) : PV := sq s [sq t (r.ns.map .int), .str (wd r.eq), .int r.b]
theorem str_ne : ((">=" : Str) == "=") = false := by decide +kernel
theorem str_ok1 : okD (.str "=") = true := by decide +kernel
theorem str_ok2 : okD (.str ">=") = true := by decide +kernel
theorem wd_ok (e : Bool) : okD (.str (wd e)) = true := by cases e <;> decide +kernel
theorem wd_eq (e : Bool) : opEq (.str (wd e)) (.str "=") = some e := by
  cases e <;> decide +kernel
theorem wd_ge (e : Bool) : opEq (.str (wd e)) (.str ">=") = some (!e) := by
  cases e <;> decide +kernel
theorem wd_in (e : Bool) : opIn (.str (wd e)) [.str "=", .str ">="] = some true := by
  cases e <;> decide +kernel
theorem r3_0 (x y z : PV) : ((PL.ixN [x, y, z].length 0).bind fun j => [x, y, z][j]?) = some x := rfl
theorem r3_1 (x y z : PV) : ((PL.ixN [x, y, z].length 1).bind fun j => [x, y, z][j]?) = some y := rfl
theorem r3_2 (x y z : PV) : ((PL.ixN [x, y, z].length 2).bind fun j => [x, y, z][j]?) = some z := rfl
theorem p0 (s t : Bool) (r : Rw) : opIdx (pvR s t r) (.int 0) = some (sq t (r.ns.map .int)) := by cases s <;> rfl
theorem p1 (s t : Bool) (r : Rw) : opIdx (pvR s t r) (.int 1) = some (.str (wd r.eq)) := by cases s <;> rfl
theorem p2 (s t : Bool) (r : Rw) : opIdx (pvR s t r) (.int 2) = some (.int r.b) := by cases s <;> rfl
theorem view_R (h : Hs) (s t : Bool) (r : Rw) : view h (pvR s t r) = pvR s t r := by cases s <;> rfl
theorem row_R (k : Nat) (s t : Bool) (r : Rw) (h : Hs) : callN G (k + 2) 2 [pvR s t r, .int 3] h = .ret (.bl true) false h := s_is_row k s _ 3 h
theorem s_kept_line (k : Nat) (s t : Bool) (r : Rw) (m : Int) (h : Hs) (hm : (r.ns.length : Int) = m) (hl : r.ns.length ≤ line) : callN G (k + 4) 5 [.int m, pvR s t r] h = .ret (pvR false false r) false h := by
  rw [c_kept_line, b_kept_line]
  simp only [evS, evA, evM, evT, evL, evR, evO, evI, Out.bind, Out.noex, lift, rd, v_non, v_bl, v_int, v_str, v_lst, v_tup, v_dic, esc, finish, mk, permute, bindT, bindTs, i_lst, i_tup, lo_lst, List.append_nil, Option.bind_some, Option.bind_none, Option.map_some, Option.map_none, Option.bind_eq_bind, List.getElem?_cons_zero, List.getElem?_cons_succ, List.getElem?_nil, List.set_cons_zero, List.set_cons_succ, List.length_cons, List.length_nil, List.mapM_cons, List.mapM_nil, Option.pure_def, Option.getD_some, and_self, Bool.not_true, Bool.not_false, if_true, if_false, Bool.false_eq_true, Bool.true_eq_false, reduceIte, Nat.reduceAdd, Nat.reduceLT, Nat.reduceSub, row_R (k + 1), truthy, view_R, view_sq, p0, p1, p2, s_is_whole_int (k + 2), typeName, i5, Bool.not_true, s_kept_numbers k _ _ _ _ hm hl, opCmp, wd_in, Option.map]
  rfl
theorem okDs_int (l : List Int) : okDs (l.map .int) = true ∧ deps (l.map .int) = 0 := eqs_int l
theorem okD_R (r : Rw) : okD (pvR false false r) = true := by
  show okDs [sq false (r.ns.map .int), .str (wd r.eq), .int r.b] = true
  simp [okDs, sq, okD, okDs_int]
  have := wd_ok r.eq
  simpa [okD] using this
theorem okDs_R : ∀ l : List Rw, okDs (l.map (pvR false false)) = true
  | [] => rfl
  | r :: l => by simp [okDs, okD_R, okDs_R l]
end K03

namespace K03
open PL
open PySem (Str)
variable {rest : Hs}
def val (ns ps : List Int) : Int := ((ns.zip ps).map fun z => z.1 * z.2).sum
def Sml (l : List Int) : Prop := ∀ x ∈ l, x.natAbs < 2 ^ 200
def rh (p : List Int) (r : Rw) : Bool := if r.eq then val r.ns p == r.b else decide (r.b ≤ val r.ns p)
theorem zip_int (ns ps : List Int) : zipItems (ns.map .int) (ps.map .int) = (ns.zip ps).map fun z => PV.tup [.int z.1, .int z.2] := by
  unfold zipItems
  rw [List.zip_map, List.map_map]
  rfl
theorem zip_len (ns ps : List Int) (hl : ns.length ≤ line) : ((ns.zip ps).map fun z => PV.tup [.int z.1, .int z.2]).length ≤ line := by
  simp; omega
def mulG : PV → PV := fun p => match p with | .tup [.int a, .int b] => .int (a * b) | _ => .non
theorem mulG_map (ns ps : List Int) : ((ns.zip ps).map fun z => PV.tup [.int z.1, .int z.2]).map mulG = (ns.zip ps).map fun z => PV.int (z.1 * z.2) := by
  rw [List.map_map]; rfl
theorem sum_ints (l : List (Int × Int)) : opB .sum [.lst (l.map fun z => PV.int (z.1 * z.2))] = some (.int ((l.map fun z => z.1 * z.2).sum), false) := by
  simp [opB, allInts_map]
theorem sml_zip {ns ps : List Int} (h1 : Sml ns) (h2 : Sml ps) : ∀ z ∈ ns.zip ps, z.1.natAbs < 2 ^ 200 ∧ z.2.natAbs < 2 ^ 200 := fun z hz => ⟨h1 _ (List.of_mem_zip (a := z.1) (b := z.2) hz).1, h2 _ (List.of_mem_zip (a := z.1) (b := z.2) hz).2⟩
theorem s_law_value (k : Nat) (ns ps : List Int) (h : Hs) (hl : ns.length ≤ line) (h1 : Sml ns) (h2 : Sml ps) : callN G (k + 1) 21 [.lst (ns.map .int), .lst (ps.map .int)] h = .ret (.int (val ns ps)) false h := by
  let E0 : Env := [.val (.lst (ns.map .int)), .val (.lst (ps.map .int)), .no, .no, .no]
  have lc := lc_map (gd := []) (C := callN G k) (own := [2, 3, 4]) (tg := .tp (.cons (.nm 3) (.cons (.nm 4) .nil))) (it := .izip (.var 0) (.var 1)) (body := .one (.bcall .int (.cons (.bin .mul (.var 3) (.var 4)) .nil))) (e := E0) (e1 := E0) (h := h) (h1 := h) (xs := (ns.zip ps).map fun z => PV.tup [.int z.1, .int z.2])
    (by simp only [evS, evA, evM, evT, evL, evR, evO, evI, Out.bind, Out.noex, lift, rd, v_non, v_bl, v_int, v_str, v_lst, v_tup, v_dic, esc, finish, mk, permute, bindT, bindTs, i_lst, i_tup, lo_lst, List.append_nil, Option.bind_some, Option.bind_none, Option.map_some, Option.map_none, Option.bind_eq_bind, List.getElem?_cons_zero, List.getElem?_cons_succ, List.getElem?_nil, List.set_cons_zero, List.set_cons_succ, List.length_cons, List.length_nil, List.mapM_cons, List.mapM_nil, Option.pure_def, Option.getD_some, and_self, Bool.not_true, Bool.not_false, if_true, if_false, Bool.false_eq_true, Bool.true_eq_false, reduceIte, Nat.reduceAdd, Nat.reduceLT, Nat.reduceSub, E0, zip_int]) rfl mulG E0 rfl (zip_len ns ps hl) (fun p hp => by
      obtain ⟨z, hz, rfl⟩ := List.mem_map.mp hp
      have hs := sml_zip h1 h2 z hz
      refine ⟨[.val (.lst (ns.map .int)), .val (.lst (ps.map .int)), .no, .val (.int z.1), .val (.int z.2)], ?_, rfl⟩
      rw [lcStep_nil (e' := [.val (.lst (ns.map .int)), .val (.lst (ps.map .int)), .no, .val (.int z.1), .val (.int z.2)]) rfl]
      simp only [evS, evA, evM, evT, evL, evR, evO, evI, Out.bind, Out.noex, lift, rd, v_non, v_bl, v_int, v_str, v_lst, v_tup, v_dic, esc, finish, mk, permute, bindT, bindTs, i_lst, i_tup, lo_lst, List.append_nil, Option.bind_some, Option.bind_none, Option.map_some, Option.map_none, Option.bind_eq_bind, List.getElem?_cons_zero, List.getElem?_cons_succ, List.getElem?_nil, List.set_cons_zero, List.set_cons_succ, List.length_cons, List.length_nil, List.mapM_cons, List.mapM_nil, Option.pure_def, Option.getD_some, and_self, Bool.not_true, Bool.not_false, if_true, if_false, Bool.false_eq_true, Bool.true_eq_false, reduceIte, Nat.reduceAdd, Nat.reduceLT, Nat.reduceSub, bMul (mulOk_of _ _ hs.1 hs.2), mulG, opB])
  rw [mulG_map] at lc
  simp only [backE, frzAt, frzS, E0, List.getD_cons_zero, List.getD_cons_succ, List.set_cons_zero, List.set_cons_succ] at lc
  rw [c__law_value, b__law_value]
  simp only [evS, evA, evM, evT, evL, evR, evO, evI, Out.bind, Out.noex, lift, rd, v_non, v_bl, v_int, v_str, v_lst, v_tup, v_dic, esc, finish, mk, permute, bindT, bindTs, i_lst, i_tup, lo_lst, List.append_nil, Option.bind_some, Option.bind_none, Option.map_some, Option.map_none, Option.bind_eq_bind, List.getElem?_cons_zero, List.getElem?_cons_succ, List.getElem?_nil, List.set_cons_zero, List.set_cons_succ, List.length_cons, List.length_nil, List.mapM_cons, List.mapM_nil, Option.pure_def, Option.getD_some, and_self, Bool.not_true, Bool.not_false, if_true, if_false, Bool.false_eq_true, Bool.true_eq_false, reduceIte, Nat.reduceAdd, Nat.reduceLT, Nat.reduceSub, lc, sum_ints, val]
theorem s_law_row_holds (k : Nat) (r : Rw) (ps : List Int) (h : Hs) (hl : r.ns.length ≤ line) (h1 : Sml r.ns) (h2 : Sml ps) : callN G (k + 2) 22 [pvR false true r, .lst (ps.map .int)] h = .ret (.bl (rh ps r)) false h := by
  rw [c__law_row_holds, b__law_row_holds]
  have q0 : opIdx (pvR false true r) (.int 0) = some (.lst (r.ns.map .int)) := rfl
  simp only [evS, evA, evM, evT, evL, evR, evO, evI, Out.bind, Out.noex, lift, rd, v_non, v_bl, v_int, v_str, v_lst, v_tup, v_dic, esc, finish, mk, permute, bindT, bindTs, i_lst, i_tup, lo_lst, List.append_nil, Option.bind_some, Option.bind_none, Option.map_some, Option.map_none, Option.bind_eq_bind, List.getElem?_cons_zero, List.getElem?_cons_succ, List.getElem?_nil, List.set_cons_zero, List.set_cons_succ, List.length_cons, List.length_nil, List.mapM_cons, List.mapM_nil, Option.pure_def, Option.getD_some, and_self, Bool.not_true, Bool.not_false, if_true, if_false, Bool.false_eq_true, Bool.true_eq_false, reduceIte, Nat.reduceAdd, Nat.reduceLT, Nat.reduceSub, view_R, q0, p1, p2, s_law_value k _ _ _ hl h1 h2, opCmp, wd_eq, truthy, eqi]
  cases hq : r.eq <;> simp [rh, hq]
theorem line100 : 100 ≤ line := by decide
end K03

namespace K03
open PL
open PySem (Str)
variable {rest : Hs}
def Dat : Nat → PV → Prop
  | _, .int _ => True
  | _, .bl _ => True
  | _, .non => True
  | _, .str s => okD (.str s) = true
  | d + 1, .lst xs => xs.length ≤ line ∧ ∀ x ∈ xs, Dat d x
  | d + 1, .tup xs => xs.length ≤ line ∧ ∀ x ∈ xs, Dat d x
  | _, _ => False
theorem y1 : isAny "int" ["list", "tuple"] = false := by decide
theorem y2 : isAny "bool" ["list", "tuple"] = false := by decide
theorem y3 : isAny "NoneType" ["list", "tuple"] = false := by decide
theorem y4 : isAny "str" ["list", "tuple"] = false := by decide
theorem y5 : isAny "int" ["dict"] = false := by decide
theorem y6 : isAny "bool" ["dict"] = false := by decide
theorem y7 : isAny "NoneType" ["dict"] = false := by decide
theorem y8 : isAny "str" ["dict"] = false := by decide
theorem y9 : isAny "bool" ["bool"] = true := by decide
theorem y10 : isAny "NoneType" ["bool"] = false := by decide
theorem y11 : isAny "str" ["bool"] = false := by decide
theorem y12 : isAny "str" ["int"] = false := by decide
theorem y13 : isAny "int" ["str"] = false := by decide
theorem y14 : isAny "int" ["list", "tuple", "dict"] = false := by decide
theorem y15 : isAny "str" ["list", "tuple", "dict"] = false := by decide
theorem y16 : isAny "list" ["dict"] = false := by decide
theorem y17 : isAny "tuple" ["dict"] = false := by decide
theorem y18 : isAny "int" ["tuple"] = false := by decide
theorem y19 : isAny "bool" ["tuple"] = false := by decide
theorem y20 : isAny "NoneType" ["tuple"] = false := by decide
theorem y21 : isAny "str" ["tuple"] = false := by decide
theorem eqs_self (s : Str) (h : okD (.str s) = true) : opEq (.str s) (.str s) = some true := by
  unfold opEq; rw [if_pos ⟨h, h, by simp [dep]⟩]; simp [eqv]
theorem zip_self (xs : List PV) : zipItems xs xs = xs.map fun x => .tup [x, x] := by
  unfold zipItems
  induction xs with
  | nil => rfl
  | cons x xs ih => simp at ih ⊢; exact ih
theorem all_true (n : Nat) : opB .all [.lst (List.replicate n (.bl true))] = some (.bl true, false) := by
  have := all_map (List.replicate n ()) fun _ => true
  simpa using this
theorem nne (b : Bool) : (Option.map (fun x => !x) (some (b == b))) = some false := by simp
theorem s_same : ∀ (d : Nat) (x : PV) (k : Nat) (h : Hs), Dat d x → callN G (k + d + 1) 16 [x, x] h = .ret (.bl true) false h := by
  intro d
  induction d with
  | zero =>
    intro x k h hd
    rw [c__law_same, b__law_same]
    cases x with
    | int i => simp only [evS, evA, evM, evT, evL, evR, evO, evI, Out.bind, Out.noex, lift, rd, v_non, v_bl, v_int, v_str, v_lst, v_tup, v_dic, esc, finish, mk, permute, i_lst, i_tup, lo_lst, List.append_nil, Option.bind_some, Option.bind_none, Option.map_some, Option.map_none, Option.bind_eq_bind, List.getElem?_cons_zero, List.getElem?_cons_succ, List.getElem?_nil, List.set_cons_zero, List.set_cons_succ, List.length_cons, List.length_nil, List.mapM_cons, List.mapM_nil, Option.pure_def, Option.getD_some, and_self, Bool.not_true, Bool.not_false, if_true, if_false, Bool.false_eq_true, Bool.true_eq_false, reduceIte, Nat.reduceAdd, Nat.reduceLT, Nat.reduceSub, typeName, y1, y5, i2, i1, y13, y14, truthy, opCmp, eqb, eqi, nne, beq_self_eq_true]
    | bl b => simp only [evS, evA, evM, evT, evL, evR, evO, evI, Out.bind, Out.noex, lift, rd, v_non, v_bl, v_int, v_str, v_lst, v_tup, v_dic, esc, finish, mk, permute, i_lst, i_tup, lo_lst, List.append_nil, Option.bind_some, Option.bind_none, Option.map_some, Option.map_none, Option.bind_eq_bind, List.getElem?_cons_zero, List.getElem?_cons_succ, List.getElem?_nil, List.set_cons_zero, List.set_cons_succ, List.length_cons, List.length_nil, List.mapM_cons, List.mapM_nil, Option.pure_def, Option.getD_some, and_self, Bool.not_true, Bool.not_false, if_true, if_false, Bool.false_eq_true, Bool.true_eq_false, reduceIte, Nat.reduceAdd, Nat.reduceLT, Nat.reduceSub, typeName, y2, y6, y9, truthy, opCmp, eqb, beq_self_eq_true]
    | non => simp only [evS, evA, evM, evT, evL, evR, evO, evI, Out.bind, Out.noex, lift, rd, v_non, v_bl, v_int, v_str, v_lst, v_tup, v_dic, esc, finish, mk, permute, i_lst, i_tup, lo_lst, List.append_nil, Option.bind_some, Option.bind_none, Option.map_some, Option.map_none, Option.bind_eq_bind, List.getElem?_cons_zero, List.getElem?_cons_succ, List.getElem?_nil, List.set_cons_zero, List.set_cons_succ, List.length_cons, List.length_nil, List.mapM_cons, List.mapM_nil, Option.pure_def, Option.getD_some, and_self, Bool.not_true, Bool.not_false, if_true, if_false, Bool.false_eq_true, Bool.true_eq_false, reduceIte, Nat.reduceAdd, Nat.reduceLT, Nat.reduceSub, typeName, y3, y7, y10, truthy, opCmp]
    | str s => simp only [evS, evA, evM, evT, evL, evR, evO, evI, Out.bind, Out.noex, lift, rd, v_non, v_bl, v_int, v_str, v_lst, v_tup, v_dic, esc, finish, mk, permute, i_lst, i_tup, lo_lst, List.append_nil, Option.bind_some, Option.bind_none, Option.map_some, Option.map_none, Option.bind_eq_bind, List.getElem?_cons_zero, List.getElem?_cons_succ, List.getElem?_nil, List.set_cons_zero, List.set_cons_succ, List.length_cons, List.length_nil, List.mapM_cons, List.mapM_nil, Option.pure_def, Option.getD_some, and_self, Bool.not_true, Bool.not_false, if_true, if_false, Bool.false_eq_true, Bool.true_eq_false, reduceIte, Nat.reduceAdd, Nat.reduceLT, Nat.reduceSub, typeName, y4, y8, y11, y12, i5, y15, truthy, opCmp, eqb, nne, eqs_self s hd, beq_self_eq_true]
    | _ => exact hd.elim
  | succ d ih =>
    intro x k h hd
    have com : ∀ (xs : List PV) (s : Bool), xs.length ≤ line → (∀ y ∈ xs, Dat d y) → evA (callN G (k + d + 1)) (.lc [2, 3, 4] (.tp (.cons (.nm 3) (.cons (.nm 4) .nil))) (.izip (.var 0) (.var 1)) .nil (.one (.call 16 [] (.cons (.var 3) (.cons (.var 4) .nil))))) [.val (sq s xs), .val (sq s xs), .no, .no, .no] h
        = .ok (.v (.lst (List.replicate xs.length (.bl true))) true) [.val (sq s xs), .val (sq s xs), .no, .no, .no] h := fun xs s hl hx => by
      have lc := lc_map (gd := []) (C := callN G (k + d + 1)) (own := [2, 3, 4]) (tg := .tp (.cons (.nm 3) (.cons (.nm 4) .nil))) (it := .izip (.var 0) (.var 1)) (body := .one (.call 16 [] (.cons (.var 3) (.cons (.var 4) .nil)))) (e := [.val (sq s xs), .val (sq s xs), .no, .no, .no]) (e1 := [.val (sq s xs), .val (sq s xs), .no, .no, .no]) (h := h) (h1 := h) (xs := xs.map fun x => .tup [x, x])
        (by cases s <;> simp only [evS, evA, evM, evT, evL, evR, evO, evI, Out.bind, Out.noex, lift, rd, v_non, v_bl, v_int, v_str, v_lst, v_tup, v_dic, esc, finish, mk, permute, bindT, bindTs, i_lst, i_tup, lo_lst, List.append_nil, Option.bind_some, Option.bind_none, Option.map_some, Option.map_none, Option.bind_eq_bind, List.getElem?_cons_zero, List.getElem?_cons_succ, List.getElem?_nil, List.set_cons_zero, List.set_cons_succ, List.length_cons, List.length_nil, List.mapM_cons, List.mapM_nil, Option.pure_def, Option.getD_some, and_self, Bool.not_true, Bool.not_false, if_true, if_false, Bool.false_eq_true, Bool.true_eq_false, reduceIte, Nat.reduceAdd, Nat.reduceLT, Nat.reduceSub, sq, zip_self]) rfl (fun _ => .bl true) [.val (sq s xs), .val (sq s xs), .no, .no, .no] rfl (by simpa using hl) (fun p hp => by
          obtain ⟨y, hy, rfl⟩ := List.mem_map.mp hp
          refine ⟨[.val (sq s xs), .val (sq s xs), .no, .val y, .val y], ?_, rfl⟩
          rw [lcStep_nil (e' := [.val (sq s xs), .val (sq s xs), .no, .val y, .val y]) rfl]
          simp only [evS, evA, evM, evT, evL, evR, evO, evI, Out.bind, Out.noex, lift, rd, v_non, v_bl, v_int, v_str, v_lst, v_tup, v_dic, esc, finish, mk, permute, bindT, bindTs, i_lst, i_tup, lo_lst, List.append_nil, Option.bind_some, Option.bind_none, Option.map_some, Option.map_none, Option.bind_eq_bind, List.getElem?_cons_zero, List.getElem?_cons_succ, List.getElem?_nil, List.set_cons_zero, List.set_cons_succ, List.length_cons, List.length_nil, List.mapM_cons, List.mapM_nil, Option.pure_def, Option.getD_some, and_self, Bool.not_true, Bool.not_false, if_true, if_false, Bool.false_eq_true, Bool.true_eq_false, reduceIte, Nat.reduceAdd, Nat.reduceLT, Nat.reduceSub, ih y k h (hx y hy)])
      rw [lc, List.map_map]
      have hm : xs.map ((fun _ => PV.bl true) ∘ fun x => PV.tup [x, x]) = List.replicate xs.length (.bl true) := by simp only [Function.comp_def]; exact List.map_const' ..
      rw [hm]
      rfl
    show callN G ((k + d + 1) + 1) 16 [x, x] h = _
    rw [c__law_same, b__law_same]
    cases x with
    | int i => simp only [evS, evA, evM, evT, evL, evR, evO, evI, Out.bind, Out.noex, lift, rd, v_non, v_bl, v_int, v_str, v_lst, v_tup, v_dic, esc, finish, mk, permute, i_lst, i_tup, lo_lst, List.append_nil, Option.bind_some, Option.bind_none, Option.map_some, Option.map_none, Option.bind_eq_bind, List.getElem?_cons_zero, List.getElem?_cons_succ, List.getElem?_nil, List.set_cons_zero, List.set_cons_succ, List.length_cons, List.length_nil, List.mapM_cons, List.mapM_nil, Option.pure_def, Option.getD_some, and_self, Bool.not_true, Bool.not_false, if_true, if_false, Bool.false_eq_true, Bool.true_eq_false, reduceIte, Nat.reduceAdd, Nat.reduceLT, Nat.reduceSub, typeName, y1, y5, i2, i1, y13, y14, truthy, opCmp, eqb, eqi, nne, beq_self_eq_true]
    | bl b => simp only [evS, evA, evM, evT, evL, evR, evO, evI, Out.bind, Out.noex, lift, rd, v_non, v_bl, v_int, v_str, v_lst, v_tup, v_dic, esc, finish, mk, permute, i_lst, i_tup, lo_lst, List.append_nil, Option.bind_some, Option.bind_none, Option.map_some, Option.map_none, Option.bind_eq_bind, List.getElem?_cons_zero, List.getElem?_cons_succ, List.getElem?_nil, List.set_cons_zero, List.set_cons_succ, List.length_cons, List.length_nil, List.mapM_cons, List.mapM_nil, Option.pure_def, Option.getD_some, and_self, Bool.not_true, Bool.not_false, if_true, if_false, Bool.false_eq_true, Bool.true_eq_false, reduceIte, Nat.reduceAdd, Nat.reduceLT, Nat.reduceSub, typeName, y2, y6, y9, truthy, opCmp, eqb, beq_self_eq_true]
    | non => simp only [evS, evA, evM, evT, evL, evR, evO, evI, Out.bind, Out.noex, lift, rd, v_non, v_bl, v_int, v_str, v_lst, v_tup, v_dic, esc, finish, mk, permute, i_lst, i_tup, lo_lst, List.append_nil, Option.bind_some, Option.bind_none, Option.map_some, Option.map_none, Option.bind_eq_bind, List.getElem?_cons_zero, List.getElem?_cons_succ, List.getElem?_nil, List.set_cons_zero, List.set_cons_succ, List.length_cons, List.length_nil, List.mapM_cons, List.mapM_nil, Option.pure_def, Option.getD_some, and_self, Bool.not_true, Bool.not_false, if_true, if_false, Bool.false_eq_true, Bool.true_eq_false, reduceIte, Nat.reduceAdd, Nat.reduceLT, Nat.reduceSub, typeName, y3, y7, y10, truthy, opCmp]
    | str s => simp only [evS, evA, evM, evT, evL, evR, evO, evI, Out.bind, Out.noex, lift, rd, v_non, v_bl, v_int, v_str, v_lst, v_tup, v_dic, esc, finish, mk, permute, i_lst, i_tup, lo_lst, List.append_nil, Option.bind_some, Option.bind_none, Option.map_some, Option.map_none, Option.bind_eq_bind, List.getElem?_cons_zero, List.getElem?_cons_succ, List.getElem?_nil, List.set_cons_zero, List.set_cons_succ, List.length_cons, List.length_nil, List.mapM_cons, List.mapM_nil, Option.pure_def, Option.getD_some, and_self, Bool.not_true, Bool.not_false, if_true, if_false, Bool.false_eq_true, Bool.true_eq_false, reduceIte, Nat.reduceAdd, Nat.reduceLT, Nat.reduceSub, typeName, y4, y8, y11, y12, i5, y15, truthy, opCmp, eqb, nne, eqs_self s hd, beq_self_eq_true]
    | lst xs =>
      have lc := com xs true hd.1 hd.2
      simp only [sq, if_true] at lc
      have ol : opB .len [.lst xs] = some (.int xs.length, false) := rfl
      simp only [evS, evA, evM, evT, evL, evR, evO, evI, Out.bind, Out.noex, lift, rd, v_non, v_bl, v_int, v_str, v_lst, v_tup, v_dic, esc, finish, mk, permute, i_lst, i_tup, lo_lst, List.append_nil, Option.bind_some, Option.bind_none, Option.map_some, Option.map_none, Option.bind_eq_bind, List.getElem?_cons_zero, List.getElem?_cons_succ, List.getElem?_nil, List.set_cons_zero, List.set_cons_succ, List.length_cons, List.length_nil, List.mapM_cons, List.mapM_nil, Option.pure_def, Option.getD_some, and_self, Bool.not_true, Bool.not_false, if_true, if_false, Bool.false_eq_true, Bool.true_eq_false, reduceIte, Nat.reduceAdd, Nat.reduceLT, Nat.reduceSub, typeName, i3, i6, i9, truthy, opCmp, eqb, nne, ol, eqi, beq_self_eq_true, lc, all_true]
    | tup xs =>
      have lc := com xs false hd.1 hd.2
      simp only [sq, Bool.false_eq_true, if_false] at lc
      have ol : opB .len [.tup xs] = some (.int xs.length, false) := rfl
      simp only [evS, evA, evM, evT, evL, evR, evO, evI, Out.bind, Out.noex, lift, rd, v_non, v_bl, v_int, v_str, v_lst, v_tup, v_dic, esc, finish, mk, permute, i_lst, i_tup, lo_lst, List.append_nil, Option.bind_some, Option.bind_none, Option.map_some, Option.map_none, Option.bind_eq_bind, List.getElem?_cons_zero, List.getElem?_cons_succ, List.getElem?_nil, List.set_cons_zero, List.set_cons_succ, List.length_cons, List.length_nil, List.mapM_cons, List.mapM_nil, Option.pure_def, Option.getD_some, and_self, Bool.not_true, Bool.not_false, if_true, if_false, Bool.false_eq_true, Bool.true_eq_false, reduceIte, Nat.reduceAdd, Nat.reduceLT, Nat.reduceSub, typeName, i4, i7, i8, truthy, opCmp, eqb, nne, ol, eqi, beq_self_eq_true, lc, all_true]
    | _ => exact hd.elim
def frOf : PV → Bool
  | .lst _ => true
  | _ => false
theorem s_copied : ∀ (d : Nat) (x : PV) (k : Nat) (h : Hs), Dat d x → callN G (k + d + 1) 18 [x] h = .ret x (frOf x) h := by
  intro d
  induction d with
  | zero =>
    intro x k h hd
    rw [c__law_copied, b__law_copied]
    cases x with
    | int i => simp only [evS, evA, evM, evT, evL, evR, evO, evI, Out.bind, Out.noex, lift, rd, v_non, v_bl, v_int, v_str, v_lst, v_tup, v_dic, esc, finish, mk, permute, i_lst, i_tup, lo_lst, List.append_nil, Option.bind_some, Option.bind_none, Option.map_some, Option.map_none, Option.bind_eq_bind, List.getElem?_cons_zero, List.getElem?_cons_succ, List.getElem?_nil, List.set_cons_zero, List.set_cons_succ, List.length_cons, List.length_nil, List.mapM_cons, List.mapM_nil, Option.pure_def, Option.getD_some, and_self, Bool.not_true, Bool.not_false, if_true, if_false, Bool.false_eq_true, Bool.true_eq_false, reduceIte, Nat.reduceAdd, Nat.reduceLT, Nat.reduceSub, typeName, y1, y5, y18, truthy, frOf]
    | bl b => simp only [evS, evA, evM, evT, evL, evR, evO, evI, Out.bind, Out.noex, lift, rd, v_non, v_bl, v_int, v_str, v_lst, v_tup, v_dic, esc, finish, mk, permute, i_lst, i_tup, lo_lst, List.append_nil, Option.bind_some, Option.bind_none, Option.map_some, Option.map_none, Option.bind_eq_bind, List.getElem?_cons_zero, List.getElem?_cons_succ, List.getElem?_nil, List.set_cons_zero, List.set_cons_succ, List.length_cons, List.length_nil, List.mapM_cons, List.mapM_nil, Option.pure_def, Option.getD_some, and_self, Bool.not_true, Bool.not_false, if_true, if_false, Bool.false_eq_true, Bool.true_eq_false, reduceIte, Nat.reduceAdd, Nat.reduceLT, Nat.reduceSub, typeName, y2, y6, y19, truthy, frOf]
    | non => simp only [evS, evA, evM, evT, evL, evR, evO, evI, Out.bind, Out.noex, lift, rd, v_non, v_bl, v_int, v_str, v_lst, v_tup, v_dic, esc, finish, mk, permute, i_lst, i_tup, lo_lst, List.append_nil, Option.bind_some, Option.bind_none, Option.map_some, Option.map_none, Option.bind_eq_bind, List.getElem?_cons_zero, List.getElem?_cons_succ, List.getElem?_nil, List.set_cons_zero, List.set_cons_succ, List.length_cons, List.length_nil, List.mapM_cons, List.mapM_nil, Option.pure_def, Option.getD_some, and_self, Bool.not_true, Bool.not_false, if_true, if_false, Bool.false_eq_true, Bool.true_eq_false, reduceIte, Nat.reduceAdd, Nat.reduceLT, Nat.reduceSub, typeName, y3, y7, y20, truthy, frOf]
    | str s => simp only [evS, evA, evM, evT, evL, evR, evO, evI, Out.bind, Out.noex, lift, rd, v_non, v_bl, v_int, v_str, v_lst, v_tup, v_dic, esc, finish, mk, permute, i_lst, i_tup, lo_lst, List.append_nil, Option.bind_some, Option.bind_none, Option.map_some, Option.map_none, Option.bind_eq_bind, List.getElem?_cons_zero, List.getElem?_cons_succ, List.getElem?_nil, List.set_cons_zero, List.set_cons_succ, List.length_cons, List.length_nil, List.mapM_cons, List.mapM_nil, Option.pure_def, Option.getD_some, and_self, Bool.not_true, Bool.not_false, if_true, if_false, Bool.false_eq_true, Bool.true_eq_false, reduceIte, Nat.reduceAdd, Nat.reduceLT, Nat.reduceSub, typeName, y4, y8, y21, truthy, frOf]
    | _ => exact hd.elim
  | succ d ih =>
    intro x k h hd
    have com : ∀ (xs : List PV) (s : Bool), xs.length ≤ line → (∀ y ∈ xs, Dat d y) → evA (callN G (k + d + 1)) (.lc [2, 4] (.nm 4) (.iseq (.var 0)) .nil (.one (.call 18 [] (.cons (.var 4) .nil)))) [.val (sq s xs), .no, .no, .no, .no] h
        = .ok (.v (.lst xs) true) [.val (sq s xs), .no, .no, .no, .no] h := fun xs s hl hx => by
      have lc := lc_map (gd := []) (C := callN G (k + d + 1)) (own := [2, 4]) (tg := .nm 4) (it := .iseq (.var 0)) (body := .one (.call 18 [] (.cons (.var 4) .nil))) (e := [.val (sq s xs), .no, .no, .no, .no]) (e1 := [.val (sq s xs), .no, .no, .no, .no]) (h := h) (h1 := h) (xs := xs)
        (by simp only [evS, evA, evM, evT, evL, evR, evO, evI, Out.bind, Out.noex, lift, rd, v_non, v_bl, v_int, v_str, v_lst, v_tup, v_dic, esc, finish, mk, permute, bindT, bindTs, i_lst, i_tup, lo_lst, List.append_nil, Option.bind_some, Option.bind_none, Option.map_some, Option.map_none, Option.bind_eq_bind, List.getElem?_cons_zero, List.getElem?_cons_succ, List.getElem?_nil, List.set_cons_zero, List.set_cons_succ, List.length_cons, List.length_nil, List.mapM_cons, List.mapM_nil, Option.pure_def, Option.getD_some, and_self, Bool.not_true, Bool.not_false, if_true, if_false, Bool.false_eq_true, Bool.true_eq_false, reduceIte, Nat.reduceAdd, Nat.reduceLT, Nat.reduceSub, items_sq]) rfl (fun y => y) [.val (sq s xs), .no, .no, .no, .no] rfl hl (fun y hy => by
          refine ⟨[.val (sq s xs), .no, .no, .no, .val y], ?_, rfl⟩
          rw [lcStep_nil (e' := [.val (sq s xs), .no, .no, .no, .val y]) rfl]
          simp only [evS, evA, evM, evT, evL, evR, evO, evI, Out.bind, Out.noex, lift, rd, v_non, v_bl, v_int, v_str, v_lst, v_tup, v_dic, esc, finish, mk, permute, bindT, bindTs, i_lst, i_tup, lo_lst, List.append_nil, Option.bind_some, Option.bind_none, Option.map_some, Option.map_none, Option.bind_eq_bind, List.getElem?_cons_zero, List.getElem?_cons_succ, List.getElem?_nil, List.set_cons_zero, List.set_cons_succ, List.length_cons, List.length_nil, List.mapM_cons, List.mapM_nil, Option.pure_def, Option.getD_some, and_self, Bool.not_true, Bool.not_false, if_true, if_false, Bool.false_eq_true, Bool.true_eq_false, reduceIte, Nat.reduceAdd, Nat.reduceLT, Nat.reduceSub, ih y k h (hx y hy)])
      rw [lc, List.map_id']
      rfl
    show callN G ((k + d + 1) + 1) 18 [x] h = _
    rw [c__law_copied, b__law_copied]
    cases x with
    | int i => simp only [evS, evA, evM, evT, evL, evR, evO, evI, Out.bind, Out.noex, lift, rd, v_non, v_bl, v_int, v_str, v_lst, v_tup, v_dic, esc, finish, mk, permute, i_lst, i_tup, lo_lst, List.append_nil, Option.bind_some, Option.bind_none, Option.map_some, Option.map_none, Option.bind_eq_bind, List.getElem?_cons_zero, List.getElem?_cons_succ, List.getElem?_nil, List.set_cons_zero, List.set_cons_succ, List.length_cons, List.length_nil, List.mapM_cons, List.mapM_nil, Option.pure_def, Option.getD_some, and_self, Bool.not_true, Bool.not_false, if_true, if_false, Bool.false_eq_true, Bool.true_eq_false, reduceIte, Nat.reduceAdd, Nat.reduceLT, Nat.reduceSub, typeName, y1, y5, y18, truthy, frOf]
    | bl b => simp only [evS, evA, evM, evT, evL, evR, evO, evI, Out.bind, Out.noex, lift, rd, v_non, v_bl, v_int, v_str, v_lst, v_tup, v_dic, esc, finish, mk, permute, i_lst, i_tup, lo_lst, List.append_nil, Option.bind_some, Option.bind_none, Option.map_some, Option.map_none, Option.bind_eq_bind, List.getElem?_cons_zero, List.getElem?_cons_succ, List.getElem?_nil, List.set_cons_zero, List.set_cons_succ, List.length_cons, List.length_nil, List.mapM_cons, List.mapM_nil, Option.pure_def, Option.getD_some, and_self, Bool.not_true, Bool.not_false, if_true, if_false, Bool.false_eq_true, Bool.true_eq_false, reduceIte, Nat.reduceAdd, Nat.reduceLT, Nat.reduceSub, typeName, y2, y6, y19, truthy, frOf]
    | non => simp only [evS, evA, evM, evT, evL, evR, evO, evI, Out.bind, Out.noex, lift, rd, v_non, v_bl, v_int, v_str, v_lst, v_tup, v_dic, esc, finish, mk, permute, i_lst, i_tup, lo_lst, List.append_nil, Option.bind_some, Option.bind_none, Option.map_some, Option.map_none, Option.bind_eq_bind, List.getElem?_cons_zero, List.getElem?_cons_succ, List.getElem?_nil, List.set_cons_zero, List.set_cons_succ, List.length_cons, List.length_nil, List.mapM_cons, List.mapM_nil, Option.pure_def, Option.getD_some, and_self, Bool.not_true, Bool.not_false, if_true, if_false, Bool.false_eq_true, Bool.true_eq_false, reduceIte, Nat.reduceAdd, Nat.reduceLT, Nat.reduceSub, typeName, y3, y7, y20, truthy, frOf]
    | str s => simp only [evS, evA, evM, evT, evL, evR, evO, evI, Out.bind, Out.noex, lift, rd, v_non, v_bl, v_int, v_str, v_lst, v_tup, v_dic, esc, finish, mk, permute, i_lst, i_tup, lo_lst, List.append_nil, Option.bind_some, Option.bind_none, Option.map_some, Option.map_none, Option.bind_eq_bind, List.getElem?_cons_zero, List.getElem?_cons_succ, List.getElem?_nil, List.set_cons_zero, List.set_cons_succ, List.length_cons, List.length_nil, List.mapM_cons, List.mapM_nil, Option.pure_def, Option.getD_some, and_self, Bool.not_true, Bool.not_false, if_true, if_false, Bool.false_eq_true, Bool.true_eq_false, reduceIte, Nat.reduceAdd, Nat.reduceLT, Nat.reduceSub, typeName, y4, y8, y21, truthy, frOf]
    | lst xs =>
      have lc := com xs true hd.1 hd.2
      simp only [sq, if_true] at lc
      simp only [evS, evA, evM, evT, evL, evR, evO, evI, Out.bind, Out.noex, lift, rd, v_non, v_bl, v_int, v_str, v_lst, v_tup, v_dic, esc, finish, mk, permute, i_lst, i_tup, lo_lst, List.append_nil, Option.bind_some, Option.bind_none, Option.map_some, Option.map_none, Option.bind_eq_bind, List.getElem?_cons_zero, List.getElem?_cons_succ, List.getElem?_nil, List.set_cons_zero, List.set_cons_succ, List.length_cons, List.length_nil, List.mapM_cons, List.mapM_nil, Option.pure_def, Option.getD_some, and_self, Bool.not_true, Bool.not_false, if_true, if_false, Bool.false_eq_true, Bool.true_eq_false, reduceIte, Nat.reduceAdd, Nat.reduceLT, Nat.reduceSub, typeName, y16, i3, i9, truthy, lc, frOf]
    | tup xs =>
      have lc := com xs false hd.1 hd.2
      simp only [sq, Bool.false_eq_true, if_false] at lc
      have ol : opB .tuple [.lst xs] = some (.tup xs, false) := rfl
      simp only [evS, evA, evM, evT, evL, evR, evO, evI, Out.bind, Out.noex, lift, rd, v_non, v_bl, v_int, v_str, v_lst, v_tup, v_dic, esc, finish, mk, permute, i_lst, i_tup, lo_lst, List.append_nil, Option.bind_some, Option.bind_none, Option.map_some, Option.map_none, Option.bind_eq_bind, List.getElem?_cons_zero, List.getElem?_cons_succ, List.getElem?_nil, List.set_cons_zero, List.set_cons_succ, List.length_cons, List.length_nil, List.mapM_cons, List.mapM_nil, Option.pure_def, Option.getD_some, and_self, Bool.not_true, Bool.not_false, if_true, if_false, Bool.false_eq_true, Bool.true_eq_false, reduceIte, Nat.reduceAdd, Nat.reduceLT, Nat.reduceSub, typeName, y17, i4, i8, truthy, lc, frOf, ol]
    | _ => exact hd.elim
theorem Dat.mono : ∀ (d : Nat) (x : PV), Dat d x → Dat (d + 1) x := by
  intro d
  induction d with
  | zero => intro x h; cases x <;> first | trivial | exact h | exact h.elim
  | succ d ih =>
    intro x h
    cases x with
    | lst xs => exact ⟨h.1, fun y hy => ih y (h.2 y hy)⟩
    | tup xs => exact ⟨h.1, fun y hy => ih y (h.2 y hy)⟩
    | _ => first | trivial | exact h | exact h.elim
theorem dat_ints (t : Bool) (l : List Int) (h : l.length ≤ line) : Dat 1 (sq t (l.map .int)) := by
  have : l.length ≤ line ∧ ∀ x ∈ l.map PV.int, Dat 0 x := ⟨h, fun x hx => by obtain ⟨y, _, rfl⟩ := List.mem_map.mp hx; trivial⟩
  cases t <;> exact ⟨by simpa using this.1, this.2⟩
theorem dat_R (s t : Bool) (r : Rw) (h : r.ns.length ≤ line) : Dat 2 (pvR s t r) := by
  have : ∀ x ∈ [sq t (r.ns.map .int), .str (wd r.eq), .int r.b], Dat 1 x := by
    intro x hx
    simp only [List.mem_cons, List.not_mem_nil, or_false] at hx
    rcases hx with rfl | rfl | rfl
    · exact dat_ints t _ h
    · exact wd_ok r.eq
    · trivial
  cases s <;> exact ⟨(by decide : 3 ≤ line), this⟩
end K03

namespace K03
open PL
open PySem (Str)
variable {rest : Hs}
theorem s_stream (k : Nat) (ns : List Int) (hl : ns.length ≤ 63) : ∃ h', callN G (k + 1) 13 [.scr (ns.map .int)] [] = .ret (.ref 1) false h' ∧ SI 0 [] h' := by
  refine ⟨hh [] ns 0 0 17, ?_, ns, 0, 0, 17, rfl, by omega, by omega, by omega, by omega, by omega, hl⟩
  rw [c__law_stream, b__law_stream]
  have e : view [] (.scr (ns.map .int)) = .scr (ns.map .int) := rfl
  have e2 : opB .list [.scr (ns.map .int)] = some (.lst (ns.map .int), true) := rfl
  simp only [evS, evA, evM, evT, evL, evR, evO, evI, Out.bind, Out.noex, lift, rd, v_non, v_bl, v_int, v_str, v_lst, v_tup, v_dic, esc, finish, mk, permute, bindT, bindTs, i_lst, i_tup, lo_lst, List.append_nil, Option.bind_some, Option.bind_none, Option.map_some, Option.map_none, Option.bind_eq_bind, List.getElem?_cons_zero, List.getElem?_cons_succ, List.getElem?_nil, List.set_cons_zero, List.set_cons_succ, List.length_cons, List.length_nil, List.mapM_cons, List.mapM_nil, Option.pure_def, Option.getD_some, and_self, Bool.not_true, Bool.not_false, if_true, if_false, Bool.false_eq_true, Bool.true_eq_false, reduceIte, Nat.reduceAdd, Nat.reduceLT, Nat.reduceSub, e, e2]
  rfl
theorem s_pick (k c : Nat) (h : Hs) (s : SI c rest h) (hc : c < 1000000) (xs : List PV) (h0 : 0 < xs.length) (h1 : xs.length < 1000000) : ∃ x h', callN G (k + 2) 15 [.ref 1, .lst xs] h = .ret x false h' ∧ SI (c + 1) rest h' ∧ x ∈ xs := by
  obtain ⟨d, h', q, s', d0, d1⟩ := s_draw k c h s hc xs.length (by omega) (by omega)
  have hd : d.toNat < xs.length := by omega
  refine ⟨xs[d.toNat], h', ?_, s', List.getElem_mem hd⟩
  rw [c__law_pick, b__law_pick]
  have ol : opB .len [.lst xs] = some (.int xs.length, false) := rfl
  have oi : opIdx (.lst xs) (.int d) = some xs[d.toNat] := by
    simp only [opIdx, PL.ixN]
    rw [if_pos d0, if_pos d1]
    simp [hd]
  simp only [evS, evA, evM, evT, evL, evR, evO, evI, Out.bind, Out.noex, lift, rd, v_non, v_bl, v_int, v_str, v_lst, v_tup, v_dic, esc, finish, mk, permute, i_lst, i_tup, lo_lst, List.append_nil, Option.bind_some, Option.bind_none, Option.map_some, Option.map_none, Option.bind_eq_bind, List.getElem?_cons_zero, List.getElem?_cons_succ, List.getElem?_nil, List.set_cons_zero, List.set_cons_succ, List.length_cons, List.length_nil, List.mapM_cons, List.mapM_nil, Option.pure_def, Option.getD_some, and_self, Bool.not_true, Bool.not_false, if_true, if_false, Bool.false_eq_true, Bool.true_eq_false, reduceIte, Nat.reduceAdd, Nat.reduceLT, Nat.reduceSub, ol, q, oi]
theorem s_integer (k c : Nat) (h : Hs) (s : SI c rest h) (hc : c < 1000000) (most : Int) (h0 : 0 ≤ most) (h1 : most < 1000) : ∃ d h', callN G (k + 2) 20 [.ref 1, .int most] h = .ret (.int d) false h' ∧ SI (c + 1) rest h' ∧ -most ≤ d ∧ d ≤ most := by
  obtain ⟨d, h', q, s', d0, d1⟩ := s_draw k c h s hc (2 * most + 1) (by omega) (by omega)
  refine ⟨d - most, h', ?_, s', by omega, by omega⟩
  rw [c__law_integer, b__law_integer]
  have mu : opBin .mul (.int 2) (.int most) = some (.int (2 * most), false) := bMul (mulOk_of _ _ (by decide) (by omega))
  simp only [evS, evA, evM, evT, evL, evR, evO, evI, Out.bind, Out.noex, lift, rd, v_non, v_bl, v_int, v_str, v_lst, v_tup, v_dic, esc, finish, mk, permute, i_lst, i_tup, lo_lst, List.append_nil, Option.bind_some, Option.bind_none, Option.map_some, Option.map_none, Option.bind_eq_bind, List.getElem?_cons_zero, List.getElem?_cons_succ, List.getElem?_nil, List.set_cons_zero, List.set_cons_succ, List.length_cons, List.length_nil, List.mapM_cons, List.mapM_nil, Option.pure_def, Option.getD_some, and_self, Bool.not_true, Bool.not_false, if_true, if_false, Bool.false_eq_true, Bool.true_eq_false, reduceIte, Nat.reduceAdd, Nat.reduceLT, Nat.reduceSub, mu, bAdd, q, bSub]
theorem rng_get (n i : Nat) (x : PV) (h : (rngItems 0 n)[i]? = some x) : i < n ∧ x = .int i := by
  unfold rngItems at h
  rw [List.getElem?_map, Option.map_eq_some_iff] at h
  obtain ⟨j, h1, h2⟩ := h
  obtain ⟨h3, h4⟩ := List.getElem?_eq_some_iff.mp h1
  simp at h3 h4
  exact ⟨by omega, by rw [← h2, ← h4]; simp⟩
theorem rng_len (n : Nat) : (rngItems 0 n).length = n := by simp [rngItems]
def Bdd (b : Int) (l : List Int) : Prop := ∀ x ∈ l, -b ≤ x ∧ x ≤ b
/-- a list of drawn integers -/
theorem ints_lc {k c : Nat} {own : List Nat} {tg arg : Ex} {t : Nat} {e : Env} {h : Hs} (most : Int) (h0 : 0 ≤ most) (h1 : most < 1000) (m : Nat) (hm : m ≤ 100) (s : SI c rest h) (hc : c + m < 1000000) (it : Ex) (b : Ex)
    (hi : evI (callN G (k + 2)) it e h = .ok (rngItems 0 m, []) e h) (he : wipeE own (frzAt own e) = wipeE own e) (hback : backE own (frzAt own e) (wipeE own e) = e)
    (hb : ∀ (i : Int) (h : Hs), ∃ e', bindT (.nm t) (.int i) (wipeE own (wipeE own e)) = some e' ∧ wipeE own e' = wipeE own e ∧ evM (callN G (k + 2)) (.one b) e' h = (match callN G (k + 2) 20 [.ref 1, .int most] h with | .ret p _ h2 => .ok [p] e' h2 | .exc c fs h2 => .exc c fs e' h2 | .stuck => .stuck)) :
    ∃ l h', evA (callN G (k + 2)) (.lc own (.nm t) it .nil (.one b)) e h = .ok (.v (.lst (l.map .int)) true) e h' ∧ l.length = m ∧ Bdd most l ∧ SI (c + m) rest h' := by
  obtain ⟨ps, h', q, l, hl, h2, h3, h4⟩ := lc_gen (gd := []) (own := own) (tg := .nm t) (ifs := .nil) (body := .one b) hi (fun i acc h => ∃ l : List Int, acc = l.map .int ∧ l.length = i ∧ Bdd most l ∧ SI (c + i) rest h) (fun _ => wipeE own e) he (fun i x h acc hx ⟨l, ha, hl, hbd, hs⟩ => by
    obtain ⟨hin, rfl⟩ := rng_get m i x hx
    obtain ⟨e', hb1, hb2, hb3⟩ := hb i h
    obtain ⟨d, h', q, s', d0, d1⟩ := s_integer k (c + i) h hs (by omega) most h0 h1
    refine ⟨[.int d], h', e', ?_, hb2, l ++ [d], by rw [ha]; simp, by simp [hl], fun x hx => ?_, s'⟩
    · rw [lcStep_nil hb1, hb3, q]
    · rcases List.mem_append.mp hx with hx | hx
      · exact hbd x hx
      · simp at hx; subst hx; exact ⟨d0, d1⟩) (fun _ _ _ _ => rfl) ⟨[], rfl, rfl, fun x hx => by simp at hx, s⟩ (fun ps h' ⟨l, hp, hl, _⟩ => by rw [hp, List.length_map, hl, rng_len]; exact Nat.le_trans hm line100)
  rw [rng_len] at h2
  refine ⟨l, h', ?_, h2, h3, by rw [rng_len] at h4; exact h4⟩
  rw [q, hl, hback]
theorem sml9 (m : Nat) : small62 (m : Int) = true ↔ (m : Int) < 4611686018427387904 := by simp [small62]
theorem s_row (k c : Nat) (h : Hs) (s : SI c rest h) (m : Nat) (hm : m ≤ 100) (hc : c + m + 2 < 1000000) (most bound : Int) (h0 : 0 ≤ most) (h1 : most < 1000) (b0 : 0 ≤ bound) (b1 : bound < 1000) :
    ∃ (l : List Int) (e : Bool) (b : Int) (h' : Hs), callN G (k + 3) 23 [.ref 1, .int m, .int most, .int bound] h = .ret (.tup [.lst (l.map .int), .str (wd e), .int b]) false h' ∧ l.length = m ∧ Bdd most l ∧ SI (c + m + 2) rest h' ∧ -bound ≤ b ∧ b ≤ bound := by
  obtain ⟨l, h1', q1, l1, l2, s1⟩ := ints_lc (k := k) (own := [4, 5]) (t := 5) (tg := .nil) (arg := .nil) (e := [.val (.ref 1), .val (.int m), .val (.int most), .val (.int bound), .no, .no]) most h0 h1 m hm s (by omega) (.irng1 (.var 1)) (.call 20 [] (.cons (.var 0) (.cons (.var 2) .nil)))
    (by simp only [evS, evA, evM, evT, evL, evR, evO, evI, Out.bind, Out.noex, lift, rd, v_non, v_bl, v_int, v_str, v_lst, v_tup, v_dic, esc, finish, mk, permute, bindT, bindTs, i_lst, i_tup, lo_lst, List.append_nil, Option.bind_some, Option.bind_none, Option.map_some, Option.map_none, Option.bind_eq_bind, List.getElem?_cons_zero, List.getElem?_cons_succ, List.getElem?_nil, List.set_cons_zero, List.set_cons_succ, List.length_cons, List.length_nil, List.mapM_cons, List.mapM_nil, Option.pure_def, Option.getD_some, and_self, Bool.not_true, Bool.not_false, if_true, if_false, Bool.false_eq_true, Bool.true_eq_false, reduceIte, Nat.reduceAdd, Nat.reduceLT, Nat.reduceSub, (sml9 m).mpr (by omega)]) rfl rfl (fun i h => ⟨[.val (.ref 1), .val (.int m), .val (.int most), .val (.int bound), .no, .val (.int i)], rfl, rfl, by
      simp only [evS, evA, evM, evT, evL, evR, evO, evI, Out.bind, Out.noex, lift, rd, v_non, v_bl, v_int, v_str, v_lst, v_tup, v_dic, esc, finish, mk, permute, bindT, bindTs, i_lst, i_tup, lo_lst, List.append_nil, Option.bind_some, Option.bind_none, Option.map_some, Option.map_none, Option.bind_eq_bind, List.getElem?_cons_zero, List.getElem?_cons_succ, List.getElem?_nil, List.set_cons_zero, List.set_cons_succ, List.length_cons, List.length_nil, List.mapM_cons, List.mapM_nil, Option.pure_def, Option.getD_some, and_self, Bool.not_true, Bool.not_false, if_true, if_false, Bool.false_eq_true, Bool.true_eq_false, reduceIte, Nat.reduceAdd, Nat.reduceLT, Nat.reduceSub]
      cases callN G (k + 2) 20 [.ref 1, .int most] h <;> rfl⟩)
  obtain ⟨x, h2', q2, s2, hx⟩ := s_pick k (c + m) h1' s1 (by omega) [.str ">=", .str ">=", .str "="] (by simp) (by simp)
  obtain ⟨d, h3', q3, s3, d0, d1⟩ := s_integer k (c + m + 1) h2' s2 (by omega) bound b0 b1
  have hw : ∃ e, x = .str (wd e) := by
    simp only [List.mem_cons, List.not_mem_nil, or_false] at hx
    rcases hx with rfl | rfl | rfl
    · exact ⟨false, rfl⟩
    · exact ⟨false, rfl⟩
    · exact ⟨true, rfl⟩
  obtain ⟨e, rfl⟩ := hw
  refine ⟨l, e, d, h3', ?_, l1, l2, s3, d0, d1⟩
  rw [c__law_row, b__law_row]
  simp only [evS, evA, evM, evT, evL, evR, evO, evI, Out.bind, Out.noex, lift, rd, v_non, v_bl, v_int, v_str, v_lst, v_tup, v_dic, esc, finish, mk, permute, i_lst, i_tup, lo_lst, List.append_nil, Option.bind_some, Option.bind_none, Option.map_some, Option.map_none, Option.bind_eq_bind, List.getElem?_cons_zero, List.getElem?_cons_succ, List.getElem?_nil, List.set_cons_zero, List.set_cons_succ, List.length_cons, List.length_nil, List.mapM_cons, List.mapM_nil, Option.pure_def, Option.getD_some, and_self, Bool.not_true, Bool.not_false, if_true, if_false, Bool.false_eq_true, Bool.true_eq_false, reduceIte, Nat.reduceAdd, Nat.reduceLT, Nat.reduceSub, q1, q2, q3]
end K03

namespace K03
open PL
open PySem (Str)
variable {rest : Hs}
theorem Bdd.sml {b : Int} {l : List Int} (h : Bdd b l) (hb : b < 1000) : Sml l := fun x hx => by
  have := h x hx
  have h2 : x.natAbs < 1000 := by omega
  exact Nat.lt_trans h2 (by decide)
inductive F2 (R : PV → PV → Prop) : List PV → List PV → Prop
  | nil : F2 R [] []
  | cons {x y : PV} {xs ys : List PV} (h : R x y) (t : F2 R xs ys) : F2 R (x :: xs) (y :: ys)
theorem F2.snoc {R : PV → PV → Prop} {x y : PV} (h : R x y) : ∀ {xs ys : List PV}, F2 R xs ys → F2 R (xs ++ [x]) (ys ++ [y])
  | _, _, .nil => .cons h .nil
  | _, _, .cons a t => .cons a (t.snoc h)
theorem F2.len {R : PV → PV → Prop} : ∀ {xs ys : List PV}, F2 R xs ys → xs.length = ys.length
  | _, _, .nil => rfl
  | _, _, .cons _ t => by simp [t.len]
theorem loose_leaf (k : Nat) (x : PV) (n : String) (hn : typeName x = some n) (hv : ∀ h, view h x = x) (hy : isAny n ["list", "tuple"] = false) (h : Hs) : callN G (k + 1) 19 [.ref 1, x] h = .ret x false h := by
  rw [c__law_loose, b__law_loose]
  simp only [evS, evA, evM, evT, evL, evR, evO, evI, Out.bind, Out.noex, lift, rd, v_non, v_bl, v_int, v_str, v_lst, v_tup, v_dic, esc, finish, mk, permute, i_lst, i_tup, lo_lst, List.append_nil, Option.bind_some, Option.bind_none, Option.map_some, Option.map_none, Option.bind_eq_bind, List.getElem?_cons_zero, List.getElem?_cons_succ, List.getElem?_nil, List.set_cons_zero, List.set_cons_succ, List.length_cons, List.length_nil, List.mapM_cons, List.mapM_nil, Option.pure_def, Option.getD_some, and_self, Bool.not_true, Bool.not_false, if_true, if_false, Bool.false_eq_true, Bool.true_eq_false, reduceIte, Nat.reduceAdd, Nat.reduceLT, Nat.reduceSub, hv, hn, hy, truthy]
theorem loose_node (k c w : Nat) (s0 : Bool) (xs : List PV) (h : Hs) (s : SI c rest h) (g : Nat) (hg : 10 ≤ g) (hc : c + xs.length * w + g < 1000000) (hl : xs.length ≤ line) (R : PV → PV → Prop)
    (hx : ∀ x ∈ xs, ∀ (c' : Nat) (h' : Hs), SI c' rest h' → c' + g < 1000000 → ∃ y fr h2, callN G (k + 1) 19 [.ref 1, x] h' = .ret y fr h2 ∧ R x y ∧ SI (c' + w) rest h2) :
    ∃ t ys h', callN G (k + 2) 19 [.ref 1, sq s0 xs] h = .ret (sq t ys) t h' ∧ F2 R xs ys ∧ SI (c + xs.length * w + 1) rest h' := by
  obtain ⟨ps, h1, q, p1, p2⟩ := lc_gen (gd := []) (C := callN G (k + 1)) (own := [3, 4]) (tg := .nm 4) (ifs := .nil) (it := .iseq (.var 1)) (body := .one (.call 19 [] (.cons (.var 0) (.cons (.var 4) .nil)))) (e := [.val (.ref 1), .val (sq s0 xs), .no, .no, .no]) (e1 := [.val (.ref 1), .val (sq s0 xs), .no, .no, .no]) (h := h) (h1 := h) (xs := xs)
    (by simp only [evS, evA, evM, evT, evL, evR, evO, evI, Out.bind, Out.noex, lift, rd, v_non, v_bl, v_int, v_str, v_lst, v_tup, v_dic, esc, finish, mk, permute, i_lst, i_tup, lo_lst, List.append_nil, Option.bind_some, Option.bind_none, Option.map_some, Option.map_none, Option.bind_eq_bind, List.getElem?_cons_zero, List.getElem?_cons_succ, List.getElem?_nil, List.set_cons_zero, List.set_cons_succ, List.length_cons, List.length_nil, List.mapM_cons, List.mapM_nil, Option.pure_def, Option.getD_some, and_self, Bool.not_true, Bool.not_false, if_true, if_false, Bool.false_eq_true, Bool.true_eq_false, reduceIte, Nat.reduceAdd, Nat.reduceLT, Nat.reduceSub, items_sq]) (fun i acc h => F2 R (xs.take i) acc ∧ SI (c + i * w) rest h) (fun _ => [.val (.ref 1), .val (sq s0 xs), .no, .no, .no]) rfl (fun i x h acc hxi ⟨ha, hs⟩ => by
      have hi : i < xs.length := (List.getElem?_eq_some_iff.mp hxi).1
      have hb : i * w + w ≤ xs.length * w := by rw [← Nat.succ_mul]; exact Nat.mul_le_mul_right w hi
      obtain ⟨y, fr, h2, q, r, s2⟩ := hx x (List.mem_of_getElem? hxi) (c + i * w) h hs (by omega)
      refine ⟨[y], h2, [.val (.ref 1), .val (sq s0 xs), .no, .no, .val x], ?_, rfl, ?_, ?_⟩
      · rw [lcStep_nil (e' := [.val (.ref 1), .val (sq s0 xs), .no, .no, .val x]) rfl]
        simp only [evS, evA, evM, evT, evL, evR, evO, evI, Out.bind, Out.noex, lift, rd, v_non, v_bl, v_int, v_str, v_lst, v_tup, v_dic, esc, finish, mk, permute, i_lst, i_tup, lo_lst, List.append_nil, Option.bind_some, Option.bind_none, Option.map_some, Option.map_none, Option.bind_eq_bind, List.getElem?_cons_zero, List.getElem?_cons_succ, List.getElem?_nil, List.set_cons_zero, List.set_cons_succ, List.length_cons, List.length_nil, List.mapM_cons, List.mapM_nil, Option.pure_def, Option.getD_some, and_self, Bool.not_true, Bool.not_false, if_true, if_false, Bool.false_eq_true, Bool.true_eq_false, reduceIte, Nat.reduceAdd, Nat.reduceLT, Nat.reduceSub, q]
      · rw [List.take_succ, hxi]; exact ha.snoc r
      · rw [Nat.succ_mul, ← Nat.add_assoc]; exact s2) (fun _ _ _ _ => rfl) ⟨.nil, by simpa using s⟩ (fun ps h' ⟨hp, _⟩ => by rw [← hp.len, List.take_length]; exact hl)
  rw [List.take_length] at p1
  simp only [backE, frzAt, frzS, List.getD_cons_zero, List.getD_cons_succ, List.set_cons_zero, List.set_cons_succ] at q
  obtain ⟨d, h2, q2, s2, d0, d1⟩ := s_draw k _ h1 p2 (by omega) 2 (by decide) (by decide)
  have hny : isAny (if s0 then "list" else "tuple") ["list", "tuple"] = true := by cases s0 <;> simp [i3, i4]
  by_cases hd : d = 0
  · refine ⟨false, ps, h2, ?_, p1, s2⟩
    have ot : opB .tuple [.lst ps] = some (.tup ps, false) := rfl
    rw [c__law_loose, b__law_loose]
    show _ = Ret.ret (.tup ps) false h2
    simp only [evS, evA, evM, evT, evL, evR, evO, evI, Out.bind, Out.noex, lift, rd, v_non, v_bl, v_int, v_str, v_lst, v_tup, v_dic, esc, finish, mk, permute, i_lst, i_tup, lo_lst, List.append_nil, Option.bind_some, Option.bind_none, Option.map_some, Option.map_none, Option.bind_eq_bind, List.getElem?_cons_zero, List.getElem?_cons_succ, List.getElem?_nil, List.set_cons_zero, List.set_cons_succ, List.length_cons, List.length_nil, List.mapM_cons, List.mapM_nil, Option.pure_def, Option.getD_some, and_self, Bool.not_true, Bool.not_false, if_true, if_false, Bool.false_eq_true, Bool.true_eq_false, reduceIte, Nat.reduceAdd, Nat.reduceLT, Nat.reduceSub, view_sq, sq_ty, hny, truthy, q, q2, opCmp, eqi, hd, beq_self_eq_true, ot]
  · refine ⟨true, ps, h2, ?_, p1, s2⟩
    have hd' : (d == 0) = false := by simpa using hd
    rw [c__law_loose, b__law_loose]
    show _ = Ret.ret (.lst ps) true h2
    simp only [evS, evA, evM, evT, evL, evR, evO, evI, Out.bind, Out.noex, lift, rd, v_non, v_bl, v_int, v_str, v_lst, v_tup, v_dic, esc, finish, mk, permute, i_lst, i_tup, lo_lst, List.append_nil, Option.bind_some, Option.bind_none, Option.map_some, Option.map_none, Option.bind_eq_bind, List.getElem?_cons_zero, List.getElem?_cons_succ, List.getElem?_nil, List.set_cons_zero, List.set_cons_succ, List.length_cons, List.length_nil, List.mapM_cons, List.mapM_nil, Option.pure_def, Option.getD_some, and_self, Bool.not_true, Bool.not_false, if_true, if_false, Bool.false_eq_true, Bool.true_eq_false, reduceIte, Nat.reduceAdd, Nat.reduceLT, Nat.reduceSub, view_sq, sq_ty, hny, truthy, q, q2, opCmp, eqi, hd']
theorem F2.eq : ∀ {xs ys : List PV}, F2 (fun x y => y = x) xs ys → ys = xs
  | _, _, .nil => rfl
  | _, _, .cons h t => by rw [h, t.eq]
theorem loose_int (k : Nat) (i : Int) (h : Hs) : callN G (k + 1) 19 [.ref 1, .int i] h = .ret (.int i) false h := loose_leaf k (.int i) "int" rfl (fun _ => rfl) y1 h
theorem loose_str (k : Nat) (i : Str) (h : Hs) : callN G (k + 1) 19 [.ref 1, .str i] h = .ret (.str i) false h := loose_leaf k (.str i) "str" rfl (fun _ => rfl) y4 h
theorem loose_ints (k c : Nat) (l : List Int) (h : Hs) (s : SI c rest h) (hc : c + 10 < 1000000) (hl : l.length ≤ line) : ∃ t h', callN G (k + 2) 19 [.ref 1, .lst (l.map .int)] h = .ret (sq t (l.map .int)) t h' ∧ SI (c + 1) rest h' := by
  obtain ⟨t, ys, h', q, f, s'⟩ := loose_node k c 0 true (l.map .int) h s 10 (by omega) (by simpa using hc) (by simpa using hl) (fun x y => y = x) (fun x hx c' h' s' _ => by
    obtain ⟨i, _, rfl⟩ := List.mem_map.mp hx
    exact ⟨_, _, _, loose_int k i h', rfl, s'⟩)
  rw [f.eq] at q
  exact ⟨t, h', q, by simpa using s'⟩
def RelC (x y : PV) : Prop := (∃ (l : List Int) (t : Bool), x = .lst (l.map .int) ∧ y = sq t (l.map .int)) ∨ ((∀ l, x ≠ .lst l) ∧ y = x)
theorem loose_row (k c : Nat) (r : Rw) (h : Hs) (s : SI c rest h) (hc : c + 50 < 1000000) (hl : r.ns.length ≤ line) : ∃ t u h', callN G (k + 3) 19 [.ref 1, pvR false true r] h = .ret (pvR t u r) t h' ∧ SI (c + 4) rest h' := by
  obtain ⟨t, ys, h', q, f, s'⟩ := loose_node (k + 1) c 1 false [.lst (r.ns.map .int), .str (wd r.eq), .int r.b] h s 10 (by omega) (by simp; omega) (by simp; decide) RelC (fun x hx c' h' s' hc' => by
    simp only [List.mem_cons, List.not_mem_nil, or_false] at hx
    rcases hx with rfl | rfl | rfl
    · obtain ⟨t, h2, q, s2⟩ := loose_ints k c' r.ns h' s' hc' hl
      exact ⟨_, _, _, q, .inl ⟨r.ns, t, rfl, rfl⟩, s2⟩
    · exact ⟨_, _, _, loose_str (k + 1) _ h', .inr ⟨fun l hh => (by cases hh), rfl⟩, s'.mono (by omega)⟩
    · exact ⟨_, _, _, loose_int (k + 1) _ h', .inr ⟨fun l hh => (by cases hh), rfl⟩, s'.mono (by omega)⟩)
  cases f with
  | cons a f => cases f with
    | cons b f => cases f with
      | cons d f =>
        cases f
        rcases b with ⟨_, _, e, _⟩ | ⟨_, rfl⟩
        · cases e
        rcases d with ⟨_, _, e, _⟩ | ⟨_, rfl⟩
        · cases e
        rcases a with ⟨l, u, e, rfl⟩ | ⟨e, _⟩
        · have : l.map PV.int = r.ns.map PV.int := (PV.lst.inj e).symm
          rw [this] at q
          exact ⟨t, u, h', q, s'⟩
        · exact absurd rfl (e _)
end K03

namespace K03
open PL
open PySem (Str)
theorem s_told (k : Nat) (t : Bool) (r : Rw) (h : Hs) : callN G (k + 1) 6 [pvR false t r] h = .ret (.tup [.ref h.length, .str (wd r.eq), .int r.b]) false (h ++ [.lst (r.ns.map .int)]) := by
  rw [c_told_line, b_told_line]
  simp only [evS, evA, evM, evT, evL, evR, evO, evI, Out.bind, Out.noex, lift, rd, v_non, v_bl, v_int, v_str, v_lst, v_tup, v_dic, esc, finish, mk, permute, bindT, bindTs, i_lst, i_tup, lo_lst, List.append_nil, Option.bind_some, Option.bind_none, Option.map_some, Option.map_none, Option.bind_eq_bind, List.getElem?_cons_zero, List.getElem?_cons_succ, List.getElem?_nil, List.set_cons_zero, List.set_cons_succ, List.length_cons, List.length_nil, List.mapM_cons, List.mapM_nil, Option.pure_def, Option.getD_some, and_self, Bool.not_true, Bool.not_false, if_true, if_false, Bool.false_eq_true, Bool.true_eq_false, reduceIte, Nat.reduceAdd, Nat.reduceLT, Nat.reduceSub, view_R, p0, p1, p2, lst_sq, view_sq]
theorem s_need (k : Nat) (s t : Bool) (r : Rw) (m : Nat) (h : Hs) (hm1 : 1 ≤ m) (hm : r.ns.length = m) (hl : m ≤ 100) : callN G (k + 5) 7 [.int m, pvR s t r] h = .ret (pvR false false r) false h := by
  have e : pvR false false r = .tup [.tup (r.ns.map .int), .str (wd r.eq), .int r.b] := rfl
  rw [c_need_line, b_need_line]
  have kl := s_kept_line k s t r m h (by rw [hm]) (by rw [hm]; exact Nat.le_trans hl line100)
  rw [e] at kl ⊢
  simp only [evS, evA, evM, evT, evL, evR, evO, evI, Out.bind, Out.noex, lift, rd, v_non, v_bl, v_int, v_str, v_lst, v_tup, v_dic, esc, finish, mk, permute, bindT, bindTs, i_lst, i_tup, lo_lst, List.append_nil, Option.bind_some, Option.bind_none, Option.map_some, Option.map_none, Option.bind_eq_bind, List.getElem?_cons_zero, List.getElem?_cons_succ, List.getElem?_nil, List.set_cons_zero, List.set_cons_succ, List.length_cons, List.length_nil, List.mapM_cons, List.mapM_nil, Option.pure_def, Option.getD_some, and_self, Bool.not_true, Bool.not_false, if_true, if_false, Bool.false_eq_true, Bool.true_eq_false, reduceIte, Nat.reduceAdd, Nat.reduceLT, Nat.reduceSub, s_check_many (k + 2) m (by omega), kl, opCmp, truthy]
/-- the rows of the contrary -/
def below (r : Rw) : Rw := ⟨r.ns.map (- ·), false, 1 - r.b⟩
def trn (r : Rw) : List Rw := if r.eq then [⟨r.ns, false, r.b + 1⟩, below r] else [below r]
theorem s_turned_lines (k : Nat) (r : Rw) (h : Hs) (hl : r.ns.length ≤ line) : callN G (k + 1) 8 [pvR false false r] h = .ret (.lst ((trn r).map (pvR false false))) true h := by
  let E0 : Env := [.val (pvR false false r), .val (.tup (r.ns.map .int)), .val (.str (wd r.eq)), .val (.int r.b), .no, .no, .no]
  have lc := lc_map (gd := []) (C := callN G k) (own := [5, 6]) (tg := .nm 6) (it := .iseq (.var 1)) (body := .one (.neg (.var 6))) (e := E0) (e1 := E0) (h := h) (h1 := h) (xs := r.ns.map .int)
    (by simp only [evS, evA, evM, evT, evL, evR, evO, evI, Out.bind, Out.noex, lift, rd, v_non, v_bl, v_int, v_str, v_lst, v_tup, v_dic, esc, finish, mk, permute, bindT, bindTs, i_lst, i_tup, lo_lst, List.append_nil, Option.bind_some, Option.bind_none, Option.map_some, Option.map_none, Option.bind_eq_bind, List.getElem?_cons_zero, List.getElem?_cons_succ, List.getElem?_nil, List.set_cons_zero, List.set_cons_succ, List.length_cons, List.length_nil, List.mapM_cons, List.mapM_nil, Option.pure_def, Option.getD_some, and_self, Bool.not_true, Bool.not_false, if_true, if_false, Bool.false_eq_true, Bool.true_eq_false, reduceIte, Nat.reduceAdd, Nat.reduceLT, Nat.reduceSub, E0]) rfl (fun x => match x with | .int i => .int (-i) | _ => .non) E0 rfl (by simpa using hl) (fun p hp => by
      obtain ⟨i, _, rfl⟩ := List.mem_map.mp hp
      refine ⟨[.val (pvR false false r), .val (.tup (r.ns.map .int)), .val (.str (wd r.eq)), .val (.int r.b), .no, .no, .val (.int i)], ?_, rfl⟩
      rw [lcStep_nil (e' := [.val (pvR false false r), .val (.tup (r.ns.map .int)), .val (.str (wd r.eq)), .val (.int r.b), .no, .no, .val (.int i)]) rfl]
      simp only [evS, evA, evM, evT, evL, evR, evO, evI, Out.bind, Out.noex, lift, rd, v_non, v_bl, v_int, v_str, v_lst, v_tup, v_dic, esc, finish, mk, permute, bindT, bindTs, i_lst, i_tup, lo_lst, List.append_nil, Option.bind_some, Option.bind_none, Option.map_some, Option.map_none, Option.bind_eq_bind, List.getElem?_cons_zero, List.getElem?_cons_succ, List.getElem?_nil, List.set_cons_zero, List.set_cons_succ, List.length_cons, List.length_nil, List.mapM_cons, List.mapM_nil, Option.pure_def, Option.getD_some, and_self, Bool.not_true, Bool.not_false, if_true, if_false, Bool.false_eq_true, Bool.true_eq_false, reduceIte, Nat.reduceAdd, Nat.reduceLT, Nat.reduceSub])
  have hz : ((r.ns.map PV.int).map fun x => match x with | .int i => PV.int (-i) | _ => .non) = (r.ns.map (- ·)).map .int := by
    rw [List.map_map, List.map_map]; rfl
  rw [hz] at lc
  simp only [backE, frzAt, frzS, E0, List.getD_cons_zero, List.getD_cons_succ, List.set_cons_zero, List.set_cons_succ] at lc
  have e : pvR false false r = .tup [.tup (r.ns.map .int), .str (wd r.eq), .int r.b] := rfl
  have ot : opB .tuple [.lst ((r.ns.map (- ·)).map .int)] = some (.tup ((r.ns.map (- ·)).map .int), false) := rfl
  rw [e] at lc ⊢
  rw [c_turned_lines, b_turned_lines]
  cases hq : r.eq
  · have w : opEq (.str (wd false)) (.str ">=") = some true := wd_ge false
    rw [hq] at lc
    simp only [evS, evA, evM, evT, evL, evR, evO, evI, Out.bind, Out.noex, lift, rd, v_non, v_bl, v_int, v_str, v_lst, v_tup, v_dic, esc, finish, mk, permute, bindT, bindTs, i_lst, i_tup, lo_lst, List.append_nil, Option.bind_some, Option.bind_none, Option.map_some, Option.map_none, Option.bind_eq_bind, List.getElem?_cons_zero, List.getElem?_cons_succ, List.getElem?_nil, List.set_cons_zero, List.set_cons_succ, List.length_cons, List.length_nil, List.mapM_cons, List.mapM_nil, Option.pure_def, Option.getD_some, and_self, Bool.not_true, Bool.not_false, if_true, if_false, Bool.false_eq_true, Bool.true_eq_false, reduceIte, Nat.reduceAdd, Nat.reduceLT, Nat.reduceSub, lc, ot, bSub, opCmp, w, truthy]
    simp [trn, hq, below, pvR, sq]; rfl
  · have w : opEq (.str (wd true)) (.str ">=") = some false := wd_ge true
    rw [hq] at lc
    simp only [evS, evA, evM, evT, evL, evR, evO, evI, Out.bind, Out.noex, lift, rd, v_non, v_bl, v_int, v_str, v_lst, v_tup, v_dic, esc, finish, mk, permute, bindT, bindTs, i_lst, i_tup, lo_lst, List.append_nil, Option.bind_some, Option.bind_none, Option.map_some, Option.map_none, Option.bind_eq_bind, List.getElem?_cons_zero, List.getElem?_cons_succ, List.getElem?_nil, List.set_cons_zero, List.set_cons_succ, List.length_cons, List.length_nil, List.mapM_cons, List.mapM_nil, Option.pure_def, Option.getD_some, and_self, Bool.not_true, Bool.not_false, if_true, if_false, Bool.false_eq_true, Bool.true_eq_false, reduceIte, Nat.reduceAdd, Nat.reduceLT, Nat.reduceSub, lc, ot, bSub, bAdd, opCmp, w, truthy]
    simp [trn, hq, below, pvR, sq]; constructor <;> rfl
/-! divisors -/
def dv (ns : List Int) : Nat := ns.foldl (fun f n => Nat.gcd n.natAbs f) 0
theorem gcd_step (a b : Nat) (hb : b ≠ 0) : Nat.gcd b ((a : Int).fmod b).toNat = Nat.gcd a b ∧ ((a : Int).fmod b).toNat < b ∧ 0 ≤ (a : Int).fmod b := by
  have e : (a : Int).fmod b = ((a % b : Nat) : Int) := by
    rw [Int.fmod_eq_emod_of_nonneg _ (by omega)]; first | exact (Int.natCast_emod a b).symm | exact (Int.ofNat_emod a b).symm | simp
  rw [e]
  refine ⟨?_, ?_, by omega⟩
  · rw [Int.toNat_natCast, Nat.gcd_comm a b]
    rw [Nat.gcd_comm b (a % b), ← Nat.gcd_rec]
  · rw [Int.toNat_natCast]; exact Nat.mod_lt _ (by omega)
def cdC : Ex := .var 4
def cdB : Sm := .par 3 4 (.var 4) (.bin .mod (.var 3) (.var 4))
def cdS : Sm := (.seq (.par 3 4 (.bcall .abs (.cons (.var 2) .nil)) (.var 1)) (.seq (.while_ cdC cdB) (.asg 1 (.var 3))))
theorem cd_body : b_common_divisor = (.seq (.asg 1 (.con (.int (0)))) (.seq (.for_ (.nm 2) (.iseq (.var 0)) cdS) (.ret (.var 1)))) := rfl
theorem cd_while (C : Calls) (x0 x1 x2 : SV) (h : Hs) (a b : Nat) (hb : b < 1000000) : ∃ e', whLoop (fun e h => evT C cdC e h) (fun e h => evS C cdB e h) LF [x0, x1, x2, .val (.int a), .val (.int b)] h = .ok .next e' h ∧ e' = [x0, x1, x2, .val (.int (Nat.gcd a b)), .val (.int 0)] := by
  obtain ⟨e', h', q, q1, q2⟩ := whLoop_run (c := fun e h => evT C cdC e h) (b := fun e h => evS C cdB e h)
    (fun m e h' => ∃ a' b' : Nat, m = b' ∧ Nat.gcd a' b' = Nat.gcd a b ∧ e = [x0, x1, x2, .val (.int a'), .val (.int b')] ∧ h' = h)
    (fun e h' => e = [x0, x1, x2, .val (.int (Nat.gcd a b)), .val (.int 0)] ∧ h' = h)
    (fun m e h' ⟨a', b', hm, hg, he, hh⟩ => by
      subst he; subst hh; subst hm
      by_cases hz : m = 0
      · subst hz
        rw [Nat.gcd_zero_right] at hg
        refine .inl ⟨[x0, x1, x2, .val (.int a'), .val (.int 0)], h', ?_, by rw [← hg], rfl⟩
        unfold cdC; simp only [evS, evA, evM, evT, evL, evR, evO, evI, Out.bind, Out.noex, lift, rd, v_non, v_bl, v_int, v_str, v_lst, v_tup, v_dic, esc, finish, mk, permute, bindT, bindTs, i_lst, i_tup, lo_lst, List.append_nil, Option.bind_some, Option.bind_none, Option.map_some, Option.map_none, Option.bind_eq_bind, List.getElem?_cons_zero, List.getElem?_cons_succ, List.getElem?_nil, List.set_cons_zero, List.set_cons_succ, List.length_cons, List.length_nil, List.mapM_cons, List.mapM_nil, Option.pure_def, Option.getD_some, and_self, Bool.not_true, Bool.not_false, if_true, if_false, Bool.false_eq_true, Bool.true_eq_false, reduceIte, Nat.reduceAdd, Nat.reduceLT, Nat.reduceSub, truthy]; rfl
      · obtain ⟨g1, g2, g3⟩ := gcd_step a' m hz
        refine .inr ⟨[x0, x1, x2, .val (.int a'), .val (.int m)], h', [x0, x1, x2, .val (.int m), .val (.int ((a' : Int).fmod m))], h', ((a' : Int).fmod m).toNat, ?_, ?_, g2, m, ((a' : Int).fmod m).toNat, rfl, by rw [g1, hg], by rw [Int.toNat_of_nonneg g3], rfl⟩
        · unfold cdC; simp only [evS, evA, evM, evT, evL, evR, evO, evI, Out.bind, Out.noex, lift, rd, v_non, v_bl, v_int, v_str, v_lst, v_tup, v_dic, esc, finish, mk, permute, bindT, bindTs, i_lst, i_tup, lo_lst, List.append_nil, Option.bind_some, Option.bind_none, Option.map_some, Option.map_none, Option.bind_eq_bind, List.getElem?_cons_zero, List.getElem?_cons_succ, List.getElem?_nil, List.set_cons_zero, List.set_cons_succ, List.length_cons, List.length_nil, List.mapM_cons, List.mapM_nil, Option.pure_def, Option.getD_some, and_self, Bool.not_true, Bool.not_false, if_true, if_false, Bool.false_eq_true, Bool.true_eq_false, reduceIte, Nat.reduceAdd, Nat.reduceLT, Nat.reduceSub, truthy]
          have : ((m : Int) != 0) = true := by simp; exact hz
          rw [this]
        · unfold cdB; simp only [evS, evA, evM, evT, evL, evR, evO, evI, Out.bind, Out.noex, lift, rd, v_non, v_bl, v_int, v_str, v_lst, v_tup, v_dic, esc, finish, mk, permute, bindT, bindTs, i_lst, i_tup, lo_lst, List.append_nil, Option.bind_some, Option.bind_none, Option.map_some, Option.map_none, Option.bind_eq_bind, List.getElem?_cons_zero, List.getElem?_cons_succ, List.getElem?_nil, List.set_cons_zero, List.set_cons_succ, List.length_cons, List.length_nil, List.mapM_cons, List.mapM_nil, Option.pure_def, Option.getD_some, and_self, Bool.not_true, Bool.not_false, if_true, if_false, Bool.false_eq_true, Bool.true_eq_false, reduceIte, Nat.reduceAdd, Nat.reduceLT, Nat.reduceSub, bMod (show (m : Int) ≠ 0 by omega)])
    b LF [x0, x1, x2, .val (.int a), .val (.int b)] h (by unfold LF; omega) ⟨a, b, rfl, rfl, rfl, rfl⟩
  subst q2
  exact ⟨e', q, q1⟩
theorem s_cdiv (k : Nat) (ns : List Int) (h : Hs) (hs : ∀ n ∈ ns, n.natAbs ≤ 1000) : callN G (k + 1) 10 [.tup (ns.map .int)] h = .ret (.int (dv ns)) false h := by
  obtain ⟨e', h', q, f, x2, x3, x4, he, hf, hl, hh⟩ := forLoop_run (gd := []) (f := forStep (callN G k) (.nm 2) cdS) (xs := ns.map .int)
    (fun i e h' => ∃ (f : Nat) (x2 x3 x4 : SV), e = [.val (.tup (ns.map .int)), .val (.int f), x2, x3, x4] ∧ f = dv (ns.take i) ∧ f ≤ 1000 ∧ h' = h)
    (fun i x e h' hx ⟨f, x2, x3, x4, he, hf, hl, hh⟩ => by
      subst he; subst hh
      rw [List.getElem?_map, Option.map_eq_some_iff] at hx
      obtain ⟨n, hn, rfl⟩ := hx
      have hn' := hs n (List.mem_of_getElem? hn)
      obtain ⟨e', q, he'⟩ := cd_while (callN G k) (.val (.tup (ns.map .int))) (.val (.int f)) (.val (.int n)) h' n.natAbs f (by omega)
      subst he'
      refine ⟨.next, [.val (.tup (ns.map .int)), .val (.int (Nat.gcd n.natAbs f)), .val (.int n), .val (.int (Nat.gcd n.natAbs f)), .val (.int 0)], h', ?_, .inl rfl, Nat.gcd n.natAbs f, _, _, _, rfl, ?_, ?_, rfl⟩
      · have ab : opB .abs [.int n] = some (.int (n.natAbs : Int), false) := by
          simp only [opB]; congr 3; split <;> omega
        have s1 : evS (callN G k) (.par 3 4 (.bcall .abs (.cons (.var 2) .nil)) (.var 1)) [.val (.tup (ns.map .int)), .val (.int f), .val (.int n), x3, x4] h' = .ok .next [.val (.tup (ns.map .int)), .val (.int f), .val (.int n), .val (.int n.natAbs), .val (.int f)] h' := by
          simp only [evS, evA, evM, evT, evL, evR, evO, evI, Out.bind, Out.noex, lift, rd, v_non, v_bl, v_int, v_str, v_lst, v_tup, v_dic, esc, finish, mk, permute, bindT, bindTs, i_lst, i_tup, lo_lst, List.append_nil, Option.bind_some, Option.bind_none, Option.map_some, Option.map_none, Option.bind_eq_bind, List.getElem?_cons_zero, List.getElem?_cons_succ, List.getElem?_nil, List.set_cons_zero, List.set_cons_succ, List.length_cons, List.length_nil, List.mapM_cons, List.mapM_nil, Option.pure_def, Option.getD_some, and_self, Bool.not_true, Bool.not_false, if_true, if_false, Bool.false_eq_true, Bool.true_eq_false, reduceIte, Nat.reduceAdd, Nat.reduceLT, Nat.reduceSub, ab]
        have hb : bindT (.nm 2) (.int n) [.val (.tup (ns.map .int)), .val (.int f), x2, x3, x4] = some [.val (.tup (ns.map .int)), .val (.int f), .val (.int n), x3, x4] := rfl
        unfold forStep cdS
        rw [hb]
        show evS (callN G k) _ _ _ = _
        rw [seq_next s1, seq_next (by rw [evS_while]; exact q)]
        simp only [evS, evA, evM, evT, evL, evR, evO, evI, Out.bind, Out.noex, lift, rd, v_non, v_bl, v_int, v_str, v_lst, v_tup, v_dic, esc, finish, mk, permute, bindT, bindTs, i_lst, i_tup, lo_lst, List.append_nil, Option.bind_some, Option.bind_none, Option.map_some, Option.map_none, Option.bind_eq_bind, List.getElem?_cons_zero, List.getElem?_cons_succ, List.getElem?_nil, List.set_cons_zero, List.set_cons_succ, List.length_cons, List.length_nil, List.mapM_cons, List.mapM_nil, Option.pure_def, Option.getD_some, and_self, Bool.not_true, Bool.not_false, if_true, if_false, Bool.false_eq_true, Bool.true_eq_false, reduceIte, Nat.reduceAdd, Nat.reduceLT, Nat.reduceSub]
      · rw [List.take_succ, hn, dv, List.foldl_append, ← dv, ← hf]; rfl
      · by_cases hz : n.natAbs = 0
        · rw [hz, Nat.gcd_zero_left]; exact hl
        · exact Nat.le_trans (Nat.gcd_le_left f (by omega)) hn')
    (fun _ _ _ _ => rfl) (e := [.val (.tup (ns.map .int)), .val (.int 0), .no, .no, .no]) (h := h) ⟨0, .no, .no, .no, rfl, rfl, by omega, rfl⟩
  rw [List.length_map, List.take_length] at hf
  subst hh
  rw [c_common_divisor, cd_body]
  have s0 : evS (callN G k) (.asg 1 (.con (.int 0))) [.val (.tup (ns.map .int)), .no, .no, .no, .no] h' = .ok .next [.val (.tup (ns.map .int)), .val (.int 0), .no, .no, .no] h' := by simp only [evS, evA, evM, evT, evL, evR, evO, evI, Out.bind, Out.noex, lift, rd, v_non, v_bl, v_int, v_str, v_lst, v_tup, v_dic, esc, finish, mk, permute, bindT, bindTs, i_lst, i_tup, lo_lst, List.append_nil, Option.bind_some, Option.bind_none, Option.map_some, Option.map_none, Option.bind_eq_bind, List.getElem?_cons_zero, List.getElem?_cons_succ, List.getElem?_nil, List.set_cons_zero, List.set_cons_succ, List.length_cons, List.length_nil, List.mapM_cons, List.mapM_nil, Option.pure_def, Option.getD_some, and_self, Bool.not_true, Bool.not_false, if_true, if_false, Bool.false_eq_true, Bool.true_eq_false, reduceIte, Nat.reduceAdd, Nat.reduceLT, Nat.reduceSub]
  have s1 : evS (callN G k) (.for_ (.nm 2) (.iseq (.var 0)) cdS) [.val (.tup (ns.map .int)), .val (.int 0), .no, .no, .no] h' = .ok .next e' h' := by
    rw [evS_for]
    have : evI (callN G k) (.iseq (.var 0)) [.val (.tup (ns.map .int)), .val (.int 0), .no, .no, .no] h' = .ok (ns.map .int, []) [.val (.tup (ns.map .int)), .val (.int 0), .no, .no, .no] h' := by simp only [evS, evA, evM, evT, evL, evR, evO, evI, Out.bind, Out.noex, lift, rd, v_non, v_bl, v_int, v_str, v_lst, v_tup, v_dic, esc, finish, mk, permute, bindT, bindTs, i_lst, i_tup, lo_lst, List.append_nil, Option.bind_some, Option.bind_none, Option.map_some, Option.map_none, Option.bind_eq_bind, List.getElem?_cons_zero, List.getElem?_cons_succ, List.getElem?_nil, List.set_cons_zero, List.set_cons_succ, List.length_cons, List.length_nil, List.mapM_cons, List.mapM_nil, Option.pure_def, Option.getD_some, and_self, Bool.not_true, Bool.not_false, if_true, if_false, Bool.false_eq_true, Bool.true_eq_false, reduceIte, Nat.reduceAdd, Nat.reduceLT, Nat.reduceSub]
    rw [this, bind_okE, q]
  rw [seq_next s0, seq_next s1, he, hf]
  simp only [evS, evA, evM, evT, evL, evR, evO, evI, Out.bind, Out.noex, lift, rd, v_non, v_bl, v_int, v_str, v_lst, v_tup, v_dic, esc, finish, mk, permute, bindT, bindTs, i_lst, i_tup, lo_lst, List.append_nil, Option.bind_some, Option.bind_none, Option.map_some, Option.map_none, Option.bind_eq_bind, List.getElem?_cons_zero, List.getElem?_cons_succ, List.getElem?_nil, List.set_cons_zero, List.set_cons_succ, List.length_cons, List.length_nil, List.mapM_cons, List.mapM_nil, Option.pure_def, Option.getD_some, and_self, Bool.not_true, Bool.not_false, if_true, if_false, Bool.false_eq_true, Bool.true_eq_false, reduceIte, Nat.reduceAdd, Nat.reduceLT, Nat.reduceSub]
end K03

namespace K03
open PL
open PySem (Str)
def hdN (ns : List Int) : Int := (ns.filter (fun n => n != 0)).headD 0
def leadN (ns : List Int) : Int := if 0 < hdN ns then (dv ns : Int) else -(dv ns : Int)
def plainF (r : Rw) : Option Rw :=
  if dv r.ns = 0 then (if (if r.eq then r.b == 0 else decide (r.b ≤ 0)) then some ⟨List.replicate r.ns.length 0, false, 0⟩ else none)
  else if r.eq = false then some ⟨r.ns.map (fun n => n.fdiv (dv r.ns)), false, -((-r.b).fdiv (dv r.ns))⟩
  else if r.b.fmod (dv r.ns) ≠ 0 then none
  else some ⟨r.ns.map (fun n => n.fdiv (leadN r.ns)), true, r.b.fdiv (leadN r.ns)⟩
def pvO (t : Bool) : Option Rw → PV
  | none => .non
  | some r => pvR false t r
def eP (x0 : SV) (t : Bool) (ns : List Int) (x2 x3 x4 x5 x6 : SV) : Env := [x0, .val (sq t (ns.map .int)), x2, x3, x4, x5, x6, .no, .no]
section
variable (C : Calls) (h : Hs) (x0 : SV) (t : Bool) (ns : List Int) (x2 x3 x4 x5 x6 : SV)
theorem lcDiv4 (q : Int) (h4 : x4 = .val (.int q)) (hq : q ≠ 0) (hq2 : q.natAbs < 1073741824) (hl : ns.length ≤ line) (h5 : ∀ p, x5 ≠ .own p) : evA C (.lc [7, 8] (.nm 8) (.iseq (.var 1)) .nil (.one (.bin .fdiv (.var 8) (.var 4)))) (eP x0 t ns x2 x3 x4 x5 x6) h = .ok (.v (.lst ((ns.map fun n => n.fdiv q).map .int)) true) (eP x0 t ns x2 x3 x4 x5 x6) h := by
  subst h4
  have lc := lc_map (gd := []) (C := C) (own := [7, 8]) (tg := .nm 8) (it := .iseq (.var 1)) (body := .one (.bin .fdiv (.var 8) (.var 4))) (e := eP x0 t ns x2 x3 (.val (.int q)) x5 x6) (e1 := eP x0 t ns x2 x3 (.val (.int q)) x5 x6) (h := h) (h1 := h) (xs := ns.map .int)
    (by unfold eP; simp only [evS, evA, evM, evT, evL, evR, evO, evI, Out.bind, Out.noex, lift, rd, v_non, v_bl, v_int, v_str, v_lst, v_tup, v_dic, esc, finish, mk, permute, bindT, bindTs, i_lst, i_tup, lo_lst, List.append_nil, Option.bind_some, Option.bind_none, Option.map_some, Option.map_none, Option.bind_eq_bind, List.getElem?_cons_zero, List.getElem?_cons_succ, List.getElem?_nil, List.set_cons_zero, List.set_cons_succ, List.length_cons, List.length_nil, List.mapM_cons, List.mapM_nil, Option.pure_def, Option.getD_some, and_self, Bool.not_true, Bool.not_false, if_true, if_false, Bool.false_eq_true, Bool.true_eq_false, reduceIte, Nat.reduceAdd, Nat.reduceLT, Nat.reduceSub, items_sq]) rfl (fun x => match x with | .int i => .int (i.fdiv q) | _ => .non) (eP x0 t ns x2 x3 (.val (.int q)) x5 x6) rfl (by simpa using hl) (fun p hp => by
      obtain ⟨i, _, rfl⟩ := List.mem_map.mp hp
      refine ⟨[x0, .val (sq t (ns.map .int)), x2, x3, .val (.int q), x5, x6, .no, .val (.int i)], ?_, rfl⟩
      rw [lcStep_nil (e' := [x0, .val (sq t (ns.map .int)), x2, x3, .val (.int q), x5, x6, .no, .val (.int i)]) rfl]
      simp only [evS, evA, evM, evT, evL, evR, evO, evI, Out.bind, Out.noex, lift, rd, v_non, v_bl, v_int, v_str, v_lst, v_tup, v_dic, esc, finish, mk, permute, bindT, bindTs, i_lst, i_tup, lo_lst, List.append_nil, Option.bind_some, Option.bind_none, Option.map_some, Option.map_none, Option.bind_eq_bind, List.getElem?_cons_zero, List.getElem?_cons_succ, List.getElem?_nil, List.set_cons_zero, List.set_cons_succ, List.length_cons, List.length_nil, List.mapM_cons, List.mapM_nil, Option.pure_def, Option.getD_some, and_self, Bool.not_true, Bool.not_false, if_true, if_false, Bool.false_eq_true, Bool.true_eq_false, reduceIte, Nat.reduceAdd, Nat.reduceLT, Nat.reduceSub, bDiv hq hq2])
  have hz : ((ns.map PV.int).map fun x => match x with | .int i => PV.int (i.fdiv q) | _ => .non) = (ns.map fun n => n.fdiv q).map .int := by rw [List.map_map, List.map_map]; rfl
  rw [hz] at lc
  rw [lc]; rfl
theorem lcDiv6 (q : Int) (h6 : x6 = .val (.int q)) (hq : q ≠ 0) (hq2 : q.natAbs < 1073741824) (hl : ns.length ≤ line) : evA C (.lc [7, 8] (.nm 8) (.iseq (.var 1)) .nil (.one (.bin .fdiv (.var 8) (.var 6)))) (eP x0 t ns x2 x3 x4 x5 x6) h = .ok (.v (.lst ((ns.map fun n => n.fdiv q).map .int)) true) (eP x0 t ns x2 x3 x4 x5 x6) h := by
  subst h6
  have lc := lc_map (gd := []) (C := C) (own := [7, 8]) (tg := .nm 8) (it := .iseq (.var 1)) (body := .one (.bin .fdiv (.var 8) (.var 6))) (e := eP x0 t ns x2 x3 x4 x5 (.val (.int q))) (e1 := eP x0 t ns x2 x3 x4 x5 (.val (.int q))) (h := h) (h1 := h) (xs := ns.map .int)
    (by unfold eP; simp only [evS, evA, evM, evT, evL, evR, evO, evI, Out.bind, Out.noex, lift, rd, v_non, v_bl, v_int, v_str, v_lst, v_tup, v_dic, esc, finish, mk, permute, bindT, bindTs, i_lst, i_tup, lo_lst, List.append_nil, Option.bind_some, Option.bind_none, Option.map_some, Option.map_none, Option.bind_eq_bind, List.getElem?_cons_zero, List.getElem?_cons_succ, List.getElem?_nil, List.set_cons_zero, List.set_cons_succ, List.length_cons, List.length_nil, List.mapM_cons, List.mapM_nil, Option.pure_def, Option.getD_some, and_self, Bool.not_true, Bool.not_false, if_true, if_false, Bool.false_eq_true, Bool.true_eq_false, reduceIte, Nat.reduceAdd, Nat.reduceLT, Nat.reduceSub, items_sq]) rfl (fun x => match x with | .int i => .int (i.fdiv q) | _ => .non) (eP x0 t ns x2 x3 x4 x5 (.val (.int q))) rfl (by simpa using hl) (fun p hp => by
      obtain ⟨i, _, rfl⟩ := List.mem_map.mp hp
      refine ⟨[x0, .val (sq t (ns.map .int)), x2, x3, x4, x5, .val (.int q), .no, .val (.int i)], ?_, rfl⟩
      rw [lcStep_nil (e' := [x0, .val (sq t (ns.map .int)), x2, x3, x4, x5, .val (.int q), .no, .val (.int i)]) rfl]
      simp only [evS, evA, evM, evT, evL, evR, evO, evI, Out.bind, Out.noex, lift, rd, v_non, v_bl, v_int, v_str, v_lst, v_tup, v_dic, esc, finish, mk, permute, bindT, bindTs, i_lst, i_tup, lo_lst, List.append_nil, Option.bind_some, Option.bind_none, Option.map_some, Option.map_none, Option.bind_eq_bind, List.getElem?_cons_zero, List.getElem?_cons_succ, List.getElem?_nil, List.set_cons_zero, List.set_cons_succ, List.length_cons, List.length_nil, List.mapM_cons, List.mapM_nil, Option.pure_def, Option.getD_some, and_self, Bool.not_true, Bool.not_false, if_true, if_false, Bool.false_eq_true, Bool.true_eq_false, reduceIte, Nat.reduceAdd, Nat.reduceLT, Nat.reduceSub, bDiv hq hq2])
  have hz : ((ns.map PV.int).map fun x => match x with | .int i => PV.int (i.fdiv q) | _ => .non) = (ns.map fun n => n.fdiv q).map .int := by rw [List.map_map, List.map_map]; rfl
  rw [hz] at lc
  rw [lc]; rfl
theorem lcNz (hl : ns.length ≤ line) : evA C (.lc [7, 8] (.nm 8) (.iseq (.var 1)) (.cmp .ne (.var 8) (.con (.int (0)))) (.one (.var 8))) (eP x0 t ns x2 x3 x4 x5 x6) h = .ok (.v (.lst ((ns.filter (fun n => n != 0)).map .int)) true) (eP x0 t ns x2 x3 x4 x5 x6) h := by
  obtain ⟨ps, h', q, p1, p2⟩ := lc_gen (gd := []) (C := C) (own := [7, 8]) (tg := .nm 8) (ifs := .cmp .ne (.var 8) (.con (.int (0)))) (it := .iseq (.var 1)) (body := .one (.var 8)) (e := eP x0 t ns x2 x3 x4 x5 x6) (e1 := eP x0 t ns x2 x3 x4 x5 x6) (h := h) (h1 := h) (xs := ns.map .int)
    (by unfold eP; simp only [evS, evA, evM, evT, evL, evR, evO, evI, Out.bind, Out.noex, lift, rd, v_non, v_bl, v_int, v_str, v_lst, v_tup, v_dic, esc, finish, mk, permute, bindT, bindTs, i_lst, i_tup, lo_lst, List.append_nil, Option.bind_some, Option.bind_none, Option.map_some, Option.map_none, Option.bind_eq_bind, List.getElem?_cons_zero, List.getElem?_cons_succ, List.getElem?_nil, List.set_cons_zero, List.set_cons_succ, List.length_cons, List.length_nil, List.mapM_cons, List.mapM_nil, Option.pure_def, Option.getD_some, and_self, Bool.not_true, Bool.not_false, if_true, if_false, Bool.false_eq_true, Bool.true_eq_false, reduceIte, Nat.reduceAdd, Nat.reduceLT, Nat.reduceSub, items_sq]) (fun i acc h1 => acc = ((ns.take i).filter (fun n => n != 0)).map .int ∧ h1 = h) (fun _ => eP x0 t ns x2 x3 x4 x5 x6) rfl (fun i x h1 acc hx ⟨ha, hh1⟩ => by
      subst hh1
      rw [List.getElem?_map, Option.map_eq_some_iff] at hx
      obtain ⟨n, hn, rfl⟩ := hx
      refine ⟨if (n != 0) then [.int n] else [], h1, [x0, .val (sq t (ns.map .int)), x2, x3, x4, x5, x6, .no, .val (.int n)], ?_, rfl, ?_, rfl⟩
      · have hb : bindT (.nm 8) (.int n) (wipeE [7, 8] (eP x0 t ns x2 x3 x4 x5 x6)) = some [x0, .val (sq t (ns.map .int)), x2, x3, x4, x5, x6, .no, .val (.int n)] := rfl
        unfold lcStep
        rw [hb]
        simp only [evS, evA, evM, evT, evL, evR, evO, evI, Out.bind, Out.noex, lift, rd, v_non, v_bl, v_int, v_str, v_lst, v_tup, v_dic, esc, finish, mk, permute, i_lst, i_tup, lo_lst, List.append_nil, Option.bind_some, Option.bind_none, Option.map_some, Option.map_none, Option.bind_eq_bind, List.getElem?_cons_zero, List.getElem?_cons_succ, List.getElem?_nil, List.set_cons_zero, List.set_cons_succ, List.length_cons, List.length_nil, List.mapM_cons, List.mapM_nil, Option.pure_def, Option.getD_some, and_self, Bool.not_true, Bool.not_false, if_true, if_false, Bool.false_eq_true, Bool.true_eq_false, reduceIte, Nat.reduceAdd, Nat.reduceLT, Nat.reduceSub, opCmp, eqi, truthy, Option.map]
        by_cases hz : n = 0
        · subst hz; simp
        · have h0 : (n == 0) = false := by simpa using hz
          have h1 : (n != 0) = true := by simpa using hz
          simp [h0, h1]
      · rw [ha, List.take_succ, hn]
        simp only [Option.toList, List.filter_append, List.map_append]
        congr 1
        by_cases hz : n = 0
        · subst hz; simp
        · have h1 : (n != 0) = true := by simpa using hz
          simp [List.filter, h1]) (fun _ _ _ _ => rfl) ⟨rfl, rfl⟩ (fun ps h' ⟨hp, _⟩ => by
      rw [hp, List.length_map]
      exact Nat.le_trans (List.length_filter_le _ _) (by rw [List.length_take]; omega))
  rw [List.length_map, List.take_length] at p1
  rw [q, p1, p2]; rfl
end
theorem dv_zero (ns : List Int) : dv ns = 0 ↔ ∀ n ∈ ns, n = 0 := by
  have key : ∀ (l : List Int) (f : Nat), l.foldl (fun f n => Nat.gcd n.natAbs f) f = 0 ↔ (f = 0 ∧ ∀ n ∈ l, n = 0) := by
    intro l
    induction l with
    | nil => intro f; simp
    | cons a l ih =>
      intro f
      rw [List.foldl_cons, ih, Nat.gcd_eq_zero_iff]
      simp only [List.mem_cons, forall_eq_or_imp]
      constructor
      · rintro ⟨⟨h1, h2⟩, h3⟩; exact ⟨h2, by omega, h3⟩
      · rintro ⟨h1, h2, h3⟩; exact ⟨⟨by omega, h1⟩, h3⟩
  rw [dv, key]; simp
theorem nz_hd (ns : List Int) (h : dv ns ≠ 0) : ∃ l, ns.filter (fun n => n != 0) = hdN ns :: l := by
  cases hf : ns.filter (fun n => n != 0) with
  | nil =>
    refine absurd ((dv_zero ns).mpr fun n hn => ?_) h
    by_cases hz : n = 0
    · exact hz
    · have : n ∈ ns.filter (fun n => n != 0) := List.mem_filter.mpr ⟨hn, by simpa using hz⟩
      rw [hf] at this; simp at this
  | cons a l => exact ⟨l, by unfold hdN; rw [hf]; rfl⟩
theorem dv_le (ns : List Int) (hs : ∀ n ∈ ns, n.natAbs ≤ 1000) : dv ns ≤ 1000 := by
  have key : ∀ (l : List Int) (f : Nat), f ≤ 1000 → (∀ n ∈ l, n.natAbs ≤ 1000) → l.foldl (fun f n => Nat.gcd n.natAbs f) f ≤ 1000 := by
    intro l
    induction l with
    | nil => intro f hf _; exact hf
    | cons a l ih =>
      intro f hf hl
      refine ih _ ?_ fun n hn => hl n (List.mem_cons_of_mem _ hn)
      show Nat.gcd a.natAbs f ≤ 1000
      by_cases hz : a.natAbs = 0
      · rw [hz, Nat.gcd_zero_left]; exact hf
      · exact Nat.le_trans (Nat.gcd_le_left f (by omega)) (hl a List.mem_cons_self)
  exact key ns 0 (by omega) hs
theorem Z_rep (n : Nat) : (List.replicate (n : Int).toNat [PV.int 0]).flatten = (List.replicate n (0 : Int)).map .int := by simp
theorem s_plain_of (k : Nat) (r : Rw) (h : Hs) (hs : ∀ n ∈ r.ns, n.natAbs ≤ 1000) (hl : r.ns.length ≤ 100) (hl1 : 1 ≤ r.ns.length) : callN G (k + 2) 11 [pvR false false r] h = .ret (pvO false (plainF r)) false h := by
  have hln : r.ns.length ≤ line := Nat.le_trans hl line100
  have e : pvR false false r = .tup [.tup (r.ns.map .int), .str (wd r.eq), .int r.b] := rfl
  have cd := s_cdiv k r.ns h hs
  have d1 := dv_le r.ns hs
  rw [c_plain_of, b_plain_of, e]
  by_cases hd : dv r.ns = 0
  · have hdz : ((dv r.ns : Int) == 0) = true := by simp [hd]
    have mu : opBin .mul (.tup [.int 0]) (.int (r.ns.length : Int)) = some (.tup ((List.replicate r.ns.length (0 : Int)).map .int), false) := by
      simp only [opBin]
      rw [if_pos ⟨by omega, by omega, by simp, by simp⟩, Z_rep]
    have ol : opB .len [.tup (r.ns.map .int)] = some (.int r.ns.length, false) := by simp [opB]
    cases hq : r.eq
    · have w : opEq (.str (wd false)) (.str "=") = some false := wd_eq false
      by_cases hb : r.b ≤ 0
      · simp only [evS, evA, evM, evT, evL, evR, evO, evI, Out.bind, Out.noex, lift, rd, v_non, v_bl, v_int, v_str, v_lst, v_tup, v_dic, esc, finish, mk, permute, i_lst, i_tup, lo_lst, List.append_nil, Option.bind_some, Option.bind_none, Option.map_some, Option.map_none, Option.bind_eq_bind, List.getElem?_cons_zero, List.getElem?_cons_succ, List.getElem?_nil, List.set_cons_zero, List.set_cons_succ, List.length_cons, List.length_nil, List.mapM_cons, List.mapM_nil, Option.pure_def, Option.getD_some, and_self, Bool.not_true, Bool.not_false, if_true, if_false, Bool.false_eq_true, Bool.true_eq_false, reduceIte, Nat.reduceAdd, Nat.reduceLT, Nat.reduceSub, bindT, bindTs, Option.getD_some, cd, opCmp, eqi, hdz, truthy, w, hb, decide_true, ol, mu]
        simp [plainF, hd, hq, hb, pvO, pvR, sq, wd]
      · simp only [evS, evA, evM, evT, evL, evR, evO, evI, Out.bind, Out.noex, lift, rd, v_non, v_bl, v_int, v_str, v_lst, v_tup, v_dic, esc, finish, mk, permute, i_lst, i_tup, lo_lst, List.append_nil, Option.bind_some, Option.bind_none, Option.map_some, Option.map_none, Option.bind_eq_bind, List.getElem?_cons_zero, List.getElem?_cons_succ, List.getElem?_nil, List.set_cons_zero, List.set_cons_succ, List.length_cons, List.length_nil, List.mapM_cons, List.mapM_nil, Option.pure_def, Option.getD_some, and_self, Bool.not_true, Bool.not_false, if_true, if_false, Bool.false_eq_true, Bool.true_eq_false, reduceIte, Nat.reduceAdd, Nat.reduceLT, Nat.reduceSub, bindT, bindTs, Option.getD_some, cd, opCmp, eqi, hdz, truthy, w, hb, decide_false, ol, mu]
        simp [plainF, hd, hq, hb, pvO]
    · have w : opEq (.str (wd true)) (.str "=") = some true := wd_eq true
      by_cases hb : r.b = 0
      · have hb' : (r.b == 0) = true := by simpa using hb
        simp only [evS, evA, evM, evT, evL, evR, evO, evI, Out.bind, Out.noex, lift, rd, v_non, v_bl, v_int, v_str, v_lst, v_tup, v_dic, esc, finish, mk, permute, i_lst, i_tup, lo_lst, List.append_nil, Option.bind_some, Option.bind_none, Option.map_some, Option.map_none, Option.bind_eq_bind, List.getElem?_cons_zero, List.getElem?_cons_succ, List.getElem?_nil, List.set_cons_zero, List.set_cons_succ, List.length_cons, List.length_nil, List.mapM_cons, List.mapM_nil, Option.pure_def, Option.getD_some, and_self, Bool.not_true, Bool.not_false, if_true, if_false, Bool.false_eq_true, Bool.true_eq_false, reduceIte, Nat.reduceAdd, Nat.reduceLT, Nat.reduceSub, bindT, bindTs, Option.getD_some, cd, opCmp, eqi, hdz, truthy, w, hb', ol, mu]
        simp [plainF, hd, hq, hb, pvO, pvR, sq, wd]
      · have hb' : (r.b == 0) = false := by simpa using hb
        simp only [evS, evA, evM, evT, evL, evR, evO, evI, Out.bind, Out.noex, lift, rd, v_non, v_bl, v_int, v_str, v_lst, v_tup, v_dic, esc, finish, mk, permute, i_lst, i_tup, lo_lst, List.append_nil, Option.bind_some, Option.bind_none, Option.map_some, Option.map_none, Option.bind_eq_bind, List.getElem?_cons_zero, List.getElem?_cons_succ, List.getElem?_nil, List.set_cons_zero, List.set_cons_succ, List.length_cons, List.length_nil, List.mapM_cons, List.mapM_nil, Option.pure_def, Option.getD_some, and_self, Bool.not_true, Bool.not_false, if_true, if_false, Bool.false_eq_true, Bool.true_eq_false, reduceIte, Nat.reduceAdd, Nat.reduceLT, Nat.reduceSub, bindT, bindTs, Option.getD_some, cd, opCmp, eqi, hdz, truthy, w, hb', ol, mu]
        simp [plainF, hd, hq, hb, pvO]
  · have hdz : ((dv r.ns : Int) == 0) = false := by simpa using hd
    have hne : (dv r.ns : Int) ≠ 0 := by omega
    have hsm : ((dv r.ns : Int)).natAbs < 1073741824 := by omega
    have hld : leadN r.ns ≠ 0 ∧ (leadN r.ns).natAbs < 1073741824 := by unfold leadN; split <;> omega
    cases hq : r.eq
    · have w : opEq (.str (wd false)) (.str "=") = some false := wd_eq false
      have w2 : opEq (.str (wd false)) (.str ">=") = some true := wd_ge false
      have l4 := lcDiv4 (callN G (k + 1)) h (.val (.tup [.tup (r.ns.map .int), .str (wd false), .int r.b])) false r.ns (.val (.str (wd false))) (.val (.int r.b)) (.val (.int (dv r.ns))) .no .no (dv r.ns) rfl hne hsm hln (fun p hp => by cases hp)
      simp only [eP, sq, Bool.false_eq_true, if_false] at l4
      have ot : opB .tuple [.lst ((r.ns.map fun n => n.fdiv (dv r.ns)).map .int)] = some (.tup ((r.ns.map fun n => n.fdiv (dv r.ns)).map .int), false) := rfl
      simp only [evS, evA, evM, evT, evL, evR, evO, evI, Out.bind, Out.noex, lift, rd, v_non, v_bl, v_int, v_str, v_lst, v_tup, v_dic, esc, finish, mk, permute, i_lst, i_tup, lo_lst, List.append_nil, Option.bind_some, Option.bind_none, Option.map_some, Option.map_none, Option.bind_eq_bind, List.getElem?_cons_zero, List.getElem?_cons_succ, List.getElem?_nil, List.set_cons_zero, List.set_cons_succ, List.length_cons, List.length_nil, List.mapM_cons, List.mapM_nil, Option.pure_def, Option.getD_some, and_self, Bool.not_true, Bool.not_false, if_true, if_false, Bool.false_eq_true, Bool.true_eq_false, reduceIte, Nat.reduceAdd, Nat.reduceLT, Nat.reduceSub, bindT, bindTs, Option.getD_some, cd, opCmp, eqi, hdz, truthy, w, w2, l4, ot, bDiv hne hsm]
      simp [plainF, hd, hq, pvO, pvR, sq]
    · have w : opEq (.str (wd true)) (.str "=") = some true := wd_eq true
      have w2 : opEq (.str (wd true)) (.str ">=") = some false := wd_ge true
      by_cases hm : r.b.fmod (dv r.ns) = 0
      · have hmz : (r.b.fmod (dv r.ns) == 0) = true := by simpa using hm
        obtain ⟨nl, hnl⟩ := nz_hd r.ns hd
        have lz := lcNz (callN G (k + 1)) h (.val (.tup [.tup (r.ns.map .int), .str (wd true), .int r.b])) false r.ns (.val (.str (wd true))) (.val (.int r.b)) (.val (.int (dv r.ns))) .no .no hln
        rw [hnl] at lz
        have ix : opIdx (.lst ((hdN r.ns :: nl).map .int)) (.int 0) = some (.int (hdN r.ns)) := by simp [opIdx, PL.ixN]
        have l6 := lcDiv6 (callN G (k + 1)) h (.val (.tup [.tup (r.ns.map .int), .str (wd true), .int r.b])) false r.ns (.val (.str (wd true))) (.val (.int r.b)) (.val (.int (dv r.ns))) (.val (.int (hdN r.ns))) (.val (.int (leadN r.ns))) (leadN r.ns) rfl hld.1 hld.2 hln
        simp only [eP, sq, Bool.false_eq_true, if_false] at lz l6
        have ot : opB .tuple [.lst ((r.ns.map fun n => n.fdiv (leadN r.ns)).map .int)] = some (.tup ((r.ns.map fun n => n.fdiv (leadN r.ns)).map .int), false) := rfl
        by_cases hh : 0 < hdN r.ns
        · have el : leadN r.ns = dv r.ns := by unfold leadN; rw [if_pos hh]
          rw [el] at l6 ot
          simp only [evS, evA, evM, evT, evL, evR, evO, evI, Out.bind, Out.noex, lift, rd, v_non, v_bl, v_int, v_str, v_lst, v_tup, v_dic, esc, finish, mk, permute, i_lst, i_tup, lo_lst, List.append_nil, Option.bind_some, Option.bind_none, Option.map_some, Option.map_none, Option.bind_eq_bind, List.getElem?_cons_zero, List.getElem?_cons_succ, List.getElem?_nil, List.set_cons_zero, List.set_cons_succ, List.length_cons, List.length_nil, List.mapM_cons, List.mapM_nil, Option.pure_def, Option.getD_some, and_self, Bool.not_true, Bool.not_false, if_true, if_false, Bool.false_eq_true, Bool.true_eq_false, reduceIte, Nat.reduceAdd, Nat.reduceLT, Nat.reduceSub, bindT, bindTs, Option.getD_some, cd, opCmp, eqi, hdz, truthy, w, w2, bMod hne, hmz, Option.map, lz, ix, hh, decide_true, l6, ot, bDiv hne hsm]
          simp [plainF, hd, hq, hm, pvO, pvR, sq, el]
        · have el : leadN r.ns = -(dv r.ns : Int) := by unfold leadN; rw [if_neg hh]
          rw [el] at l6 ot hld
          simp only [evS, evA, evM, evT, evL, evR, evO, evI, Out.bind, Out.noex, lift, rd, v_non, v_bl, v_int, v_str, v_lst, v_tup, v_dic, esc, finish, mk, permute, i_lst, i_tup, lo_lst, List.append_nil, Option.bind_some, Option.bind_none, Option.map_some, Option.map_none, Option.bind_eq_bind, List.getElem?_cons_zero, List.getElem?_cons_succ, List.getElem?_nil, List.set_cons_zero, List.set_cons_succ, List.length_cons, List.length_nil, List.mapM_cons, List.mapM_nil, Option.pure_def, Option.getD_some, and_self, Bool.not_true, Bool.not_false, if_true, if_false, Bool.false_eq_true, Bool.true_eq_false, reduceIte, Nat.reduceAdd, Nat.reduceLT, Nat.reduceSub, bindT, bindTs, Option.getD_some, cd, opCmp, eqi, hdz, truthy, w, w2, bMod hne, hmz, Option.map, lz, ix, hh, decide_false, l6, ot, bDiv hld.1 hld.2]
          simp [plainF, hd, hq, hm, pvO, pvR, sq, el]
      · have hmz : (r.b.fmod (dv r.ns) == 0) = false := by simpa using hm
        simp only [evS, evA, evM, evT, evL, evR, evO, evI, Out.bind, Out.noex, lift, rd, v_non, v_bl, v_int, v_str, v_lst, v_tup, v_dic, esc, finish, mk, permute, i_lst, i_tup, lo_lst, List.append_nil, Option.bind_some, Option.bind_none, Option.map_some, Option.map_none, Option.bind_eq_bind, List.getElem?_cons_zero, List.getElem?_cons_succ, List.getElem?_nil, List.set_cons_zero, List.set_cons_succ, List.length_cons, List.length_nil, List.mapM_cons, List.mapM_nil, Option.pure_def, Option.getD_some, and_self, Bool.not_true, Bool.not_false, if_true, if_false, Bool.false_eq_true, Bool.true_eq_false, reduceIte, Nat.reduceAdd, Nat.reduceLT, Nat.reduceSub, bindT, bindTs, Option.getD_some, cd, opCmp, eqi, hdz, truthy, w, w2, bMod hne, hmz, Option.map]
        simp [plainF, hd, hq, hm, pvO]
end K03

namespace K03
open PL
open PySem (Str)
theorem s_rest (k : Nat) (a b : Int) (hb : 0 < b) (hb2 : b < 1000000) (ha : -1000000 < a) (ha2 : a < 1000000) (h : Hs) : callN G (k + 1) 24 [.int a, .int b] h = .ret (.int (a.fmod b)) false h := by
  have hq : (a.fdiv b).natAbs < 2000000 := by
    have e := Int.fmod_add_mul_fdiv a b
    have r0 := Int.fmod_nonneg_of_pos a hb
    have r1 := Int.fmod_lt_of_pos a hb
    generalize a.fdiv b = q at *
    generalize a.fmod b = r at *
    have n1 : (b * q).natAbs = b.natAbs * q.natAbs := Int.natAbs_mul b q
    have n2 : q.natAbs ≤ b.natAbs * q.natAbs := Nat.le_mul_of_pos_left _ (by omega)
    omega
  have mu : opBin .mul (.int b) (.int (a.fdiv b)) = some (.int (b * a.fdiv b), false) := bMul (mulOk_of _ _ (Nat.lt_trans (show b.natAbs < 1000000 by omega) (by decide)) (Nat.lt_trans hq (by decide)))
  have oi : opB .int [.int a] = some (.int a, false) := rfl
  rw [c__law_rest, b__law_rest]
  simp only [evS, evA, evM, evT, evL, evR, evO, evI, Out.bind, Out.noex, lift, rd, v_non, v_bl, v_int, v_str, v_lst, v_tup, v_dic, esc, finish, mk, permute, i_lst, i_tup, lo_lst, List.append_nil, Option.bind_some, Option.bind_none, Option.map_some, Option.map_none, Option.bind_eq_bind, List.getElem?_cons_zero, List.getElem?_cons_succ, List.getElem?_nil, List.set_cons_zero, List.set_cons_succ, List.length_cons, List.length_nil, List.mapM_cons, List.mapM_nil, Option.pure_def, Option.getD_some, and_self, Bool.not_true, Bool.not_false, if_true, if_false, Bool.false_eq_true, Bool.true_eq_false, reduceIte, Nat.reduceAdd, Nat.reduceLT, Nat.reduceSub, oi, bDiv (show b ≠ 0 by omega) (show b.natAbs < 1073741824 by omega), mu, bSub]
  rw [Int.fmod_def]
def ldC : Ex := (.cmp .gt (.var 4) (.con (.int (0))))
def ldB : Sm := (.par 3 4 (.var 4) (.call 24 [] (.cons (.var 3) (.cons (.var 4) .nil))))
def ldS : Sm := (.seq (.par 3 4 (.bcall .abs (.cons (.var 2) .nil)) (.var 1)) (.seq (.while_ ldC ldB) (.asg 1 (.var 3))))
theorem ld_body : b__law_divisor = (.seq (.asg 1 (.con (.int (0)))) (.seq (.for_ (.nm 2) (.iseq (.var 0)) ldS) (.ret (.var 1)))) := rfl
theorem ld_while (k : Nat) (x0 x1 x2 : SV) (h : Hs) (a b : Nat) (ha : a < 1000000) (hb : b < 1000000) : ∃ e', whLoop (fun e h => evT (callN G (k + 1)) ldC e h) (fun e h => evS (callN G (k + 1)) ldB e h) LF [x0, x1, x2, .val (.int a), .val (.int b)] h = .ok .next e' h ∧ e' = [x0, x1, x2, .val (.int (Nat.gcd a b)), .val (.int 0)] := by
  obtain ⟨e', h', q, q1, q2⟩ := whLoop_run (c := fun e h => evT (callN G (k + 1)) ldC e h) (b := fun e h => evS (callN G (k + 1)) ldB e h)
    (fun m e h' => ∃ a' b' : Nat, a' < 1000000 ∧ b' < 1000000 ∧ m = b' ∧ Nat.gcd a' b' = Nat.gcd a b ∧ e = [x0, x1, x2, .val (.int a'), .val (.int b')] ∧ h' = h)
    (fun e h' => e = [x0, x1, x2, .val (.int (Nat.gcd a b)), .val (.int 0)] ∧ h' = h)
    (fun m e h' ⟨a', b', ha', hb', hm, hg, he, hh⟩ => by
      subst he; subst hh; subst hm
      by_cases hz : m = 0
      · subst hz
        rw [Nat.gcd_zero_right] at hg
        refine .inl ⟨[x0, x1, x2, .val (.int a'), .val (.int 0)], h', ?_, by rw [← hg], rfl⟩
        unfold ldC; simp only [evS, evA, evM, evT, evL, evR, evO, evI, Out.bind, Out.noex, lift, rd, v_non, v_bl, v_int, v_str, v_lst, v_tup, v_dic, esc, finish, mk, permute, bindT, bindTs, i_lst, i_tup, lo_lst, List.append_nil, Option.bind_some, Option.bind_none, Option.map_some, Option.map_none, Option.bind_eq_bind, List.getElem?_cons_zero, List.getElem?_cons_succ, List.getElem?_nil, List.set_cons_zero, List.set_cons_succ, List.length_cons, List.length_nil, List.mapM_cons, List.mapM_nil, Option.pure_def, Option.getD_some, and_self, Bool.not_true, Bool.not_false, if_true, if_false, Bool.false_eq_true, Bool.true_eq_false, reduceIte, Nat.reduceAdd, Nat.reduceLT, Nat.reduceSub, truthy, opCmp]; rfl
      · obtain ⟨g1, g2, g3⟩ := gcd_step a' m hz
        refine .inr ⟨[x0, x1, x2, .val (.int a'), .val (.int m)], h', [x0, x1, x2, .val (.int m), .val (.int ((a' : Int).fmod m))], h', ((a' : Int).fmod m).toNat, ?_, ?_, g2, m, ((a' : Int).fmod m).toNat, hb', by omega, rfl, by rw [g1, hg], by rw [Int.toNat_of_nonneg g3], rfl⟩
        · unfold ldC; simp only [evS, evA, evM, evT, evL, evR, evO, evI, Out.bind, Out.noex, lift, rd, v_non, v_bl, v_int, v_str, v_lst, v_tup, v_dic, esc, finish, mk, permute, bindT, bindTs, i_lst, i_tup, lo_lst, List.append_nil, Option.bind_some, Option.bind_none, Option.map_some, Option.map_none, Option.bind_eq_bind, List.getElem?_cons_zero, List.getElem?_cons_succ, List.getElem?_nil, List.set_cons_zero, List.set_cons_succ, List.length_cons, List.length_nil, List.mapM_cons, List.mapM_nil, Option.pure_def, Option.getD_some, and_self, Bool.not_true, Bool.not_false, if_true, if_false, Bool.false_eq_true, Bool.true_eq_false, reduceIte, Nat.reduceAdd, Nat.reduceLT, Nat.reduceSub, truthy, opCmp]
          have : decide ((0 : Int) < m) = true := by simp; omega
          rw [this]
        · have rr := s_rest k a' m (by omega) (by omega) (by omega) (by omega) h'
          unfold ldB; simp only [evS, evA, evM, evT, evL, evR, evO, evI, Out.bind, Out.noex, lift, rd, v_non, v_bl, v_int, v_str, v_lst, v_tup, v_dic, esc, finish, mk, permute, bindT, bindTs, i_lst, i_tup, lo_lst, List.append_nil, Option.bind_some, Option.bind_none, Option.map_some, Option.map_none, Option.bind_eq_bind, List.getElem?_cons_zero, List.getElem?_cons_succ, List.getElem?_nil, List.set_cons_zero, List.set_cons_succ, List.length_cons, List.length_nil, List.mapM_cons, List.mapM_nil, Option.pure_def, Option.getD_some, and_self, Bool.not_true, Bool.not_false, if_true, if_false, Bool.false_eq_true, Bool.true_eq_false, reduceIte, Nat.reduceAdd, Nat.reduceLT, Nat.reduceSub, rr])
    b LF [x0, x1, x2, .val (.int a), .val (.int b)] h (by unfold LF; omega) ⟨a, b, ha, hb, rfl, rfl, rfl, rfl⟩
  subst q2
  exact ⟨e', q, q1⟩
theorem s_ldiv (k : Nat) (ns : List Int) (h : Hs) (hs : ∀ n ∈ ns, n.natAbs ≤ 1000) : callN G (k + 2) 25 [.lst (ns.map .int)] h = .ret (.int (dv ns)) false h := by
  obtain ⟨e', h', q, f, x2, x3, x4, he, hf, hl, hh⟩ := forLoop_run (gd := []) (f := forStep (callN G (k + 1)) (.nm 2) ldS) (xs := ns.map .int)
    (fun i e h' => ∃ (f : Nat) (x2 x3 x4 : SV), e = [.val (.lst (ns.map .int)), .val (.int f), x2, x3, x4] ∧ f = dv (ns.take i) ∧ f ≤ 1000 ∧ h' = h)
    (fun i x e h' hx ⟨f, x2, x3, x4, he, hf, hl, hh⟩ => by
      subst he; subst hh
      rw [List.getElem?_map, Option.map_eq_some_iff] at hx
      obtain ⟨n, hn, rfl⟩ := hx
      have hn' := hs n (List.mem_of_getElem? hn)
      obtain ⟨e', q, he'⟩ := ld_while k (.val (.lst (ns.map .int))) (.val (.int f)) (.val (.int n)) h' n.natAbs f (by omega) (by omega)
      subst he'
      refine ⟨.next, [.val (.lst (ns.map .int)), .val (.int (Nat.gcd n.natAbs f)), .val (.int n), .val (.int (Nat.gcd n.natAbs f)), .val (.int 0)], h', ?_, .inl rfl, Nat.gcd n.natAbs f, _, _, _, rfl, ?_, ?_, rfl⟩
      · have ab : opB .abs [.int n] = some (.int (n.natAbs : Int), false) := by
          simp only [opB]; congr 3; split <;> omega
        have s1 : evS (callN G (k + 1)) (.par 3 4 (.bcall .abs (.cons (.var 2) .nil)) (.var 1)) [.val (.lst (ns.map .int)), .val (.int f), .val (.int n), x3, x4] h' = .ok .next [.val (.lst (ns.map .int)), .val (.int f), .val (.int n), .val (.int n.natAbs), .val (.int f)] h' := by
          simp only [evS, evA, evM, evT, evL, evR, evO, evI, Out.bind, Out.noex, lift, rd, v_non, v_bl, v_int, v_str, v_lst, v_tup, v_dic, esc, finish, mk, permute, bindT, bindTs, i_lst, i_tup, lo_lst, List.append_nil, Option.bind_some, Option.bind_none, Option.map_some, Option.map_none, Option.bind_eq_bind, List.getElem?_cons_zero, List.getElem?_cons_succ, List.getElem?_nil, List.set_cons_zero, List.set_cons_succ, List.length_cons, List.length_nil, List.mapM_cons, List.mapM_nil, Option.pure_def, Option.getD_some, and_self, Bool.not_true, Bool.not_false, if_true, if_false, Bool.false_eq_true, Bool.true_eq_false, reduceIte, Nat.reduceAdd, Nat.reduceLT, Nat.reduceSub, ab]
        have hb : bindT (.nm 2) (.int n) [.val (.lst (ns.map .int)), .val (.int f), x2, x3, x4] = some [.val (.lst (ns.map .int)), .val (.int f), .val (.int n), x3, x4] := rfl
        unfold forStep ldS
        rw [hb]
        show evS (callN G (k + 1)) _ _ _ = _
        rw [seq_next s1, seq_next (by rw [evS_while]; exact q)]
        simp only [evS, evA, evM, evT, evL, evR, evO, evI, Out.bind, Out.noex, lift, rd, v_non, v_bl, v_int, v_str, v_lst, v_tup, v_dic, esc, finish, mk, permute, bindT, bindTs, i_lst, i_tup, lo_lst, List.append_nil, Option.bind_some, Option.bind_none, Option.map_some, Option.map_none, Option.bind_eq_bind, List.getElem?_cons_zero, List.getElem?_cons_succ, List.getElem?_nil, List.set_cons_zero, List.set_cons_succ, List.length_cons, List.length_nil, List.mapM_cons, List.mapM_nil, Option.pure_def, Option.getD_some, and_self, Bool.not_true, Bool.not_false, if_true, if_false, Bool.false_eq_true, Bool.true_eq_false, reduceIte, Nat.reduceAdd, Nat.reduceLT, Nat.reduceSub]
      · rw [List.take_succ, hn, dv, List.foldl_append, ← dv, ← hf]; rfl
      · by_cases hz : n.natAbs = 0
        · rw [hz, Nat.gcd_zero_left]; exact hl
        · exact Nat.le_trans (Nat.gcd_le_left f (by omega)) hn')
    (fun _ _ _ _ => rfl) (e := [.val (.lst (ns.map .int)), .val (.int 0), .no, .no, .no]) (h := h) ⟨0, .no, .no, .no, rfl, rfl, by omega, rfl⟩
  rw [List.length_map, List.take_length] at hf
  subst hh
  rw [c__law_divisor, ld_body]
  have s0 : evS (callN G (k + 1)) (.asg 1 (.con (.int 0))) [.val (.lst (ns.map .int)), .no, .no, .no, .no] h' = .ok .next [.val (.lst (ns.map .int)), .val (.int 0), .no, .no, .no] h' := by simp only [evS, evA, evM, evT, evL, evR, evO, evI, Out.bind, Out.noex, lift, rd, v_non, v_bl, v_int, v_str, v_lst, v_tup, v_dic, esc, finish, mk, permute, bindT, bindTs, i_lst, i_tup, lo_lst, List.append_nil, Option.bind_some, Option.bind_none, Option.map_some, Option.map_none, Option.bind_eq_bind, List.getElem?_cons_zero, List.getElem?_cons_succ, List.getElem?_nil, List.set_cons_zero, List.set_cons_succ, List.length_cons, List.length_nil, List.mapM_cons, List.mapM_nil, Option.pure_def, Option.getD_some, and_self, Bool.not_true, Bool.not_false, if_true, if_false, Bool.false_eq_true, Bool.true_eq_false, reduceIte, Nat.reduceAdd, Nat.reduceLT, Nat.reduceSub]
  have s1 : evS (callN G (k + 1)) (.for_ (.nm 2) (.iseq (.var 0)) ldS) [.val (.lst (ns.map .int)), .val (.int 0), .no, .no, .no] h' = .ok .next e' h' := by
    rw [evS_for]
    have : evI (callN G (k + 1)) (.iseq (.var 0)) [.val (.lst (ns.map .int)), .val (.int 0), .no, .no, .no] h' = .ok (ns.map .int, []) [.val (.lst (ns.map .int)), .val (.int 0), .no, .no, .no] h' := by simp only [evS, evA, evM, evT, evL, evR, evO, evI, Out.bind, Out.noex, lift, rd, v_non, v_bl, v_int, v_str, v_lst, v_tup, v_dic, esc, finish, mk, permute, bindT, bindTs, i_lst, i_tup, lo_lst, List.append_nil, Option.bind_some, Option.bind_none, Option.map_some, Option.map_none, Option.bind_eq_bind, List.getElem?_cons_zero, List.getElem?_cons_succ, List.getElem?_nil, List.set_cons_zero, List.set_cons_succ, List.length_cons, List.length_nil, List.mapM_cons, List.mapM_nil, Option.pure_def, Option.getD_some, and_self, Bool.not_true, Bool.not_false, if_true, if_false, Bool.false_eq_true, Bool.true_eq_false, reduceIte, Nat.reduceAdd, Nat.reduceLT, Nat.reduceSub]
    rw [this, bind_okE, q]
  rw [seq_next s0, seq_next s1, he, hf]
  simp only [evS, evA, evM, evT, evL, evR, evO, evI, Out.bind, Out.noex, lift, rd, v_non, v_bl, v_int, v_str, v_lst, v_tup, v_dic, esc, finish, mk, permute, bindT, bindTs, i_lst, i_tup, lo_lst, List.append_nil, Option.bind_some, Option.bind_none, Option.map_some, Option.map_none, Option.bind_eq_bind, List.getElem?_cons_zero, List.getElem?_cons_succ, List.getElem?_nil, List.set_cons_zero, List.set_cons_succ, List.length_cons, List.length_nil, List.mapM_cons, List.mapM_nil, Option.pure_def, Option.getD_some, and_self, Bool.not_true, Bool.not_false, if_true, if_false, Bool.false_eq_true, Bool.true_eq_false, reduceIte, Nat.reduceAdd, Nat.reduceLT, Nat.reduceSub]
end K03

namespace K03
open PL
open PySem (Str)
def lp0 : Sm := (.tasg (.tp (.cons (.nm 1) (.cons (.nm 2) (.cons (.nm 3) .nil)))) (.var 0))
def lp1 : Sm := (.asg 4 (.call 25 [] (.cons (.var 1) .nil)))
def lp2 : Sm := (.ite (.cmp .eq (.var 4) (.con (.int (0)))) (.seq (.asg 5 (.ite (.cmp .eq (.var 2) (.con (.str "="))) (.cmp .eq (.var 3) (.con (.int (0)))) (.cmp .le (.var 3) (.con (.int (0)))))) (.ret (.ite (.var 5) (.tup (.cons (.bin .mul (.lst (.cons (.con (.int (0))) .nil)) (.bcall .len (.cons (.var 1) .nil))) (.cons (.con (.str ">=")) (.cons (.con (.int (0))) .nil)))) (.con .non)))) .skip)
def lp3 : Sm := (.ite (.cmp .eq (.var 2) (.con (.str ">="))) (.ret (.tup (.cons (.lc [7, 8] (.nm 8) (.iseq (.var 1)) .nil (.one (.bin .fdiv (.var 8) (.var 4)))) (.cons (.var 2) (.cons (.neg (.bin .fdiv (.neg (.var 3)) (.var 4))) .nil))))) .skip)
def lp4 : Sm := (.ite (.cmp .ne (.call 24 [] (.cons (.var 3) (.cons (.var 4) .nil))) (.con (.int (0)))) (.ret (.con .non)) .skip)
def lp5 : Sm := (.asg 6 (.ite (.cmp .gt (.idx (.lc [7, 8] (.nm 8) (.iseq (.var 1)) (.cmp .ne (.var 8) (.con (.int (0)))) (.one (.var 8))) (.con (.int (0)))) (.con (.int (0)))) (.var 4) (.neg (.var 4))))
def lp6 : Sm := (.ret (.tup (.cons (.lc [7, 8] (.nm 8) (.iseq (.var 1)) .nil (.one (.bin .fdiv (.var 8) (.var 6)))) (.cons (.var 2) (.cons (.bin .fdiv (.var 3) (.var 6)) .nil)))))
def lp2a : Sm := (.asg 5 (.ite (.cmp .eq (.var 2) (.con (.str "="))) (.cmp .eq (.var 3) (.con (.int (0)))) (.cmp .le (.var 3) (.con (.int (0))))))
def lp2b : Sm := (.ret (.ite (.var 5) (.tup (.cons (.bin .mul (.lst (.cons (.con (.int (0))) .nil)) (.bcall .len (.cons (.var 1) .nil))) (.cons (.con (.str ">=")) (.cons (.con (.int (0))) .nil)))) (.con .non)))
theorem lp_body : b__law_plain_row = (.seq lp0 (.seq lp1 (.seq lp2 (.seq lp3 (.seq lp4 (.seq lp5 lp6)))))) := rfl
theorem lp2_body : lp2 = .ite (.cmp .eq (.var 4) (.con (.int (0)))) (.seq lp2a lp2b) .skip := rfl

theorem ite_yes {C : Calls} {c : Ex} {a b : Sm} {e e1 : Env} {h h1 : Hs} (q : evT C c e h = .ok true e1 h1) : evS C (.ite c a b) e h = evS C a e1 h1 := by simp only [evS, q, bind_okE, if_true]
theorem ite_no {C : Calls} {c : Ex} {a b : Sm} {e e1 : Env} {h h1 : Hs} (q : evT C c e h = .ok false e1 h1) : evS C (.ite c a b) e h = evS C b e1 h1 := by simp only [evS, q, bind_okE, Bool.false_eq_true, if_false]
def Pu (C : Calls) (e : Env) (h : Hs) (ex : Ex) (p : PV) : Prop := ∃ fr, evA C ex e h = .ok (.v p fr) e h
def Rdv (C : Calls) (e : Env) (h : Hs) (ex : Ex) (p : PV) : Prop := ∃ r, evA C ex e h = .ok r e h ∧ rd r e h = some p
section
variable {C : Calls} {e : Env} {h : Hs}
theorem pul_nil : evL C .nil e h = .ok [] e h := by simp only [evL]
theorem pul_cons {a es : Ex} {p : PV} {ps : List PV} (ha : Pu C e h a p) (hs : evL C es e h = .ok ps e h) : evL C (.cons a es) e h = .ok (p :: ps) e h := by
  obtain ⟨fr, q⟩ := ha
  simp only [evL, q, bind_okE, esc, hs]
theorem pu_con {v : PV} : Pu C e h (.con v) v := ⟨false, by simp only [evA]⟩
theorem pu_lst {es : Ex} {ps : List PV} (hs : evL C es e h = .ok ps e h) : Pu C e h (.lst es) (.lst ps) := ⟨true, by simp only [evA, hs, bind_okE]⟩
theorem pu_tupF {es : Ex} {ps : List PV} (hs : evL C es e h = .ok ps e h) : ∃ fr, fr = false ∧ evA C (.tup es) e h = .ok (.v (.tup ps) fr) e h := ⟨false, rfl, by simp only [evA, hs, bind_okE]⟩
theorem rd_pu {ex : Ex} {p : PV} (a : Pu C e h ex p) (hv : view h p = p) : Rdv C e h ex p := by
  obtain ⟨fr, q⟩ := a
  exact ⟨_, q, by simp only [rd, hv]⟩
theorem pu_bin {a b : Ex} {op : Bop} {x y z : PV} (ha : Rdv C e h a x) (hb : Rdv C e h b y) (hz : ∃ fr, opBin op x y = some (z, fr)) : Pu C e h (.bin op a b) z := by
  obtain ⟨ra, q1, q2⟩ := ha
  obtain ⟨rb, q3, q4⟩ := hb
  obtain ⟨fr, hz⟩ := hz
  exact ⟨fr, by simp only [evA, q1, q3, bind_okE, q2, q4, hz]⟩
theorem ret_ite {c a b : Ex} {p : PV} {fr : Bool} (q : evT C c e h = .ok true e h) (qa : evA C a e h = .ok (.v p fr) e h) : evS C (.ret (.ite c a b)) e h = .ok (.ret p fr) e h := by
  simp only [evS, evA, q, bind_okE, if_true, qa]
end
theorem ret_itn {C : Calls} {e : Env} {h : Hs} {c a b : Ex} {p : PV} {fr : Bool} (q : evT C c e h = .ok false e h) (qa : evA C b e h = .ok (.v p fr) e h) : evS C (.ret (.ite c a b)) e h = .ok (.ret p fr) e h := by
  simp only [evS, evA, q, bind_okE, Bool.false_eq_true, if_false, qa]
theorem bMulL (x : PV) (n : Int) (h0 : 0 ≤ n) (h1 : n ≤ 100) : opBin .mul (.lst [x]) (.int n) = some (.lst (List.replicate n.toNat [x]).flatten, true) := by
  have hl : n.toNat ≤ line := Nat.le_trans (show n.toNat ≤ 100 by omega) line100
  simp only [opBin, List.length_singleton, Nat.one_mul]
  rw [if_pos ⟨by omega, by omega, hl⟩]
section
variable (C : Calls) (h : Hs) (x0 : SV) (ns : List Int) (q b d : Int) (w : Str) (x4 x5 x6 : SV)
theorem t_eq0 : evT C (.cmp .eq (.var 4) (.con (.int (0)))) (eP x0 true ns (.val (.str w)) (.val (.int b)) (.val (.int d)) x5 x6) h = .ok (d == 0) (eP x0 true ns (.val (.str w)) (.val (.int b)) (.val (.int d)) x5 x6) h := by
  unfold eP; simp only [evS, evA, evM, evT, evL, evR, evO, evI, Out.bind, Out.noex, lift, rd, v_non, v_bl, v_int, v_str, v_lst, v_tup, v_dic, esc, finish, mk, permute, i_lst, i_tup, lo_lst, List.append_nil, Option.bind_some, Option.bind_none, Option.map_some, Option.map_none, Option.bind_eq_bind, List.getElem?_cons_zero, List.getElem?_cons_succ, List.getElem?_nil, List.set_cons_zero, List.set_cons_succ, List.length_cons, List.length_nil, List.mapM_cons, List.mapM_nil, Option.pure_def, Option.getD_some, and_self, Bool.not_true, Bool.not_false, if_true, if_false, Bool.false_eq_true, Bool.true_eq_false, reduceIte, Nat.reduceAdd, Nat.reduceLT, Nat.reduceSub, opCmp, eqi, truthy]
theorem t_ge (z : Bool) (hw : opEq (.str w) (.str ">=") = some z) : evT C (.cmp .eq (.var 2) (.con (.str ">="))) (eP x0 true ns (.val (.str w)) (.val (.int b)) (.val (.int d)) x5 x6) h = .ok z (eP x0 true ns (.val (.str w)) (.val (.int b)) (.val (.int d)) x5 x6) h := by
  unfold eP; simp only [evS, evA, evM, evT, evL, evR, evO, evI, Out.bind, Out.noex, lift, rd, v_non, v_bl, v_int, v_str, v_lst, v_tup, v_dic, esc, finish, mk, permute, i_lst, i_tup, lo_lst, List.append_nil, Option.bind_some, Option.bind_none, Option.map_some, Option.map_none, Option.bind_eq_bind, List.getElem?_cons_zero, List.getElem?_cons_succ, List.getElem?_nil, List.set_cons_zero, List.set_cons_succ, List.length_cons, List.length_nil, List.mapM_cons, List.mapM_nil, Option.pure_def, Option.getD_some, and_self, Bool.not_true, Bool.not_false, if_true, if_false, Bool.false_eq_true, Bool.true_eq_false, reduceIte, Nat.reduceAdd, Nat.reduceLT, Nat.reduceSub, opCmp, hw, truthy]
theorem p2a (z : Bool) (hz : opEq (.str w) (.str "=") = some z) : evS C lp2a (eP x0 true ns (.val (.str w)) (.val (.int b)) (.val (.int d)) x5 x6) h = .ok .next (eP x0 true ns (.val (.str w)) (.val (.int b)) (.val (.int d)) (.val (.bl (if z then b == 0 else decide (b ≤ 0)))) x6) h := by
  unfold lp2a eP
  cases z
  · simp only [evS, evA, evM, evT, evL, evR, evO, evI, Out.bind, Out.noex, lift, rd, v_non, v_bl, v_int, v_str, v_lst, v_tup, v_dic, esc, finish, mk, permute, i_lst, i_tup, lo_lst, List.append_nil, Option.bind_some, Option.bind_none, Option.map_some, Option.map_none, Option.bind_eq_bind, List.getElem?_cons_zero, List.getElem?_cons_succ, List.getElem?_nil, List.set_cons_zero, List.set_cons_succ, List.length_cons, List.length_nil, List.mapM_cons, List.mapM_nil, Option.pure_def, Option.getD_some, and_self, Bool.not_true, Bool.not_false, if_true, if_false, Bool.false_eq_true, Bool.true_eq_false, reduceIte, Nat.reduceAdd, Nat.reduceLT, Nat.reduceSub, opCmp, hz, truthy]
  · simp only [evS, evA, evM, evT, evL, evR, evO, evI, Out.bind, Out.noex, lift, rd, v_non, v_bl, v_int, v_str, v_lst, v_tup, v_dic, esc, finish, mk, permute, i_lst, i_tup, lo_lst, List.append_nil, Option.bind_some, Option.bind_none, Option.map_some, Option.map_none, Option.bind_eq_bind, List.getElem?_cons_zero, List.getElem?_cons_succ, List.getElem?_nil, List.set_cons_zero, List.set_cons_succ, List.length_cons, List.length_nil, List.mapM_cons, List.mapM_nil, Option.pure_def, Option.getD_some, and_self, Bool.not_true, Bool.not_false, if_true, if_false, Bool.false_eq_true, Bool.true_eq_false, reduceIte, Nat.reduceAdd, Nat.reduceLT, Nat.reduceSub, opCmp, hz, truthy, eqi]
theorem p2b (z : Bool) (hl1 : 1 ≤ ns.length) (hl : ns.length ≤ 100) : evS C lp2b (eP x0 true ns (.val (.str w)) (.val (.int b)) (.val (.int d)) (.val (.bl z)) x6) h = .ok (.ret (if z then .tup [.lst ((List.replicate ns.length (0 : Int)).map .int), .str ">=", .int 0] else .non) false) (eP x0 true ns (.val (.str w)) (.val (.int b)) (.val (.int d)) (.val (.bl z)) x6) h := by
  have mu : opBin .mul (.lst [.int 0]) (.int (ns.length : Int)) = some (.lst ((List.replicate ns.length (0 : Int)).map .int), true) := by
    rw [bMulL _ _ (by omega) (by omega), Z_rep]
  have ol : opB .len [.lst (ns.map .int)] = some (.int ns.length, false) := by simp [opB]
  cases z
  · exact ret_itn (by unfold eP; simp only [evS, evA, evM, evT, evL, evR, evO, evI, Out.bind, Out.noex, lift, rd, v_non, v_bl, v_int, v_str, v_lst, v_tup, v_dic, esc, finish, mk, permute, i_lst, i_tup, lo_lst, List.append_nil, Option.bind_some, Option.bind_none, Option.map_some, Option.map_none, Option.bind_eq_bind, List.getElem?_cons_zero, List.getElem?_cons_succ, List.getElem?_nil, List.set_cons_zero, List.set_cons_succ, List.length_cons, List.length_nil, List.mapM_cons, List.mapM_nil, Option.pure_def, Option.getD_some, and_self, Bool.not_true, Bool.not_false, if_true, if_false, Bool.false_eq_true, Bool.true_eq_false, reduceIte, Nat.reduceAdd, Nat.reduceLT, Nat.reduceSub, truthy]) (by simp only [evA]; rfl)
  · have rl : Rdv C (eP x0 true ns (.val (.str w)) (.val (.int b)) (.val (.int d)) (.val (.bl true)) x6) h (.bcall .len (.cons (.var 1) .nil)) (.int ns.length) := ⟨.v (.int ns.length) false, by unfold eP sq; simp only [evS, evA, evM, evT, evL, evR, evO, evI, Out.bind, Out.noex, lift, rd, v_non, v_bl, v_int, v_str, v_lst, v_tup, v_dic, esc, finish, mk, permute, i_lst, i_tup, lo_lst, List.append_nil, Option.bind_some, Option.bind_none, Option.map_some, Option.map_none, Option.bind_eq_bind, List.getElem?_cons_zero, List.getElem?_cons_succ, List.getElem?_nil, List.set_cons_zero, List.set_cons_succ, List.length_cons, List.length_nil, List.mapM_cons, List.mapM_nil, Option.pure_def, Option.getD_some, and_self, Bool.not_true, Bool.not_false, if_true, if_false, Bool.false_eq_true, Bool.true_eq_false, reduceIte, Nat.reduceAdd, Nat.reduceLT, Nat.reduceSub, ol], rfl⟩
    obtain ⟨fr, hfr, pA⟩ := pu_tupF (pul_cons (pu_bin (rd_pu (pu_lst (pul_cons pu_con pul_nil)) rfl) rl ⟨_, mu⟩) (pul_cons (pu_con (v := .str ">=")) (pul_cons (pu_con (v := .int 0)) (pul_nil (C := C)))))
    subst hfr
    exact ret_ite (by unfold eP; simp only [evS, evA, evM, evT, evL, evR, evO, evI, Out.bind, Out.noex, lift, rd, v_non, v_bl, v_int, v_str, v_lst, v_tup, v_dic, esc, finish, mk, permute, i_lst, i_tup, lo_lst, List.append_nil, Option.bind_some, Option.bind_none, Option.map_some, Option.map_none, Option.bind_eq_bind, List.getElem?_cons_zero, List.getElem?_cons_succ, List.getElem?_nil, List.set_cons_zero, List.set_cons_succ, List.length_cons, List.length_nil, List.mapM_cons, List.mapM_nil, Option.pure_def, Option.getD_some, and_self, Bool.not_true, Bool.not_false, if_true, if_false, Bool.false_eq_true, Bool.true_eq_false, reduceIte, Nat.reduceAdd, Nat.reduceLT, Nat.reduceSub, truthy]) pA
theorem p3 (hne : d ≠ 0) (hsm : d.natAbs < 1073741824) (hln : ns.length ≤ line) : evS C (.ret (.tup (.cons (.lc [7, 8] (.nm 8) (.iseq (.var 1)) .nil (.one (.bin .fdiv (.var 8) (.var 4)))) (.cons (.var 2) (.cons (.neg (.bin .fdiv (.neg (.var 3)) (.var 4))) .nil))))) (eP x0 true ns (.val (.str w)) (.val (.int b)) (.val (.int d)) .no x6) h
    = .ok (.ret (.tup [.lst ((ns.map fun n => n.fdiv d).map .int), .str w, .int (-((-b).fdiv d))]) false) (eP x0 true ns (.val (.str w)) (.val (.int b)) (.val (.int d)) .no x6) h := by
  have l4 := lcDiv4 C h x0 true ns (.val (.str w)) (.val (.int b)) (.val (.int d)) .no x6 d rfl hne hsm hln (fun p hp => by cases hp)
  unfold eP at l4 ⊢
  simp only [evS, evA, evM, evT, evL, evR, evO, evI, Out.bind, Out.noex, lift, rd, v_non, v_bl, v_int, v_str, v_lst, v_tup, v_dic, esc, finish, mk, permute, i_lst, i_tup, lo_lst, List.append_nil, Option.bind_some, Option.bind_none, Option.map_some, Option.map_none, Option.bind_eq_bind, List.getElem?_cons_zero, List.getElem?_cons_succ, List.getElem?_nil, List.set_cons_zero, List.set_cons_succ, List.length_cons, List.length_nil, List.mapM_cons, List.mapM_nil, Option.pure_def, Option.getD_some, and_self, Bool.not_true, Bool.not_false, if_true, if_false, Bool.false_eq_true, Bool.true_eq_false, reduceIte, Nat.reduceAdd, Nat.reduceLT, Nat.reduceSub, l4, bDiv hne hsm]
theorem p6 (hne : d ≠ 0) (hsm : d.natAbs < 1073741824) (hln : ns.length ≤ line) : evS C lp6 (eP x0 true ns (.val (.str w)) (.val (.int b)) x4 x5 (.val (.int d))) h
    = .ok (.ret (.tup [.lst ((ns.map fun n => n.fdiv d).map .int), .str w, .int (b.fdiv d)]) false) (eP x0 true ns (.val (.str w)) (.val (.int b)) x4 x5 (.val (.int d))) h := by
  have l6 := lcDiv6 C h x0 true ns (.val (.str w)) (.val (.int b)) x4 x5 (.val (.int d)) d rfl hne hsm hln
  unfold lp6
  unfold eP at l6 ⊢
  simp only [evS, evA, evM, evT, evL, evR, evO, evI, Out.bind, Out.noex, lift, rd, v_non, v_bl, v_int, v_str, v_lst, v_tup, v_dic, esc, finish, mk, permute, i_lst, i_tup, lo_lst, List.append_nil, Option.bind_some, Option.bind_none, Option.map_some, Option.map_none, Option.bind_eq_bind, List.getElem?_cons_zero, List.getElem?_cons_succ, List.getElem?_nil, List.set_cons_zero, List.set_cons_succ, List.length_cons, List.length_nil, List.mapM_cons, List.mapM_nil, Option.pure_def, Option.getD_some, and_self, Bool.not_true, Bool.not_false, if_true, if_false, Bool.false_eq_true, Bool.true_eq_false, reduceIte, Nat.reduceAdd, Nat.reduceLT, Nat.reduceSub, l6, bDiv hne hsm]
theorem p5 (hd0 : ∃ l, ns.filter (fun n => n != 0) = hdN ns :: l) (hln : ns.length ≤ line) : evS C lp5 (eP x0 true ns (.val (.str w)) (.val (.int b)) (.val (.int d)) .no .no) h
    = .ok .next (eP x0 true ns (.val (.str w)) (.val (.int b)) (.val (.int d)) .no (.val (.int (if 0 < hdN ns then d else -d)))) h := by
  obtain ⟨nl, hnl⟩ := hd0
  have lz := lcNz C h x0 true ns (.val (.str w)) (.val (.int b)) (.val (.int d)) .no .no hln
  rw [hnl] at lz
  have ix : opIdx (.lst ((hdN ns :: nl).map .int)) (.int 0) = some (.int (hdN ns)) := by simp [opIdx, PL.ixN]
  unfold lp5
  unfold eP at lz ⊢
  by_cases hh : 0 < hdN ns
  · simp only [evS, evA, evM, evT, evL, evR, evO, evI, Out.bind, Out.noex, lift, rd, v_non, v_bl, v_int, v_str, v_lst, v_tup, v_dic, esc, finish, mk, permute, i_lst, i_tup, lo_lst, List.append_nil, Option.bind_some, Option.bind_none, Option.map_some, Option.map_none, Option.bind_eq_bind, List.getElem?_cons_zero, List.getElem?_cons_succ, List.getElem?_nil, List.set_cons_zero, List.set_cons_succ, List.length_cons, List.length_nil, List.mapM_cons, List.mapM_nil, Option.pure_def, Option.getD_some, and_self, Bool.not_true, Bool.not_false, if_true, if_false, Bool.false_eq_true, Bool.true_eq_false, reduceIte, Nat.reduceAdd, Nat.reduceLT, Nat.reduceSub, lz, ix, opCmp, hh, decide_true, truthy]
  · simp only [evS, evA, evM, evT, evL, evR, evO, evI, Out.bind, Out.noex, lift, rd, v_non, v_bl, v_int, v_str, v_lst, v_tup, v_dic, esc, finish, mk, permute, i_lst, i_tup, lo_lst, List.append_nil, Option.bind_some, Option.bind_none, Option.map_some, Option.map_none, Option.bind_eq_bind, List.getElem?_cons_zero, List.getElem?_cons_succ, List.getElem?_nil, List.set_cons_zero, List.set_cons_succ, List.length_cons, List.length_nil, List.mapM_cons, List.mapM_nil, Option.pure_def, Option.getD_some, and_self, Bool.not_true, Bool.not_false, if_true, if_false, Bool.false_eq_true, Bool.true_eq_false, reduceIte, Nat.reduceAdd, Nat.reduceLT, Nat.reduceSub, lz, ix, opCmp, hh, decide_false, truthy]
end
theorem p4 (k : Nat) (h : Hs) (x0 : SV) (ns : List Int) (b d : Int) (w : Str) (hd : 0 < d) (hd2 : d ≤ 1000) (hb1 : -1000 ≤ b) (hb2 : b ≤ 1000) : evS (callN G (k + 2)) lp4 (eP x0 true ns (.val (.str w)) (.val (.int b)) (.val (.int d)) .no .no) h
    = .ok (if b.fmod d = 0 then .next else .ret .non false) (eP x0 true ns (.val (.str w)) (.val (.int b)) (.val (.int d)) .no .no) h := by
  have rr := s_rest (k + 1) b d hd (by omega) (by omega) (by omega) h
  unfold lp4 eP
  by_cases hm : b.fmod d = 0
  · have hmz : (b.fmod d == 0) = true := by simpa using hm
    rw [if_pos hm]; simp only [evS, evA, evM, evT, evL, evR, evO, evI, Out.bind, Out.noex, lift, rd, v_non, v_bl, v_int, v_str, v_lst, v_tup, v_dic, esc, finish, mk, permute, i_lst, i_tup, lo_lst, List.append_nil, Option.bind_some, Option.bind_none, Option.map_some, Option.map_none, Option.bind_eq_bind, List.getElem?_cons_zero, List.getElem?_cons_succ, List.getElem?_nil, List.set_cons_zero, List.set_cons_succ, List.length_cons, List.length_nil, List.mapM_cons, List.mapM_nil, Option.pure_def, Option.getD_some, and_self, Bool.not_true, Bool.not_false, if_true, if_false, Bool.false_eq_true, Bool.true_eq_false, reduceIte, Nat.reduceAdd, Nat.reduceLT, Nat.reduceSub, rr, opCmp, eqi, hmz, Option.map, truthy]
  · have hmz : (b.fmod d == 0) = false := by simpa using hm
    rw [if_neg hm]; simp only [evS, evA, evM, evT, evL, evR, evO, evI, Out.bind, Out.noex, lift, rd, v_non, v_bl, v_int, v_str, v_lst, v_tup, v_dic, esc, finish, mk, permute, i_lst, i_tup, lo_lst, List.append_nil, Option.bind_some, Option.bind_none, Option.map_some, Option.map_none, Option.bind_eq_bind, List.getElem?_cons_zero, List.getElem?_cons_succ, List.getElem?_nil, List.set_cons_zero, List.set_cons_succ, List.length_cons, List.length_nil, List.mapM_cons, List.mapM_nil, Option.pure_def, Option.getD_some, and_self, Bool.not_true, Bool.not_false, if_true, if_false, Bool.false_eq_true, Bool.true_eq_false, reduceIte, Nat.reduceAdd, Nat.reduceLT, Nat.reduceSub, rr, opCmp, eqi, hmz, Option.map, truthy]
theorem s_lplain (k : Nat) (r : Rw) (h : Hs) (hs : ∀ n ∈ r.ns, n.natAbs ≤ 1000) (hb1 : -1000 ≤ r.b) (hb2 : r.b ≤ 1000) (hl : r.ns.length ≤ 100) (hl1 : 1 ≤ r.ns.length) : callN G (k + 3) 27 [pvR false true r] h = .ret (pvO true (plainF r)) false h := by
  have hln : r.ns.length ≤ line := Nat.le_trans hl line100
  have cd := s_ldiv k r.ns h hs
  have d1 := dv_le r.ns hs
  obtain ⟨ns, e, b⟩ := r
  simp only at *
  let x0 : SV := .val (pvR false true ⟨ns, e, b⟩)
  have e0 : evS (callN G (k + 2)) lp0 [x0, .no, .no, .no, .no, .no, .no, .no, .no] h = .ok .next (eP x0 true ns (.val (.str (wd e))) (.val (.int b)) .no .no .no) h := by
    have ex : x0 = .val (.tup [.lst (ns.map .int), .str (wd e), .int b]) := rfl
    rw [ex]; unfold lp0 eP sq; simp only [evS, evA, evM, evT, evL, evR, evO, evI, Out.bind, Out.noex, lift, rd, v_non, v_bl, v_int, v_str, v_lst, v_tup, v_dic, esc, finish, mk, permute, bindT, bindTs, i_lst, i_tup, lo_lst, List.append_nil, Option.bind_some, Option.bind_none, Option.map_some, Option.map_none, Option.bind_eq_bind, List.getElem?_cons_zero, List.getElem?_cons_succ, List.getElem?_nil, List.set_cons_zero, List.set_cons_succ, List.length_cons, List.length_nil, List.mapM_cons, List.mapM_nil, Option.pure_def, Option.getD_some, and_self, Bool.not_true, Bool.not_false, if_true, if_false, Bool.false_eq_true, Bool.true_eq_false, reduceIte, Nat.reduceAdd, Nat.reduceLT, Nat.reduceSub]
  have e1 : evS (callN G (k + 2)) lp1 (eP x0 true ns (.val (.str (wd e))) (.val (.int b)) .no .no .no) h = .ok .next (eP x0 true ns (.val (.str (wd e))) (.val (.int b)) (.val (.int (dv ns))) .no .no) h := by
    unfold lp1 eP sq; simp only [evS, evA, evM, evT, evL, evR, evO, evI, Out.bind, Out.noex, lift, rd, v_non, v_bl, v_int, v_str, v_lst, v_tup, v_dic, esc, finish, mk, permute, i_lst, i_tup, lo_lst, List.append_nil, Option.bind_some, Option.bind_none, Option.map_some, Option.map_none, Option.bind_eq_bind, List.getElem?_cons_zero, List.getElem?_cons_succ, List.getElem?_nil, List.set_cons_zero, List.set_cons_succ, List.length_cons, List.length_nil, List.mapM_cons, List.mapM_nil, Option.pure_def, Option.getD_some, and_self, Bool.not_true, Bool.not_false, if_true, if_false, Bool.false_eq_true, Bool.true_eq_false, reduceIte, Nat.reduceAdd, Nat.reduceLT, Nat.reduceSub, cd]
  rw [c__law_plain_row, lp_body]
  show finish (evS (callN G (k + 2)) _ [x0, .no, .no, .no, .no, .no, .no, .no, .no] h) = _
  rw [seq_next e0, seq_next e1]
  by_cases hd : dv ns = 0
  · have hdz : ((dv ns : Int) == 0) = true := by simp [hd]
    have t := t_eq0 (callN G (k + 2)) h x0 ns b (dv ns) (wd e) .no .no
    rw [hdz] at t
    have e2 : evS (callN G (k + 2)) lp2 (eP x0 true ns (.val (.str (wd e))) (.val (.int b)) (.val (.int (dv ns))) .no .no) h = .ok (.ret (if (if e = true then b == 0 else decide (b ≤ 0)) = true then .tup [.lst ((List.replicate ns.length (0 : Int)).map .int), .str ">=", .int 0] else .non) false) (eP x0 true ns (.val (.str (wd e))) (.val (.int b)) (.val (.int (dv ns))) (.val (.bl (if e = true then b == 0 else decide (b ≤ 0)))) .no) h := by
      rw [lp2_body, ite_yes t, seq_next (p2a _ _ _ _ _ _ _ _ _ e (wd_eq e))]
      exact p2b _ _ _ _ _ _ _ _ _ hl1 hl
    rw [seq_ret e2]
    simp only [finish, plainF, hd, if_true]
    cases (if e = true then b == 0 else decide (b ≤ 0)) <;> simp [pvO, pvR, sq, wd]
  · have hdz : ((dv ns : Int) == 0) = false := by simpa using hd
    have hne : (dv ns : Int) ≠ 0 := by omega
    have hsm : ((dv ns : Int)).natAbs < 1073741824 := by omega
    have t := t_eq0 (callN G (k + 2)) h x0 ns b (dv ns) (wd e) .no .no
    rw [hdz] at t
    have e2 : evS (callN G (k + 2)) lp2 (eP x0 true ns (.val (.str (wd e))) (.val (.int b)) (.val (.int (dv ns))) .no .no) h = .ok .next (eP x0 true ns (.val (.str (wd e))) (.val (.int b)) (.val (.int (dv ns))) .no .no) h := by
      rw [lp2_body, ite_no t]; simp only [evS]
    rw [seq_next e2]
    have t3 := t_ge (callN G (k + 2)) h x0 ns b (dv ns) (wd e) .no .no (!e) (wd_ge e)
    cases e with
    | false =>
      have e3 : evS (callN G (k + 2)) lp3 (eP x0 true ns (.val (.str (wd false))) (.val (.int b)) (.val (.int (dv ns))) .no .no) h = .ok (.ret (.tup [.lst ((ns.map fun n => n.fdiv (dv ns)).map .int), .str (wd false), .int (-((-b).fdiv (dv ns)))]) false) (eP x0 true ns (.val (.str (wd false))) (.val (.int b)) (.val (.int (dv ns))) .no .no) h := by
        unfold lp3
        rw [ite_yes t3]
        exact p3 _ _ _ _ _ _ _ _ hne hsm hln
      rw [seq_ret e3]
      simp [finish, plainF, hd, pvO, pvR, sq]
    | true =>
      have e3 : evS (callN G (k + 2)) lp3 (eP x0 true ns (.val (.str (wd true))) (.val (.int b)) (.val (.int (dv ns))) .no .no) h = .ok .next (eP x0 true ns (.val (.str (wd true))) (.val (.int b)) (.val (.int (dv ns))) .no .no) h := by
        unfold lp3
        rw [ite_no t3]; simp only [evS]
      rw [seq_next e3]
      have e4 := p4 k h x0 ns b (dv ns) (wd true) (by omega) (by omega) hb1 hb2
      by_cases hm : b.fmod (dv ns) = 0
      · rw [if_pos hm] at e4
        have e5 := p5 (callN G (k + 2)) h x0 ns b (dv ns) (wd true) (nz_hd ns hd) hln
        have el : (if 0 < hdN ns then (dv ns : Int) else -(dv ns : Int)) = leadN ns := rfl
        rw [el] at e5
        have hld : leadN ns ≠ 0 ∧ (leadN ns).natAbs < 1073741824 := by unfold leadN; split <;> omega
        have e6 := p6 (callN G (k + 2)) h x0 ns b (leadN ns) (wd true) (.val (.int (dv ns))) .no hld.1 hld.2 hln
        rw [seq_next e4, seq_next e5, e6]
        simp [finish, plainF, hd, hm, pvO, pvR, sq]
      · rw [if_neg hm] at e4
        rw [seq_ret e4]
        simp [finish, plainF, hd, hm, pvO]
end K03

namespace K03
open PL
open PySem (Str)
variable {rest : Hs}
theorem s_any_row (k c : Nat) (h : Hs) (s : SI c rest h) (m : Nat) (hm : m ≤ 4) (hc : c + 100 < 1000000) :
    ∃ (r : Rw) (h' : Hs), callN G (k + 4) 26 [.ref 1, .int m] h = .ret (pvR false true r) false h' ∧ r.ns.length = m ∧ Bdd 36 r.ns ∧ -12 ≤ r.b ∧ r.b ≤ 12 ∧ SI (c + 20) rest h' := by
  obtain ⟨x, h1, q1, s1, hx⟩ := s_pick (k + 1) c h s (by omega) [.int 0, .int 2, .int 9] (by simp) (by simp)
  have hx' : ∃ w : Int, x = .int w ∧ 0 ≤ w ∧ w ≤ 9 := by
    simp only [List.mem_cons, List.not_mem_nil, or_false] at hx
    rcases hx with rfl | rfl | rfl
    · exact ⟨0, rfl, by omega, by omega⟩
    · exact ⟨2, rfl, by omega, by omega⟩
    · exact ⟨9, rfl, by omega, by omega⟩
  obtain ⟨w, rfl, w0, w9⟩ := hx'
  obtain ⟨l, e, b, h2, q2, l1, l2, s2, b0, b1⟩ := s_row k (c + 1) h1 s1 m (by omega) (by omega) w 12 w0 (by omega) (by omega) (by omega)
  obtain ⟨d, h3, q3, s3, d0, d1⟩ := s_draw (k + 2) (c + 1 + m + 2) h2 s2 (by omega) 4 (by decide) (by decide)
  have hl : l.length ≤ line := by rw [l1]; exact Nat.le_trans (show m ≤ 100 by omega) line100
  have hsm : ∀ n ∈ l, n.natAbs < 2 ^ 200 := fun n hn => by
    have := l2 n hn
    exact Nat.lt_trans (show n.natAbs < 100 by omega) (by decide)
  have hmu : ∀ n ∈ l, opBin .mul (.int (1 + d)) (.int n) = some (.int ((1 + d) * n), false) := fun n hn => bMul (mulOk_of _ _ (Nat.lt_trans (show (1 + d).natAbs < 100 by omega) (by decide)) (hsm n hn))
  let E0 : Env := [.val (.ref 1), .val (.int m), .val (.lst (l.map .int)), .val (.str (wd e)), .val (.int b), .val (.int (1 + d)), .no, .no]
  have lc := lc_map (gd := []) (C := callN G (k + 3)) (own := [6, 7]) (tg := .nm 7) (it := .iseq (.var 2)) (body := .one (.bin .mul (.var 5) (.var 7))) (e := E0) (e1 := E0) (h := h3) (h1 := h3) (xs := l.map .int)
    (by simp only [evS, evA, evM, evT, evL, evR, evO, evI, Out.bind, Out.noex, lift, rd, v_non, v_bl, v_int, v_str, v_lst, v_tup, v_dic, esc, finish, mk, permute, bindT, bindTs, i_lst, i_tup, lo_lst, List.append_nil, Option.bind_some, Option.bind_none, Option.map_some, Option.map_none, Option.bind_eq_bind, List.getElem?_cons_zero, List.getElem?_cons_succ, List.getElem?_nil, List.set_cons_zero, List.set_cons_succ, List.length_cons, List.length_nil, List.mapM_cons, List.mapM_nil, Option.pure_def, Option.getD_some, and_self, Bool.not_true, Bool.not_false, if_true, if_false, Bool.false_eq_true, Bool.true_eq_false, reduceIte, Nat.reduceAdd, Nat.reduceLT, Nat.reduceSub, E0]) rfl (fun x => match x with | .int i => .int ((1 + d) * i) | _ => .non) E0 rfl (by simpa using hl) (fun p hp => by
      obtain ⟨i, hi, rfl⟩ := List.mem_map.mp hp
      refine ⟨[.val (.ref 1), .val (.int m), .val (.lst (l.map .int)), .val (.str (wd e)), .val (.int b), .val (.int (1 + d)), .no, .val (.int i)], ?_, rfl⟩
      rw [lcStep_nil (e' := [.val (.ref 1), .val (.int m), .val (.lst (l.map .int)), .val (.str (wd e)), .val (.int b), .val (.int (1 + d)), .no, .val (.int i)]) rfl]
      simp only [evS, evA, evM, evT, evL, evR, evO, evI, Out.bind, Out.noex, lift, rd, v_non, v_bl, v_int, v_str, v_lst, v_tup, v_dic, esc, finish, mk, permute, bindT, bindTs, i_lst, i_tup, lo_lst, List.append_nil, Option.bind_some, Option.bind_none, Option.map_some, Option.map_none, Option.bind_eq_bind, List.getElem?_cons_zero, List.getElem?_cons_succ, List.getElem?_nil, List.set_cons_zero, List.set_cons_succ, List.length_cons, List.length_nil, List.mapM_cons, List.mapM_nil, Option.pure_def, Option.getD_some, and_self, Bool.not_true, Bool.not_false, if_true, if_false, Bool.false_eq_true, Bool.true_eq_false, reduceIte, Nat.reduceAdd, Nat.reduceLT, Nat.reduceSub, hmu i hi])
  have hz : ((l.map PV.int).map fun x => match x with | .int i => PV.int ((1 + d) * i) | _ => .non) = (l.map fun n => (1 + d) * n).map .int := by rw [List.map_map, List.map_map]; rfl
  rw [hz] at lc
  simp only [backE, frzAt, frzS, E0, List.getD_cons_zero, List.getD_cons_succ, List.set_cons_zero, List.set_cons_succ] at lc
  refine ⟨⟨l.map fun n => (1 + d) * n, e, b⟩, h3, ?_, by simp [l1], fun x hx => ?_, b0, b1, s3.mono (by omega)⟩
  · rw [c__law_any_row, b__law_any_row]
    show _ = Ret.ret (.tup [.lst ((l.map fun n => (1 + d) * n).map .int), .str (wd e), .int b]) false h3
    simp only [evS, evA, evM, evT, evL, evR, evO, evI, Out.bind, Out.noex, lift, rd, v_non, v_bl, v_int, v_str, v_lst, v_tup, v_dic, esc, finish, mk, permute, i_lst, i_tup, lo_lst, List.append_nil, Option.bind_some, Option.bind_none, Option.map_some, Option.map_none, Option.bind_eq_bind, List.getElem?_cons_zero, List.getElem?_cons_succ, List.getElem?_nil, List.set_cons_zero, List.set_cons_succ, List.length_cons, List.length_nil, List.mapM_cons, List.mapM_nil, Option.pure_def, Option.getD_some, and_self, Bool.not_true, Bool.not_false, if_true, if_false, Bool.false_eq_true, Bool.true_eq_false, reduceIte, Nat.reduceAdd, Nat.reduceLT, Nat.reduceSub, bindT, bindTs, q1, q2, bAdd, q3, lc]
  · obtain ⟨n, hn, rfl⟩ := List.mem_map.mp hx
    have := l2 n hn
    have h4 : d = 0 ∨ d = 1 ∨ d = 2 ∨ d = 3 := by omega
    rcases h4 with rfl | rfl | rfl | rfl <;> omega
end K03

namespace K03
open PL
open PySem (Str)
/-- rows told, their numbers in cells from n on -/
def toldL (n : Nat) : List Rw → List PV
  | [] => []
  | r :: rs => .tup [.ref n, .str (wd r.eq), .int r.b] :: toldL (n + 1) rs
def cellsL (rs : List Rw) : Hs := rs.map fun r => Cell.lst (r.ns.map .int)
theorem toldL_snoc (r : Rw) : ∀ (rs : List Rw) (n : Nat), toldL n (rs ++ [r]) = toldL n rs ++ [.tup [.ref (n + rs.length), .str (wd r.eq), .int r.b]]
  | [], n => by simp [toldL]
  | x :: rs, n => by
    have e : n + 1 + rs.length = n + (rs.length + 1) := by omega
    simp only [List.cons_append, toldL, toldL_snoc r rs (n + 1), List.length_cons, e]
theorem trn_len (r : Rw) : (trn r).length ≤ 2 := by unfold trn; split <;> simp
theorem s_turned (k : Nat) (s t : Bool) (r : Rw) (m : Nat) (h : Hs) (hm1 : 1 ≤ m) (hm : r.ns.length = m) (hl : m ≤ 100) :
    callN G (k + 6) 9 [.int m, pvR s t r] h = .ret (.ref (h.length + (trn r).length)) false (h ++ cellsL (trn r) ++ [.lst (toldL h.length (trn r))]) := by
  have nd := s_need k s t r m h hm1 hm hl
  have tl := s_turned_lines (k + 4) r h (by rw [hm]; exact Nat.le_trans hl line100)
  let E0 : Env := [.val (.int m), .val (pvR s t r), .no, .no]
  obtain ⟨ps, h', q, p1, p2⟩ := lc_gen (gd := []) (C := callN G (k + 5)) (own := [2, 3]) (tg := .nm 3) (ifs := .nil) (it := .iseq (.call 8 [] (.cons (.call 7 [] (.cons (.var 0) (.cons (.var 1) .nil))) .nil))) (body := .one (.call 6 [] (.cons (.var 3) .nil))) (e := E0) (e1 := E0) (h := h) (h1 := h) (xs := (trn r).map (pvR false false))
    (by simp only [evS, evA, evM, evT, evL, evR, evO, evI, Out.bind, Out.noex, lift, rd, v_non, v_bl, v_int, v_str, v_lst, v_tup, v_dic, esc, finish, mk, permute, bindT, bindTs, i_lst, i_tup, lo_lst, List.append_nil, Option.bind_some, Option.bind_none, Option.map_some, Option.map_none, Option.bind_eq_bind, List.getElem?_cons_zero, List.getElem?_cons_succ, List.getElem?_nil, List.set_cons_zero, List.set_cons_succ, List.length_cons, List.length_nil, List.mapM_cons, List.mapM_nil, Option.pure_def, Option.getD_some, and_self, Bool.not_true, Bool.not_false, if_true, if_false, Bool.false_eq_true, Bool.true_eq_false, reduceIte, Nat.reduceAdd, Nat.reduceLT, Nat.reduceSub, E0, nd, tl]) (fun i acc h1 => acc = toldL h.length ((trn r).take i) ∧ h1 = h ++ cellsL ((trn r).take i)) (fun _ => E0) rfl (fun i x h1 acc hx ⟨ha, hh1⟩ => by
      rw [List.getElem?_map, Option.map_eq_some_iff] at hx
      obtain ⟨z, hz, rfl⟩ := hx
      have hi : i < (trn r).length := (List.getElem?_eq_some_iff.mp hz).1
      have td := s_told (k + 4) false z h1
      refine ⟨[.tup [.ref h1.length, .str (wd z.eq), .int z.b]], h1 ++ [.lst (z.ns.map .int)], [.val (.int m), .val (pvR s t r), .no, .val (pvR false false z)], ?_, rfl, ?_, ?_⟩
      · rw [lcStep_nil (e' := [.val (.int m), .val (pvR s t r), .no, .val (pvR false false z)]) rfl]
        simp only [evS, evA, evM, evT, evL, evR, evO, evI, Out.bind, Out.noex, lift, rd, v_non, v_bl, v_int, v_str, v_lst, v_tup, v_dic, esc, finish, mk, permute, bindT, bindTs, i_lst, i_tup, lo_lst, List.append_nil, Option.bind_some, Option.bind_none, Option.map_some, Option.map_none, Option.bind_eq_bind, List.getElem?_cons_zero, List.getElem?_cons_succ, List.getElem?_nil, List.set_cons_zero, List.set_cons_succ, List.length_cons, List.length_nil, List.mapM_cons, List.mapM_nil, Option.pure_def, Option.getD_some, and_self, Bool.not_true, Bool.not_false, if_true, if_false, Bool.false_eq_true, Bool.true_eq_false, reduceIte, Nat.reduceAdd, Nat.reduceLT, Nat.reduceSub, td]
      · rw [ha, List.take_succ, hz]
        have el : h1.length = h.length + ((trn r).take i).length := by rw [hh1]; simp [cellsL]
        rw [el]
        exact (toldL_snoc z _ _).symm
      · rw [hh1, List.take_succ, hz]
        simp [cellsL]) (fun _ _ _ _ => rfl) ⟨rfl, by simp [cellsL]⟩ (fun ps h' ⟨hp, _⟩ => by
      have key : ∀ (l : List Rw) (n : Nat), (toldL n l).length = l.length := by
        intro l
        induction l with
        | nil => intro n; rfl
        | cons a l ih => intro n; simp [toldL, ih]
      rw [hp, key, List.length_map, List.length_take]
      exact Nat.le_trans (Nat.min_le_right _ _) (Nat.le_trans (trn_len r) (by decide)))
  rw [List.length_map, List.take_length] at p1 p2
  simp only [backE, frzAt, frzS, E0, List.getD_cons_zero, List.getD_cons_succ, List.set_cons_zero, List.set_cons_succ] at q
  rw [c_turned, b_turned]
  simp only [evS, evA, evM, evT, evL, evR, evO, evI, Out.bind, Out.noex, lift, rd, v_non, v_bl, v_int, v_str, v_lst, v_tup, v_dic, esc, finish, mk, permute, i_lst, i_tup, lo_lst, List.append_nil, Option.bind_some, Option.bind_none, Option.map_some, Option.map_none, Option.bind_eq_bind, List.getElem?_cons_zero, List.getElem?_cons_succ, List.getElem?_nil, List.set_cons_zero, List.set_cons_succ, List.length_cons, List.length_nil, List.mapM_cons, List.mapM_nil, Option.pure_def, Option.getD_some, and_self, Bool.not_true, Bool.not_false, if_true, if_false, Bool.false_eq_true, Bool.true_eq_false, reduceIte, Nat.reduceAdd, Nat.reduceLT, Nat.reduceSub, q]
  subst p1; subst p2
  simp [cellsL]
end K03

namespace K03
open PL
open PySem (Str)
def tellP (n : Nat) : Option Rw → PV
  | none => .non
  | some r => .tup [.ref n, .str (wd r.eq), .int r.b]
def cellP : Option Rw → Hs
  | none => []
  | some r => [.lst (r.ns.map .int)]
theorem s_plain_row (k : Nat) (s t : Bool) (r : Rw) (m : Nat) (h : Hs) (hm1 : 1 ≤ m) (hm : r.ns.length = m) (hl : m ≤ 100) (hs : ∀ n ∈ r.ns, n.natAbs ≤ 1000) :
    callN G (k + 6) 12 [.int m, pvR s t r] h = .ret (tellP h.length (plainF r)) false (h ++ cellP (plainF r)) := by
  have nd := s_need k s t r m h hm1 hm hl
  have pf := s_plain_of (k + 3) r h hs (by omega) (by omega)
  rw [c_plain_row, b_plain_row]
  cases hp : plainF r with
  | none =>
    rw [hp] at pf
    simp only [pvO] at pf
    simp only [evS, evA, evM, evT, evL, evR, evO, evI, Out.bind, Out.noex, lift, rd, v_non, v_bl, v_int, v_str, v_lst, v_tup, v_dic, esc, finish, mk, permute, bindT, bindTs, i_lst, i_tup, lo_lst, List.append_nil, Option.bind_some, Option.bind_none, Option.map_some, Option.map_none, Option.bind_eq_bind, List.getElem?_cons_zero, List.getElem?_cons_succ, List.getElem?_nil, List.set_cons_zero, List.set_cons_succ, List.length_cons, List.length_nil, List.mapM_cons, List.mapM_nil, Option.pure_def, Option.getD_some, and_self, Bool.not_true, Bool.not_false, if_true, if_false, Bool.false_eq_true, Bool.true_eq_false, reduceIte, Nat.reduceAdd, Nat.reduceLT, Nat.reduceSub, nd, pf, opCmp, truthy]
    simp [tellP, cellP]
  | some z =>
    rw [hp] at pf
    simp only [pvO] at pf
    have td := s_told (k + 4) false z h
    have e : pvR false false z = .tup [.tup (z.ns.map .int), .str (wd z.eq), .int z.b] := rfl
    rw [e] at pf td
    simp only [evS, evA, evM, evT, evL, evR, evO, evI, Out.bind, Out.noex, lift, rd, v_non, v_bl, v_int, v_str, v_lst, v_tup, v_dic, esc, finish, mk, permute, bindT, bindTs, i_lst, i_tup, lo_lst, List.append_nil, Option.bind_some, Option.bind_none, Option.map_some, Option.map_none, Option.bind_eq_bind, List.getElem?_cons_zero, List.getElem?_cons_succ, List.getElem?_nil, List.set_cons_zero, List.set_cons_succ, List.length_cons, List.length_nil, List.mapM_cons, List.mapM_nil, Option.pure_def, Option.getD_some, and_self, Bool.not_true, Bool.not_false, if_true, if_false, Bool.false_eq_true, Bool.true_eq_false, reduceIte, Nat.reduceAdd, Nat.reduceLT, Nat.reduceSub, nd, pf, opCmp, truthy, td]
    simp [tellP, cellP]
mutual
theorem pvEq_refl : ∀ x : PV, pvEq x x = true
  | .non => rfl
  | .bl b => by simp [pvEq]
  | .int i => by simp [pvEq]
  | .str s => by simp [pvEq]
  | .ty n => by simp [pvEq]
  | .fn f => by simp [pvEq]
  | .ref n => by simp [pvEq]
  | .scr xs => by simp only [pvEq]; exact pvsEq_refl xs
  | .lst xs => by simp only [pvEq]; exact pvsEq_refl xs
  | .tup xs => by simp only [pvEq]; exact pvsEq_refl xs
  | .dic ks xs => by simp only [pvEq, pvsEq_refl xs]; simp
theorem pvsEq_refl : ∀ xs : List PV, pvsEq xs xs = true
  | [] => rfl
  | x :: xs => by simp only [pvsEq, pvEq_refl x, pvsEq_refl xs, Bool.and_self]
end
theorem gd1_ok {h : Hs} {n : Nat} {xs : List PV} (q : h[n]? = some (.lst xs)) : gdOk [(n, xs)] h = true := by
  simp [gdOk, gd1, q, pvsEq_refl]
end K03

namespace K03
open PL
open PySem (Str)
/-- in heap h, p is the pure tree t -/
inductive Rp (h : Hs) : Nat → PV → PV → Prop
  | int (d : Nat) (i : Int) : Rp h d (.int i) (.int i)
  | bl (d : Nat) (b : Bool) : Rp h d (.bl b) (.bl b)
  | non (d : Nat) : Rp h d .non .non
  | str (d : Nat) (s : Str) (ok : okD (.str s) = true) : Rp h d (.str s) (.str s)
  | lst {d : Nat} {xs ys : List PV} (l : xs.length = ys.length) (hl : xs.length ≤ line) (e : ∀ (i : Nat) (x y : PV), xs[i]? = some x → ys[i]? = some y → Rp h d x y) : Rp h (d + 1) (.lst xs) (.lst ys)
  | tup {d : Nat} {xs ys : List PV} (l : xs.length = ys.length) (hl : xs.length ≤ line) (e : ∀ (i : Nat) (x y : PV), xs[i]? = some x → ys[i]? = some y → Rp h d x y) : Rp h (d + 1) (.tup xs) (.tup ys)
  | ref {d n : Nat} {xs ys : List PV} (hn : h[n]? = some (.lst xs)) (l : xs.length = ys.length) (hl : xs.length ≤ line) (e : ∀ (i : Nat) (x y : PV), xs[i]? = some x → ys[i]? = some y → Rp h d x y) : Rp h (d + 1) (.ref n) (.lst ys)
theorem zip_get {xs ys : List PV} {p : PV} (h : p ∈ zipItems xs ys) : ∃ (i : Nat) (x y : PV), xs[i]? = some x ∧ ys[i]? = some y ∧ p = .tup [x, y] := by
  obtain ⟨i, hi⟩ := List.getElem?_of_mem h
  obtain ⟨q, r, h1, h2, h3⟩ := zip_at hi
  exact ⟨i, q, r, h1, h2, h3⟩
theorem same_lc (C : Calls) (h : Hs) (x y : PV) (xs ys : List PV) (gd : Gd) (hx : lstOf h x = some (xs, gd)) (hy : y = .lst ys) (hg : gdOk gd h = true) (l : xs.length = ys.length) (hl : xs.length ≤ line)
    (e : ∀ (i : Nat) (x y : PV), xs[i]? = some x → ys[i]? = some y → C 16 [x, y] h = .ret (.bl true) false h) (hv : ∀ p, x ≠ .tup p) :
    evA C (.lc [2, 3, 4] (.tp (.cons (.nm 3) (.cons (.nm 4) .nil))) (.izip (.var 0) (.var 1)) .nil (.one (.call 16 [] (.cons (.var 3) (.cons (.var 4) .nil))))) [.val x, .val y, .no, .no, .no] h = .ok (.v (.lst (List.replicate xs.length (.bl true))) true) [.val x, .val y, .no, .no, .no] h := by
  subst hy
  have hzl : (zipItems xs ys).length = xs.length := by rw [PL.zip_len]; omega
  have lc := lc_map (gd := gd) (C := C) (own := [2, 3, 4]) (tg := .tp (.cons (.nm 3) (.cons (.nm 4) .nil))) (it := .izip (.var 0) (.var 1)) (body := .one (.call 16 [] (.cons (.var 3) (.cons (.var 4) .nil)))) (e := [.val x, .val (.lst ys), .no, .no, .no]) (e1 := [.val x, .val (.lst ys), .no, .no, .no]) (h := h) (h1 := h) (xs := zipItems xs ys)
    (by cases x <;> simp only [lstOf] at hx <;> first | (cases hx; done) | simp only [evS, evA, evM, evT, evL, evR, evO, evI, Out.bind, Out.noex, lift, rd, v_non, v_bl, v_int, v_str, v_lst, v_tup, v_dic, esc, finish, mk, permute, bindT, bindTs, i_lst, i_tup, lo_lst, List.append_nil, Option.bind_some, Option.bind_none, Option.map_some, Option.map_none, Option.bind_eq_bind, List.getElem?_cons_zero, List.getElem?_cons_succ, List.getElem?_nil, List.set_cons_zero, List.set_cons_succ, List.length_cons, List.length_nil, List.mapM_cons, List.mapM_nil, Option.pure_def, Option.getD_some, and_self, Bool.not_true, Bool.not_false, if_true, if_false, Bool.false_eq_true, Bool.true_eq_false, reduceIte, Nat.reduceAdd, Nat.reduceLT, Nat.reduceSub, lstOf, hx]) hg (fun _ => .bl true) [.val x, .val (.lst ys), .no, .no, .no] rfl (by rw [hzl]; exact hl) (fun p hp => by
      obtain ⟨i, a, b, h1, h2, rfl⟩ := zip_get hp
      refine ⟨[.val x, .val (.lst ys), .no, .val a, .val b], ?_, rfl⟩
      rw [lcStep_nil (e' := [.val x, .val (.lst ys), .no, .val a, .val b]) rfl]
      simp only [evS, evA, evM, evT, evL, evR, evO, evI, Out.bind, Out.noex, lift, rd, v_non, v_bl, v_int, v_str, v_lst, v_tup, v_dic, esc, finish, mk, permute, bindT, bindTs, i_lst, i_tup, lo_lst, List.append_nil, Option.bind_some, Option.bind_none, Option.map_some, Option.map_none, Option.bind_eq_bind, List.getElem?_cons_zero, List.getElem?_cons_succ, List.getElem?_nil, List.set_cons_zero, List.set_cons_succ, List.length_cons, List.length_nil, List.mapM_cons, List.mapM_nil, Option.pure_def, Option.getD_some, and_self, Bool.not_true, Bool.not_false, if_true, if_false, Bool.false_eq_true, Bool.true_eq_false, reduceIte, Nat.reduceAdd, Nat.reduceLT, Nat.reduceSub, e i a b h1 h2])
  rw [lc]
  have hm : (zipItems xs ys).map (fun _ => PV.bl true) = List.replicate xs.length (.bl true) := by rw [← hzl]; exact List.map_const' ..
  rw [hm]; rfl
end K03

namespace K03
open PL
open PySem (Str)
theorem leaf_same (d : Nat) (x : PV) (k : Nat) (h : Hs) (hd : Dat 0 x) : callN G (k + d + 1) 16 [x, x] h = .ret (.bl true) false h := s_same 0 x (k + d) h hd
theorem same_lcT (C : Calls) (h : Hs) (xs ys : List PV) (l : xs.length = ys.length) (hl : xs.length ≤ line)
    (e : ∀ (i : Nat) (x y : PV), xs[i]? = some x → ys[i]? = some y → C 16 [x, y] h = .ret (.bl true) false h) :
    evA C (.lc [2, 3, 4] (.tp (.cons (.nm 3) (.cons (.nm 4) .nil))) (.izip (.var 0) (.var 1)) .nil (.one (.call 16 [] (.cons (.var 3) (.cons (.var 4) .nil))))) [.val (.tup xs), .val (.tup ys), .no, .no, .no] h = .ok (.v (.lst (List.replicate xs.length (.bl true))) true) [.val (.tup xs), .val (.tup ys), .no, .no, .no] h := by
  have hzl : (zipItems xs ys).length = xs.length := by rw [PL.zip_len]; omega
  have lc := lc_map (gd := []) (C := C) (own := [2, 3, 4]) (tg := .tp (.cons (.nm 3) (.cons (.nm 4) .nil))) (it := .izip (.var 0) (.var 1)) (body := .one (.call 16 [] (.cons (.var 3) (.cons (.var 4) .nil)))) (e := [.val (.tup xs), .val (.tup ys), .no, .no, .no]) (e1 := [.val (.tup xs), .val (.tup ys), .no, .no, .no]) (h := h) (h1 := h) (xs := zipItems xs ys)
    (by simp only [evS, evA, evM, evT, evL, evR, evO, evI, Out.bind, Out.noex, lift, rd, v_non, v_bl, v_int, v_str, v_lst, v_tup, v_dic, esc, finish, mk, permute, bindT, bindTs, i_lst, i_tup, lo_lst, List.append_nil, Option.bind_some, Option.bind_none, Option.map_some, Option.map_none, Option.bind_eq_bind, List.getElem?_cons_zero, List.getElem?_cons_succ, List.getElem?_nil, List.set_cons_zero, List.set_cons_succ, List.length_cons, List.length_nil, List.mapM_cons, List.mapM_nil, Option.pure_def, Option.getD_some, and_self, Bool.not_true, Bool.not_false, if_true, if_false, Bool.false_eq_true, Bool.true_eq_false, reduceIte, Nat.reduceAdd, Nat.reduceLT, Nat.reduceSub]) rfl (fun _ => .bl true) [.val (.tup xs), .val (.tup ys), .no, .no, .no] rfl (by rw [hzl]; exact hl) (fun p hp => by
      obtain ⟨i, a, b, h1, h2, rfl⟩ := zip_get hp
      refine ⟨[.val (.tup xs), .val (.tup ys), .no, .val a, .val b], ?_, rfl⟩
      rw [lcStep_nil (e' := [.val (.tup xs), .val (.tup ys), .no, .val a, .val b]) rfl]
      simp only [evS, evA, evM, evT, evL, evR, evO, evI, Out.bind, Out.noex, lift, rd, v_non, v_bl, v_int, v_str, v_lst, v_tup, v_dic, esc, finish, mk, permute, bindT, bindTs, i_lst, i_tup, lo_lst, List.append_nil, Option.bind_some, Option.bind_none, Option.map_some, Option.map_none, Option.bind_eq_bind, List.getElem?_cons_zero, List.getElem?_cons_succ, List.getElem?_nil, List.set_cons_zero, List.set_cons_succ, List.length_cons, List.length_nil, List.mapM_cons, List.mapM_nil, Option.pure_def, Option.getD_some, and_self, Bool.not_true, Bool.not_false, if_true, if_false, Bool.false_eq_true, Bool.true_eq_false, reduceIte, Nat.reduceAdd, Nat.reduceLT, Nat.reduceSub, e i a b h1 h2])
  rw [lc]
  have hm : (zipItems xs ys).map (fun _ => PV.bl true) = List.replicate xs.length (.bl true) := by rw [← hzl]; exact List.map_const' ..
  rw [hm]; rfl
theorem s_sameR : ∀ (d : Nat) (p t : PV) (k : Nat) (h : Hs), Rp h d p t → callN G (k + d + 1) 16 [p, t] h = .ret (.bl true) false h := by
  intro d
  induction d with
  | zero =>
    intro p t k h r
    cases r with
    | int i => exact leaf_same 0 _ k h trivial
    | bl b => exact leaf_same 0 _ k h trivial
    | non => exact leaf_same 0 _ k h trivial
    | str _ s ok => exact leaf_same 0 _ k h ok
  | succ d ih =>
    intro p t k h r
    cases r with
    | int i => exact leaf_same (d + 1) _ k h trivial
    | bl b => exact leaf_same (d + 1) _ k h trivial
    | non => exact leaf_same (d + 1) _ k h trivial
    | str _ s ok => exact leaf_same (d + 1) _ k h ok
    | lst l hl e =>
      rename_i xs ys
      have lc := same_lc (callN G (k + d + 1)) h (.lst xs) (.lst ys) xs ys [] rfl rfl rfl l hl (fun i x y h1 h2 => ih x y k h (e i x y h1 h2)) (fun p hp => by cases hp)
      have o1 : opB .len [.lst xs] = some (.int xs.length, false) := rfl
      have o2 : opB .len [.lst ys] = some (.int xs.length, false) := by rw [l]; rfl
      show callN G ((k + d + 1) + 1) 16 [.lst xs, .lst ys] h = _
      rw [c__law_same, b__law_same]
      simp only [evS, evA, evM, evT, evL, evR, evO, evI, Out.bind, Out.noex, lift, rd, v_non, v_bl, v_int, v_str, v_lst, v_tup, v_dic, esc, finish, mk, permute, i_lst, i_tup, lo_lst, List.append_nil, Option.bind_some, Option.bind_none, Option.map_some, Option.map_none, Option.bind_eq_bind, List.getElem?_cons_zero, List.getElem?_cons_succ, List.getElem?_nil, List.set_cons_zero, List.set_cons_succ, List.length_cons, List.length_nil, List.mapM_cons, List.mapM_nil, Option.pure_def, Option.getD_some, and_self, Bool.not_true, Bool.not_false, if_true, if_false, Bool.false_eq_true, Bool.true_eq_false, reduceIte, Nat.reduceAdd, Nat.reduceLT, Nat.reduceSub, typeName, i3, i6, i9, truthy, opCmp, eqb, nne, o1, o2, eqi, beq_self_eq_true, lc, all_true]
    | tup l hl e =>
      rename_i xs ys
      have lc := same_lcT (callN G (k + d + 1)) h xs ys l hl (fun i x y h1 h2 => ih x y k h (e i x y h1 h2))
      have o1 : opB .len [.tup xs] = some (.int xs.length, false) := rfl
      have o2 : opB .len [.tup ys] = some (.int xs.length, false) := by rw [l]; rfl
      show callN G ((k + d + 1) + 1) 16 [.tup xs, .tup ys] h = _
      rw [c__law_same, b__law_same]
      simp only [evS, evA, evM, evT, evL, evR, evO, evI, Out.bind, Out.noex, lift, rd, v_non, v_bl, v_int, v_str, v_lst, v_tup, v_dic, esc, finish, mk, permute, i_lst, i_tup, lo_lst, List.append_nil, Option.bind_some, Option.bind_none, Option.map_some, Option.map_none, Option.bind_eq_bind, List.getElem?_cons_zero, List.getElem?_cons_succ, List.getElem?_nil, List.set_cons_zero, List.set_cons_succ, List.length_cons, List.length_nil, List.mapM_cons, List.mapM_nil, Option.pure_def, Option.getD_some, and_self, Bool.not_true, Bool.not_false, if_true, if_false, Bool.false_eq_true, Bool.true_eq_false, reduceIte, Nat.reduceAdd, Nat.reduceLT, Nat.reduceSub, typeName, i4, i7, i8, truthy, opCmp, eqb, nne, o1, o2, eqi, beq_self_eq_true, lc, all_true]
    | ref hn l hl e =>
      rename_i n xs ys
      have lc := same_lc (callN G (k + d + 1)) h (.ref n) (.lst ys) xs ys [(n, xs)] (by simp only [lstOf, hn]) rfl (gd1_ok hn) l hl (fun i x y h1 h2 => ih x y k h (e i x y h1 h2)) (fun p hp => by cases hp)
      have o1 : opB .len [.lst xs] = some (.int xs.length, false) := rfl
      have o2 : opB .len [.lst ys] = some (.int xs.length, false) := by rw [l]; rfl
      have vr : view h (.ref n) = .lst xs := by simp only [view, hn]
      show callN G ((k + d + 1) + 1) 16 [.ref n, .lst ys] h = _
      rw [c__law_same, b__law_same]
      simp only [evS, evA, evM, evT, evL, evR, evO, evI, Out.bind, Out.noex, lift, rd, v_non, v_bl, v_int, v_str, v_lst, v_tup, v_dic, esc, finish, mk, permute, i_lst, i_tup, lo_lst, List.append_nil, Option.bind_some, Option.bind_none, Option.map_some, Option.map_none, Option.bind_eq_bind, List.getElem?_cons_zero, List.getElem?_cons_succ, List.getElem?_nil, List.set_cons_zero, List.set_cons_succ, List.length_cons, List.length_nil, List.mapM_cons, List.mapM_nil, Option.pure_def, Option.getD_some, and_self, Bool.not_true, Bool.not_false, if_true, if_false, Bool.false_eq_true, Bool.true_eq_false, reduceIte, Nat.reduceAdd, Nat.reduceLT, Nat.reduceSub, vr, typeName, i3, i6, i9, truthy, opCmp, eqb, nne, o1, o2, eqi, beq_self_eq_true, lc, all_true]
end K03

namespace K03
open PL
/-! plain mathematics -/
theorem val_cons (n p : Int) (ns ps : List Int) : val (n :: ns) (p :: ps) = n * p + val ns ps := by simp [val]
theorem val_neg : ∀ ns ps : List Int, val (ns.map (- ·)) ps = - val ns ps
  | [], ps => by simp [val]
  | n :: ns, [] => by simp [val]
  | n :: ns, p :: ps => by
    rw [List.map_cons, val_cons, val_cons, val_neg ns ps, Int.neg_mul]; omega
theorem turned_not (p : List Int) (r : Rw) : (trn r).any (rh p) = !rh p r := by
  obtain ⟨ns, e, b⟩ := r
  have hn := val_neg ns p
  cases e
  · simp only [trn, below, Bool.false_eq_true, if_false, List.any_cons, List.any_nil, Bool.or_false, rh, hn]
    by_cases h : b ≤ val ns p
    · simp [h]; omega
    · simp [h]; omega
  · simp only [trn, below, if_true, List.any_cons, List.any_nil, Bool.or_false, rh, Bool.false_eq_true, if_false, hn]
    by_cases h : val ns p = b
    · simp [h]; omega
    · have h2 : (val ns p == b) = false := by simpa using h
      rw [h2]
      simp; omega
/-- a common divisor comes out of a row's sum -/
theorem val_div (d : Int) : ∀ ns ps : List Int, (∀ n ∈ ns, ∃ q, n = d * q) → d ≠ 0 → val ns ps = d * val (ns.map fun n => n.fdiv d) ps
  | [], ps, _, _ => by simp [val]
  | n :: ns, [], _, _ => by simp [val]
  | n :: ns, p :: ps, h, hd => by
    obtain ⟨q, hq⟩ := h n List.mem_cons_self
    have e : n.fdiv d = q := by rw [hq]; exact Int.mul_fdiv_cancel_left _ hd
    rw [List.map_cons, val_cons, val_cons, val_div d ns ps (fun x hx => h x (List.mem_cons_of_mem _ hx)) hd, e, hq, Int.mul_add, Int.mul_assoc]
end K03

namespace K03
open PL
theorem dv_dvd (ns : List Int) : ∀ n ∈ ns, ∃ q, n = (dv ns : Int) * q := by
  have key : ∀ (l : List Int) (f : Nat), (l.foldl (fun f n => Nat.gcd n.natAbs f) f ∣ f) ∧ ∀ n ∈ l, l.foldl (fun f n => Nat.gcd n.natAbs f) f ∣ n.natAbs := by
    intro l
    induction l with
    | nil => intro f; exact ⟨Nat.dvd_refl _, fun n hn => by simp at hn⟩
    | cons a l ih =>
      intro f
      obtain ⟨h1, h2⟩ := ih (Nat.gcd a.natAbs f)
      refine ⟨Nat.dvd_trans h1 (Nat.gcd_dvd_right _ _), fun n hn => ?_⟩
      rcases List.mem_cons.mp hn with rfl | hn
      · exact Nat.dvd_trans h1 (Nat.gcd_dvd_left _ _)
      · exact h2 n hn
  intro n hn
  have := (key ns 0).2 n hn
  have h3 : (dv ns : Int) ∣ n := by first | exact Int.ofNat_dvd_left.mpr this | exact Int.natCast_dvd_left.mpr this | (rw [← Int.natAbs_dvd_natAbs]; simpa using this)
  obtain ⟨q, hq⟩ := h3
  exact ⟨q, hq⟩
/-- >= by a divisor above nought -/
theorem ge_div (d w b : Int) (hd : 0 < d) : (b ≤ d * w) ↔ (-((-b).fdiv d) ≤ w) := by
  have e := Int.fmod_add_mul_fdiv (-b) d
  have r0 := Int.fmod_nonneg_of_pos (-b) hd
  have r1 := Int.fmod_lt_of_pos (-b) hd
  generalize (-b).fdiv d = q at *
  generalize (-b).fmod d = r at *
  constructor
  · intro h
    have : d * (-q) < d * (w + 1) := by rw [Int.mul_neg, Int.mul_add]; omega
    have := Int.lt_of_mul_lt_mul_left this (by omega)
    omega
  · intro h
    have : d * (-q) ≤ d * w := Int.mul_le_mul_of_nonneg_left h (by omega)
    rw [Int.mul_neg] at this
    omega
end K03

namespace K03
open PL
theorem val_rep (p : List Int) : ∀ n : Nat, val (List.replicate n 0) p = 0 := by
  intro n
  induction n generalizing p with
  | zero => simp [val]
  | succ n ih =>
    cases p with
    | nil => simp [val]
    | cons a p => rw [List.replicate_succ, val_cons, ih]; omega
theorem val_zero (p : List Int) : ∀ ns : List Int, (∀ n ∈ ns, n = 0) → val ns p = 0 := by
  intro ns
  induction ns generalizing p with
  | nil => intro _; simp [val]
  | cons a ns ih =>
    intro h
    cases p with
    | nil => simp [val]
    | cons b p =>
      rw [val_cons, ih p (fun n hn => h n (List.mem_cons_of_mem _ hn)), h a List.mem_cons_self]; omega
/-- the plain row holds just where the row does -/
theorem plain_same (p : List Int) (r : Rw) : (match plainF r with | none => false | some z => rh p z) = rh p r := by
  obtain ⟨ns, e, b⟩ := r
  by_cases hd : dv ns = 0
  · have hz := val_zero p ns ((dv_zero ns).mp hd)
    cases e
    · by_cases hb : b ≤ 0 <;> simp [plainF, hd, hb, rh, hz, val_rep]
    · by_cases hb : b = 0
      · simp [plainF, hd, hb, rh, hz, val_rep]
      · simp [plainF, hd, hb, rh, hz]; omega
  · have hd0 : (0 : Int) < dv ns := by omega
    cases e
    · have hv := val_div (dv ns) ns p (dv_dvd ns) (by omega)
      simp only [plainF, hd, if_false, if_true, rh, Bool.false_eq_true]
      rw [hv]
      exact decide_eq_decide.mpr (ge_div _ _ _ hd0).symm
    · by_cases hm : b.fmod (dv ns) = 0
      · have hl0 : leadN ns ≠ 0 := by unfold leadN; split <;> omega
        have cd : ∀ x : Int, (∃ q, x = (dv ns : Int) * q) → ∃ q, x = leadN ns * q := fun x ⟨q, hq⟩ => by
          unfold leadN
          split
          · exact ⟨q, hq⟩
          · exact ⟨-q, by rw [hq, Int.neg_mul_neg]⟩
        have hv := val_div (leadN ns) ns p (fun n hn => cd n (dv_dvd ns n hn)) hl0
        have hb0 : ∃ q, b = (dv ns : Int) * q := by
          have e := Int.fmod_add_mul_fdiv b (dv ns)
          exact ⟨b.fdiv (dv ns), by omega⟩
        obtain ⟨c, hc⟩ := cd b hb0
        have hf : b.fdiv (leadN ns) = c := by rw [hc]; exact Int.mul_fdiv_cancel_left _ hl0
        simp only [plainF, hd, hm, if_false, if_true, rh, ne_eq, not_true_eq_false, Bool.true_eq_false]
        rw [hv, hf, hc]
        generalize val (ns.map fun n => n.fdiv (leadN ns)) p = w
        by_cases hw : w = c
        · subst hw; simp
        · have h1 : (w == c) = false := by simpa using hw
          have h2 : (leadN ns * w == leadN ns * c) = false := by
            simp only [beq_eq_false_iff_ne, ne_eq]
            exact fun h => hw (Int.eq_of_mul_eq_mul_left hl0 h)
          rw [h1, h2]
      · have hv := val_div (dv ns) ns p (dv_dvd ns) (by omega)
        simp only [plainF, hd, hm, if_false, if_true, rh, ne_eq, not_false_eq_true, Bool.true_eq_false]
        rw [hv]
        symm
        simp only [beq_eq_false_iff_ne, ne_eq]
        intro h
        apply hm
        rw [← h]
        exact Int.mul_fmod_right _ _
end K03

namespace K03
open PL
open PySem (Str)
def spB : Sm := (.expr (.call 17 [] (.cons (.var 1) .nil)))
theorem sp_body : b__law_spoilt = (.seq (.ite (.isi (.var 0) ["list", "tuple"]) (.for_ (.nm 1) (.iseq (.var 0)) spB) .skip) (.ite (.isi (.var 0) ["list"]) (.expr (.meth .append (.var 0) (.cons (.con (.str "late")) .nil))) .skip)) := rfl
theorem sp_int (k : Nat) (i : Int) (h : Hs) : callN G (k + 1) 17 [.int i] h = .ret .non false h := by
  rw [c__law_spoilt, sp_body]
  have e1 : evS (callN G k) (.ite (.isi (.var 0) ["list", "tuple"]) (.for_ (.nm 1) (.iseq (.var 0)) spB) .skip) [.val (.int i), .no] h = .ok .next [.val (.int i), .no] h := by
    rw [ite_no (e1 := [.val (.int i), .no]) (h1 := h) (by simp only [evS, evA, evM, evT, evL, evR, evO, evI, Out.bind, Out.noex, lift, rd, v_non, v_bl, v_int, v_str, v_lst, v_tup, v_dic, esc, finish, mk, permute, i_lst, i_tup, lo_lst, List.append_nil, Option.bind_some, Option.bind_none, Option.map_some, Option.map_none, Option.bind_eq_bind, List.getElem?_cons_zero, List.getElem?_cons_succ, List.getElem?_nil, List.set_cons_zero, List.set_cons_succ, List.length_cons, List.length_nil, List.mapM_cons, List.mapM_nil, Option.pure_def, Option.getD_some, and_self, Bool.not_true, Bool.not_false, if_true, if_false, Bool.false_eq_true, Bool.true_eq_false, reduceIte, Nat.reduceAdd, Nat.reduceLT, Nat.reduceSub, typeName, y1, truthy])]; simp only [evS]
  rw [seq_next e1, ite_no (e1 := [.val (.int i), .no]) (h1 := h) (by simp only [evS, evA, evM, evT, evL, evR, evO, evI, Out.bind, Out.noex, lift, rd, v_non, v_bl, v_int, v_str, v_lst, v_tup, v_dic, esc, finish, mk, permute, i_lst, i_tup, lo_lst, List.append_nil, Option.bind_some, Option.bind_none, Option.map_some, Option.map_none, Option.bind_eq_bind, List.getElem?_cons_zero, List.getElem?_cons_succ, List.getElem?_nil, List.set_cons_zero, List.set_cons_succ, List.length_cons, List.length_nil, List.mapM_cons, List.mapM_nil, Option.pure_def, Option.getD_some, and_self, Bool.not_true, Bool.not_false, if_true, if_false, Bool.false_eq_true, Bool.true_eq_false, reduceIte, Nat.reduceAdd, Nat.reduceLT, Nat.reduceSub, typeName, show isAny "int" ["list"] = false by decide, truthy])]
  simp only [evS, finish]
theorem sp_str (k : Nat) (i : Str) (h : Hs) : callN G (k + 1) 17 [.str i] h = .ret .non false h := by
  rw [c__law_spoilt, sp_body]
  have e1 : evS (callN G k) (.ite (.isi (.var 0) ["list", "tuple"]) (.for_ (.nm 1) (.iseq (.var 0)) spB) .skip) [.val (.str i), .no] h = .ok .next [.val (.str i), .no] h := by
    rw [ite_no (e1 := [.val (.str i), .no]) (h1 := h) (by simp only [evS, evA, evM, evT, evL, evR, evO, evI, Out.bind, Out.noex, lift, rd, v_non, v_bl, v_int, v_str, v_lst, v_tup, v_dic, esc, finish, mk, permute, i_lst, i_tup, lo_lst, List.append_nil, Option.bind_some, Option.bind_none, Option.map_some, Option.map_none, Option.bind_eq_bind, List.getElem?_cons_zero, List.getElem?_cons_succ, List.getElem?_nil, List.set_cons_zero, List.set_cons_succ, List.length_cons, List.length_nil, List.mapM_cons, List.mapM_nil, Option.pure_def, Option.getD_some, and_self, Bool.not_true, Bool.not_false, if_true, if_false, Bool.false_eq_true, Bool.true_eq_false, reduceIte, Nat.reduceAdd, Nat.reduceLT, Nat.reduceSub, typeName, y4, truthy])]; simp only [evS]
  rw [seq_next e1, ite_no (e1 := [.val (.str i), .no]) (h1 := h) (by simp only [evS, evA, evM, evT, evL, evR, evO, evI, Out.bind, Out.noex, lift, rd, v_non, v_bl, v_int, v_str, v_lst, v_tup, v_dic, esc, finish, mk, permute, i_lst, i_tup, lo_lst, List.append_nil, Option.bind_some, Option.bind_none, Option.map_some, Option.map_none, Option.bind_eq_bind, List.getElem?_cons_zero, List.getElem?_cons_succ, List.getElem?_nil, List.set_cons_zero, List.set_cons_succ, List.length_cons, List.length_nil, List.mapM_cons, List.mapM_nil, Option.pure_def, Option.getD_some, and_self, Bool.not_true, Bool.not_false, if_true, if_false, Bool.false_eq_true, Bool.true_eq_false, reduceIte, Nat.reduceAdd, Nat.reduceLT, Nat.reduceSub, typeName, show isAny "str" ["list"] = false by decide, truthy])]
  simp only [evS, finish]
end K03

namespace K03
open PL
open PySem (Str)
theorem sp_cell (k n : Nat) (l : List Int) (h : Hs) (hn : h[n]? = some (.lst (l.map .int))) (hl : l.length < line) : callN G (k + 2) 17 [.ref n] h = .ret .non false (h.set n (.lst (l.map .int ++ [.str "late"]))) := by
  have vr : view h (.ref n) = .lst (l.map .int) := by simp only [view, hn]
  obtain ⟨e', h', q, x1, he, hh⟩ := forLoop_run (gd := [(n, l.map .int)]) (f := forStep (callN G (k + 1)) (.nm 1) spB) (xs := l.map .int)
    (fun i e h' => ∃ x1 : SV, e = [.val (.ref n), x1] ∧ h' = h)
    (fun i x e h' hx ⟨x1, he, hh⟩ => by
      subst he; subst hh
      obtain ⟨j, _, rfl⟩ := List.mem_map.mp (List.mem_of_getElem? hx)
      refine ⟨.next, [.val (.ref n), .val (.int j)], h', ?_, .inl rfl, _, rfl, rfl⟩
      unfold forStep spB
      simp only [evS, evA, evM, evT, evL, evR, evO, evI, Out.bind, Out.noex, lift, rd, v_non, v_bl, v_int, v_str, v_lst, v_tup, v_dic, esc, finish, mk, permute, bindT, bindTs, i_lst, i_tup, lo_lst, List.append_nil, Option.bind_some, Option.bind_none, Option.map_some, Option.map_none, Option.bind_eq_bind, List.getElem?_cons_zero, List.getElem?_cons_succ, List.getElem?_nil, List.set_cons_zero, List.set_cons_succ, List.length_cons, List.length_nil, List.mapM_cons, List.mapM_nil, Option.pure_def, Option.getD_some, and_self, Bool.not_true, Bool.not_false, if_true, if_false, Bool.false_eq_true, Bool.true_eq_false, reduceIte, Nat.reduceAdd, Nat.reduceLT, Nat.reduceSub, sp_int k])
    (fun i e h' ⟨x1, he, hh⟩ => by rw [hh]; exact gd1_ok hn) (e := [.val (.ref n), .no]) (h := h) ⟨.no, rfl, rfl⟩
  have e1 : evS (callN G (k + 1)) (.ite (.isi (.var 0) ["list", "tuple"]) (.for_ (.nm 1) (.iseq (.var 0)) spB) .skip) [.val (.ref n), .no] h = .ok .next [.val (.ref n), x1] h := by
    rw [ite_yes (e1 := [.val (.ref n), .no]) (h1 := h) (by simp only [evS, evA, evM, evT, evL, evR, evO, evI, Out.bind, Out.noex, lift, rd, v_non, v_bl, v_int, v_str, v_lst, v_tup, v_dic, esc, finish, mk, permute, i_lst, i_tup, lo_lst, List.append_nil, Option.bind_some, Option.bind_none, Option.map_some, Option.map_none, Option.bind_eq_bind, List.getElem?_cons_zero, List.getElem?_cons_succ, List.getElem?_nil, List.set_cons_zero, List.set_cons_succ, List.length_cons, List.length_nil, List.mapM_cons, List.mapM_nil, Option.pure_def, Option.getD_some, and_self, Bool.not_true, Bool.not_false, if_true, if_false, Bool.false_eq_true, Bool.true_eq_false, reduceIte, Nat.reduceAdd, Nat.reduceLT, Nat.reduceSub, vr, typeName, i3, truthy]), evS_for]
    have : evI (callN G (k + 1)) (.iseq (.var 0)) [.val (.ref n), .no] h = .ok (l.map .int, [(n, l.map .int)]) [.val (.ref n), .no] h := by simp only [evS, evA, evM, evT, evL, evR, evO, evI, Out.bind, Out.noex, lift, rd, v_non, v_bl, v_int, v_str, v_lst, v_tup, v_dic, esc, finish, mk, permute, i_lst, i_tup, lo_lst, List.append_nil, Option.bind_some, Option.bind_none, Option.map_some, Option.map_none, Option.bind_eq_bind, List.getElem?_cons_zero, List.getElem?_cons_succ, List.getElem?_nil, List.set_cons_zero, List.set_cons_succ, List.length_cons, List.length_nil, List.mapM_cons, List.mapM_nil, Option.pure_def, Option.getD_some, and_self, Bool.not_true, Bool.not_false, if_true, if_false, Bool.false_eq_true, Bool.true_eq_false, reduceIte, Nat.reduceAdd, Nat.reduceLT, Nat.reduceSub, seqOf, lstOf, hn]
    rw [this, bind_okE, q, he, hh]
  have ap : opM .append (l.map .int) [.str "late"] = some (.non, l.map .int ++ [.str "late"]) := by simp [opM, hl]
  rw [c__law_spoilt, sp_body, seq_next e1, ite_yes (e1 := [.val (.ref n), x1]) (h1 := h) (by simp only [evS, evA, evM, evT, evL, evR, evO, evI, Out.bind, Out.noex, lift, rd, v_non, v_bl, v_int, v_str, v_lst, v_tup, v_dic, esc, finish, mk, permute, i_lst, i_tup, lo_lst, List.append_nil, Option.bind_some, Option.bind_none, Option.map_some, Option.map_none, Option.bind_eq_bind, List.getElem?_cons_zero, List.getElem?_cons_succ, List.getElem?_nil, List.set_cons_zero, List.set_cons_succ, List.length_cons, List.length_nil, List.mapM_cons, List.mapM_nil, Option.pure_def, Option.getD_some, and_self, Bool.not_true, Bool.not_false, if_true, if_false, Bool.false_eq_true, Bool.true_eq_false, reduceIte, Nat.reduceAdd, Nat.reduceLT, Nat.reduceSub, vr, typeName, i6, truthy])]
  simp only [evS, evA, evM, evT, evL, evR, evO, evI, Out.bind, Out.noex, lift, rd, v_non, v_bl, v_int, v_str, v_lst, v_tup, v_dic, esc, finish, mk, permute, i_lst, i_tup, lo_lst, List.append_nil, Option.bind_some, Option.bind_none, Option.map_some, Option.map_none, Option.bind_eq_bind, List.getElem?_cons_zero, List.getElem?_cons_succ, List.getElem?_nil, List.set_cons_zero, List.set_cons_succ, List.length_cons, List.length_nil, List.mapM_cons, List.mapM_nil, Option.pure_def, Option.getD_some, and_self, Bool.not_true, Bool.not_false, if_true, if_false, Bool.false_eq_true, Bool.true_eq_false, reduceIte, Nat.reduceAdd, Nat.reduceLT, Nat.reduceSub, mut?, hn, ap, put]
end K03

namespace K03
open PL
open PySem (Str)
/-- a told row: its numbers in a cell -/
theorem sp_tup (k a : Nat) (w : Str) (b : Int) (l : List Int) (h : Hs) (hn : h[a]? = some (.lst (l.map .int))) (hl : l.length < line) : callN G (k + 3) 17 [.tup [.ref a, .str w, .int b]] h = .ret .non false (h.set a (.lst (l.map .int ++ [.str "late"]))) := by
  have c1 := sp_cell k a l h hn hl
  have f : forLoop [] (forStep (callN G (k + 2)) (.nm 1) spB) [.ref a, .str w, .int b] [.val (.tup [.ref a, .str w, .int b]), .no] h = .ok .next [.val (.tup [.ref a, .str w, .int b]), .val (.int b)] (h.set a (.lst (l.map .int ++ [.str "late"]))) := by
    have s1 : forStep (callN G (k + 2)) (.nm 1) spB (.ref a) [.val (.tup [.ref a, .str w, .int b]), .no] h = .ok .next [.val (.tup [.ref a, .str w, .int b]), .val (.ref a)] (h.set a (.lst (l.map .int ++ [.str "late"]))) := by
      unfold forStep spB; simp only [evS, evA, evM, evT, evL, evR, evO, evI, Out.bind, Out.noex, lift, rd, v_non, v_bl, v_int, v_str, v_lst, v_tup, v_dic, esc, finish, mk, permute, bindT, bindTs, i_lst, i_tup, lo_lst, List.append_nil, Option.bind_some, Option.bind_none, Option.map_some, Option.map_none, Option.bind_eq_bind, List.getElem?_cons_zero, List.getElem?_cons_succ, List.getElem?_nil, List.set_cons_zero, List.set_cons_succ, List.length_cons, List.length_nil, List.mapM_cons, List.mapM_nil, Option.pure_def, Option.getD_some, and_self, Bool.not_true, Bool.not_false, if_true, if_false, Bool.false_eq_true, Bool.true_eq_false, reduceIte, Nat.reduceAdd, Nat.reduceLT, Nat.reduceSub, c1]
    have s2 : forStep (callN G (k + 2)) (.nm 1) spB (.str w) [.val (.tup [.ref a, .str w, .int b]), .val (.ref a)] (h.set a (.lst (l.map .int ++ [.str "late"]))) = .ok .next [.val (.tup [.ref a, .str w, .int b]), .val (.str w)] (h.set a (.lst (l.map .int ++ [.str "late"]))) := by
      unfold forStep spB; simp only [evS, evA, evM, evT, evL, evR, evO, evI, Out.bind, Out.noex, lift, rd, v_non, v_bl, v_int, v_str, v_lst, v_tup, v_dic, esc, finish, mk, permute, bindT, bindTs, i_lst, i_tup, lo_lst, List.append_nil, Option.bind_some, Option.bind_none, Option.map_some, Option.map_none, Option.bind_eq_bind, List.getElem?_cons_zero, List.getElem?_cons_succ, List.getElem?_nil, List.set_cons_zero, List.set_cons_succ, List.length_cons, List.length_nil, List.mapM_cons, List.mapM_nil, Option.pure_def, Option.getD_some, and_self, Bool.not_true, Bool.not_false, if_true, if_false, Bool.false_eq_true, Bool.true_eq_false, reduceIte, Nat.reduceAdd, Nat.reduceLT, Nat.reduceSub, sp_str (k + 1)]
    have s3 : forStep (callN G (k + 2)) (.nm 1) spB (.int b) [.val (.tup [.ref a, .str w, .int b]), .val (.str w)] (h.set a (.lst (l.map .int ++ [.str "late"]))) = .ok .next [.val (.tup [.ref a, .str w, .int b]), .val (.int b)] (h.set a (.lst (l.map .int ++ [.str "late"]))) := by
      unfold forStep spB; simp only [evS, evA, evM, evT, evL, evR, evO, evI, Out.bind, Out.noex, lift, rd, v_non, v_bl, v_int, v_str, v_lst, v_tup, v_dic, esc, finish, mk, permute, bindT, bindTs, i_lst, i_tup, lo_lst, List.append_nil, Option.bind_some, Option.bind_none, Option.map_some, Option.map_none, Option.bind_eq_bind, List.getElem?_cons_zero, List.getElem?_cons_succ, List.getElem?_nil, List.set_cons_zero, List.set_cons_succ, List.length_cons, List.length_nil, List.mapM_cons, List.mapM_nil, Option.pure_def, Option.getD_some, and_self, Bool.not_true, Bool.not_false, if_true, if_false, Bool.false_eq_true, Bool.true_eq_false, reduceIte, Nat.reduceAdd, Nat.reduceLT, Nat.reduceSub, sp_int (k + 1)]
    rw [forLoop, if_pos (gdOk_nil _), s1, bind_okE]
    show forLoop [] _ [.str w, .int b] _ _ = _
    rw [forLoop, if_pos (gdOk_nil _), s2, bind_okE]
    show forLoop [] _ [.int b] _ _ = _
    rw [forLoop, if_pos (gdOk_nil _), s3, bind_okE]
    show forLoop [] _ [] _ _ = _
    rw [forLoop, if_pos (gdOk_nil _)]
  have e1 : evS (callN G (k + 2)) (.ite (.isi (.var 0) ["list", "tuple"]) (.for_ (.nm 1) (.iseq (.var 0)) spB) .skip) [.val (.tup [.ref a, .str w, .int b]), .no] h = .ok .next [.val (.tup [.ref a, .str w, .int b]), .val (.int b)] (h.set a (.lst (l.map .int ++ [.str "late"]))) := by
    rw [ite_yes (e1 := [.val (.tup [.ref a, .str w, .int b]), .no]) (h1 := h) (by simp only [evS, evA, evM, evT, evL, evR, evO, evI, Out.bind, Out.noex, lift, rd, v_non, v_bl, v_int, v_str, v_lst, v_tup, v_dic, esc, finish, mk, permute, i_lst, i_tup, lo_lst, List.append_nil, Option.bind_some, Option.bind_none, Option.map_some, Option.map_none, Option.bind_eq_bind, List.getElem?_cons_zero, List.getElem?_cons_succ, List.getElem?_nil, List.set_cons_zero, List.set_cons_succ, List.length_cons, List.length_nil, List.mapM_cons, List.mapM_nil, Option.pure_def, Option.getD_some, and_self, Bool.not_true, Bool.not_false, if_true, if_false, Bool.false_eq_true, Bool.true_eq_false, reduceIte, Nat.reduceAdd, Nat.reduceLT, Nat.reduceSub, typeName, i4, truthy]), evS_for]
    have : evI (callN G (k + 2)) (.iseq (.var 0)) [.val (.tup [.ref a, .str w, .int b]), .no] h = .ok ([.ref a, .str w, .int b], []) [.val (.tup [.ref a, .str w, .int b]), .no] h := by simp only [evS, evA, evM, evT, evL, evR, evO, evI, Out.bind, Out.noex, lift, rd, v_non, v_bl, v_int, v_str, v_lst, v_tup, v_dic, esc, finish, mk, permute, i_lst, i_tup, lo_lst, List.append_nil, Option.bind_some, Option.bind_none, Option.map_some, Option.map_none, Option.bind_eq_bind, List.getElem?_cons_zero, List.getElem?_cons_succ, List.getElem?_nil, List.set_cons_zero, List.set_cons_succ, List.length_cons, List.length_nil, List.mapM_cons, List.mapM_nil, Option.pure_def, Option.getD_some, and_self, Bool.not_true, Bool.not_false, if_true, if_false, Bool.false_eq_true, Bool.true_eq_false, reduceIte, Nat.reduceAdd, Nat.reduceLT, Nat.reduceSub]
    rw [this, bind_okE, f]
  rw [c__law_spoilt, sp_body, seq_next e1, ite_no (e1 := [.val (.tup [.ref a, .str w, .int b]), .val (.int b)]) (h1 := h.set a (.lst (l.map .int ++ [.str "late"]))) (by simp only [evS, evA, evM, evT, evL, evR, evO, evI, Out.bind, Out.noex, lift, rd, v_non, v_bl, v_int, v_str, v_lst, v_tup, v_dic, esc, finish, mk, permute, i_lst, i_tup, lo_lst, List.append_nil, Option.bind_some, Option.bind_none, Option.map_some, Option.map_none, Option.bind_eq_bind, List.getElem?_cons_zero, List.getElem?_cons_succ, List.getElem?_nil, List.set_cons_zero, List.set_cons_succ, List.length_cons, List.length_nil, List.mapM_cons, List.mapM_nil, Option.pure_def, Option.getD_some, and_self, Bool.not_true, Bool.not_false, if_true, if_false, Bool.false_eq_true, Bool.true_eq_false, reduceIte, Nat.reduceAdd, Nat.reduceLT, Nat.reduceSub, typeName, i7, truthy])]
  simp only [evS, finish]
theorem toldL_get (n : Nat) : ∀ (rs : List Rw) (i : Nat) (r : Rw), rs[i]? = some r → ∀ n, (toldL n rs)[i]? = some (.tup [.ref (n + i), .str (wd r.eq), .int r.b])
  | [], i, r, h, _ => by simp at h
  | x :: rs, 0, r, h, n => by simp at h; subst h; rfl
  | x :: rs, i + 1, r, h, n => by
    simp only [List.getElem?_cons_succ] at h
    have := toldL_get n rs i r h (n + 1)
    have e : n + (i + 1) = n + 1 + i := by omega
    rw [e]; exact this
theorem toldL_len : ∀ (rs : List Rw) (n : Nat), (toldL n rs).length = rs.length
  | [], _ => rfl
  | x :: rs, n => by simp [toldL, toldL_len rs]
/-- a told list of rows: its cells alone are changed -/
theorem sp_told (k a n : Nat) (rs : List Rw) (h : Hs) (hn : h[n]? = some (.lst (toldL a rs))) (ha : a + rs.length ≤ n) (hc : ∀ (i : Nat) (r : Rw), rs[i]? = some r → h[a + i]? = some (.lst (r.ns.map .int))) (hl : ∀ r ∈ rs, r.ns.length < line) (hl2 : rs.length < line) :
    ∃ h', callN G (k + 4) 17 [.ref n] h = .ret .non false h' ∧ h'.length = h.length ∧ ∀ i, (i < a ∨ n < i) → h'[i]? = h[i]? := by
  have vr : ∀ h' : Hs, h'[n]? = some (.lst (toldL a rs)) → view h' (.ref n) = .lst (toldL a rs) := fun h' q => by simp only [view, q]
  obtain ⟨e', h', q, x1, he, hln, hn', hh, _⟩ := forLoop_run (gd := [(n, toldL a rs)]) (f := forStep (callN G (k + 3)) (.nm 1) spB) (xs := toldL a rs)
    (fun i e h' => ∃ x1 : SV, e = [.val (.ref n), x1] ∧ h'.length = h.length ∧ h'[n]? = some (.lst (toldL a rs)) ∧ (∀ j, (j < a ∨ n ≤ j) → h'[j]? = h[j]?) ∧ ∀ (j : Nat) (r : Rw), i ≤ j → rs[j]? = some r → h'[a + j]? = some (.lst (r.ns.map .int)))
    (fun i x e h' hx ⟨x1, he, hln, hn', hh, hc'⟩ => by
      subst he
      have hi : i < rs.length := by rw [← toldL_len rs a]; exact (List.getElem?_eq_some_iff.mp hx).1
      have hr : rs[i]? = some rs[i] := List.getElem?_eq_getElem hi
      have hg := toldL_get a rs i rs[i] hr a
      rw [hg] at hx
      obtain rfl := (Option.some.inj hx)
      have c := sp_tup k (a + i) (wd rs[i].eq) rs[i].b rs[i].ns h' (hc' i rs[i] (Nat.le_refl _) hr) (hl rs[i] (List.getElem_mem hi))
      refine ⟨.next, [.val (.ref n), .val (.tup [.ref (a + i), .str (wd rs[i].eq), .int rs[i].b])], h'.set (a + i) (.lst (rs[i].ns.map .int ++ [.str "late"])), ?_, .inl rfl, _, rfl, ?_, ?_, ?_, ?_⟩
      · unfold forStep spB
        simp only [evS, evA, evM, evT, evL, evR, evO, evI, Out.bind, Out.noex, lift, rd, v_non, v_bl, v_int, v_str, v_lst, v_tup, v_dic, esc, finish, mk, permute, bindT, bindTs, i_lst, i_tup, lo_lst, List.append_nil, Option.bind_some, Option.bind_none, Option.map_some, Option.map_none, Option.bind_eq_bind, List.getElem?_cons_zero, List.getElem?_cons_succ, List.getElem?_nil, List.set_cons_zero, List.set_cons_succ, List.length_cons, List.length_nil, List.mapM_cons, List.mapM_nil, Option.pure_def, Option.getD_some, and_self, Bool.not_true, Bool.not_false, if_true, if_false, Bool.false_eq_true, Bool.true_eq_false, reduceIte, Nat.reduceAdd, Nat.reduceLT, Nat.reduceSub, c]
      · rw [List.length_set]; exact hln
      · rw [List.getElem?_set_ne (by omega)]; exact hn'
      · intro j hj
        rw [List.getElem?_set_ne (by omega)]; exact hh j hj
      · intro j r hj hr'
        rw [List.getElem?_set_ne (by omega)]; exact hc' j r (by omega) hr')
    (fun i e h' ⟨x1, he, hln, hn', hh, hc'⟩ => gd1_ok hn') (e := [.val (.ref n), .no]) (h := h) ⟨.no, rfl, rfl, hn, fun _ _ => rfl, fun j r _ hr => hc j r hr⟩
  have e1 : evS (callN G (k + 3)) (.ite (.isi (.var 0) ["list", "tuple"]) (.for_ (.nm 1) (.iseq (.var 0)) spB) .skip) [.val (.ref n), .no] h = .ok .next [.val (.ref n), x1] h' := by
    rw [ite_yes (e1 := [.val (.ref n), .no]) (h1 := h) (by simp only [evS, evA, evM, evT, evL, evR, evO, evI, Out.bind, Out.noex, lift, rd, v_non, v_bl, v_int, v_str, v_lst, v_tup, v_dic, esc, finish, mk, permute, i_lst, i_tup, lo_lst, List.append_nil, Option.bind_some, Option.bind_none, Option.map_some, Option.map_none, Option.bind_eq_bind, List.getElem?_cons_zero, List.getElem?_cons_succ, List.getElem?_nil, List.set_cons_zero, List.set_cons_succ, List.length_cons, List.length_nil, List.mapM_cons, List.mapM_nil, Option.pure_def, Option.getD_some, and_self, Bool.not_true, Bool.not_false, if_true, if_false, Bool.false_eq_true, Bool.true_eq_false, reduceIte, Nat.reduceAdd, Nat.reduceLT, Nat.reduceSub, vr h hn, typeName, i3, truthy]), evS_for]
    have : evI (callN G (k + 3)) (.iseq (.var 0)) [.val (.ref n), .no] h = .ok (toldL a rs, [(n, toldL a rs)]) [.val (.ref n), .no] h := by simp only [evS, evA, evM, evT, evL, evR, evO, evI, Out.bind, Out.noex, lift, rd, v_non, v_bl, v_int, v_str, v_lst, v_tup, v_dic, esc, finish, mk, permute, i_lst, i_tup, lo_lst, List.append_nil, Option.bind_some, Option.bind_none, Option.map_some, Option.map_none, Option.bind_eq_bind, List.getElem?_cons_zero, List.getElem?_cons_succ, List.getElem?_nil, List.set_cons_zero, List.set_cons_succ, List.length_cons, List.length_nil, List.mapM_cons, List.mapM_nil, Option.pure_def, Option.getD_some, and_self, Bool.not_true, Bool.not_false, if_true, if_false, Bool.false_eq_true, Bool.true_eq_false, reduceIte, Nat.reduceAdd, Nat.reduceLT, Nat.reduceSub, seqOf, lstOf, hn]
    rw [this, bind_okE, q, he]
  have ap : opM .append (toldL a rs) [.str "late"] = some (.non, toldL a rs ++ [.str "late"]) := by simp [opM, toldL_len, hl2]
  refine ⟨h'.set n (.lst (toldL a rs ++ [.str "late"])), ?_, by rw [List.length_set]; exact hln, fun i hi => ?_⟩
  · rw [c__law_spoilt, sp_body, seq_next e1, ite_yes (e1 := [.val (.ref n), x1]) (h1 := h') (by simp only [evS, evA, evM, evT, evL, evR, evO, evI, Out.bind, Out.noex, lift, rd, v_non, v_bl, v_int, v_str, v_lst, v_tup, v_dic, esc, finish, mk, permute, i_lst, i_tup, lo_lst, List.append_nil, Option.bind_some, Option.bind_none, Option.map_some, Option.map_none, Option.bind_eq_bind, List.getElem?_cons_zero, List.getElem?_cons_succ, List.getElem?_nil, List.set_cons_zero, List.set_cons_succ, List.length_cons, List.length_nil, List.mapM_cons, List.mapM_nil, Option.pure_def, Option.getD_some, and_self, Bool.not_true, Bool.not_false, if_true, if_false, Bool.false_eq_true, Bool.true_eq_false, reduceIte, Nat.reduceAdd, Nat.reduceLT, Nat.reduceSub, vr h' hn', typeName, i6, truthy])]
    simp only [evS, evA, evM, evT, evL, evR, evO, evI, Out.bind, Out.noex, lift, rd, v_non, v_bl, v_int, v_str, v_lst, v_tup, v_dic, esc, finish, mk, permute, i_lst, i_tup, lo_lst, List.append_nil, Option.bind_some, Option.bind_none, Option.map_some, Option.map_none, Option.bind_eq_bind, List.getElem?_cons_zero, List.getElem?_cons_succ, List.getElem?_nil, List.set_cons_zero, List.set_cons_succ, List.length_cons, List.length_nil, List.mapM_cons, List.mapM_nil, Option.pure_def, Option.getD_some, and_self, Bool.not_true, Bool.not_false, if_true, if_false, Bool.false_eq_true, Bool.true_eq_false, reduceIte, Nat.reduceAdd, Nat.reduceLT, Nat.reduceSub, mut?, hn', ap, put]
  · rw [List.getElem?_set_ne (by omega)]
    exact hh i (by omega)
/-- the stream's cells are what they were -/
theorem SI.of {c : Nat} {rest : Hs} {h h' : Hs} (s : SI c rest h) (hl : h'.length = h.length) (e : ∀ i, i < 2 → h'[i]? = h[i]?) : ∃ rest', SI c rest' h' := by
  obtain ⟨cells, a, n, m, he, h1⟩ := s
  subst he
  match h', hl, e with
  | [], hl, _ => simp at hl
  | [_], hl, _ => simp at hl
  | x :: y :: r, hl, e =>
    have e0 := e 0 (by omega)
    have e1 := e 1 (by omega)
    simp at e0 e1
    subst e0; subst e1
    exact ⟨r, cells, a, n, m, rfl, h1⟩
theorem SI.app {c : Nat} {rest : Hs} {h : Hs} (s : SI c rest h) (x : Hs) : SI c (rest ++ x) (h ++ x) := by
  obtain ⟨cells, a, n, m, he, h1⟩ := s
  subst he
  exact ⟨cells, a, n, m, rfl, h1⟩
theorem SI.two {c : Nat} {rest : Hs} {h : Hs} (s : SI c rest h) : 2 ≤ h.length := by
  obtain ⟨cells, a, n, m, he, h1⟩ := s
  subst he
  simp
end K03

namespace K03
open PL
open PySem (Str)
def w3 : Sm := (.asg 3 (.bin .add (.con (.int (1))) (.call 14 [] (.cons (.var 1) (.cons (.con (.int (4))) .nil)))))
def w4 : Sm := (.asg 4 (.call 26 [] (.cons (.var 1) (.cons (.var 3) .nil))))
def w5 : Sm := (.tasg (.tp (.cons (.nm 5) (.cons (.nm 6) (.cons (.nm 7) .nil)))) (.var 4))
def w8 : Sm := (.asg 8 (.tup (.cons (.lc [18, 19] (.nm 19) (.iseq (.var 5)) .nil (.one (.neg (.var 19)))) (.cons (.con (.str ">=")) (.cons (.bin .sub (.con (.int (1))) (.var 7)) .nil)))))
def w9 : Sm := (.par 9 10 (.ite (.cmp .eq (.var 6) (.con (.str ">="))) (.lst (.cons (.var 8) .nil)) (.lst (.cons (.tup (.cons (.bcall .list (.cons (.var 5) .nil)) (.cons (.con (.str ">=")) (.cons (.bin .add (.var 7) (.con (.int (1)))) .nil)))) (.cons (.var 8) .nil)))) (.call 19 [] (.cons (.var 1) (.cons (.var 4) .nil))))
def w11 : Sm := (.par 11 12 (.call 18 [] (.cons (.var 10) .nil)) (.call 27 [] (.cons (.var 4) .nil)))
def w13 : Sm := (.asg 13 (.lst (.cons (.call 9 [] (.cons (.var 3) (.cons (.var 10) .nil))) (.cons (.call 9 [1, 0] (.cons (.call 18 [] (.cons (.var 4) .nil)) (.cons (.var 3) .nil))) (.cons (.call 12 [] (.cons (.var 3) (.cons (.var 10) .nil))) (.cons (.call 12 [1, 0] (.cons (.call 18 [] (.cons (.var 4) .nil)) (.cons (.var 3) .nil))) .nil))))))
def wI : Sm := (.ite (.or (.not (.call 16 [] (.cons (.var 13) (.cons (.lst (.cons (.var 9) (.cons (.var 9) (.cons (.var 12) (.cons (.var 12) .nil))))) .nil)))) (.not (.call 16 [] (.cons (.var 10) (.cons (.var 11) .nil))))) (.ret (.con (.bl false))) .skip)
def wP1 : Sm := (.asg 15 (.lc [18, 20] (.nm 20) (.irng1 (.var 3)) .nil (.one (.call 20 [] (.cons (.var 1) (.cons (.con (.int (6))) .nil))))))
def wP2 : Sm := (.asg 16 (.call 22 [] (.cons (.var 4) (.cons (.var 15) .nil))))
def wP3 : Sm := (.ite (.or (.cmp .eq (.bcall .any (.cons (.lc [18, 21] (.nm 21) (.iseq (.var 9)) .nil (.one (.call 22 [] (.cons (.var 21) (.cons (.var 15) .nil))))) .nil)) (.var 16)) (.cmp .ne (.and (.cmp .isnot (.var 12) (.con .non)) (.call 22 [] (.cons (.var 12) (.cons (.var 15) .nil)))) (.var 16))) (.ret (.con (.bl false))) .skip)
def wP : Sm := .seq wP1 (.seq wP2 wP3)
def wS1 : Sm := (.expr (.call 17 [] (.cons (.idx (.var 13) (.con (.int (0)))) .nil)))
def wS2 : Sm := (.ite (.cmp .isnot (.var 12) (.con .non)) (.expr (.call 17 [] (.cons (.idx (.idx (.var 13) (.con (.int (2)))) (.con (.int (0)))) .nil))) .skip)
def wQ : Sm := (.ite (.not (.call 16 [] (.cons (.lst (.cons (.call 9 [] (.cons (.var 3) (.cons (.call 18 [] (.cons (.var 4) .nil)) .nil))) (.cons (.call 12 [] (.cons (.var 3) (.cons (.call 18 [] (.cons (.var 4) .nil)) .nil))) .nil))) (.cons (.lst (.cons (.var 9) (.cons (.var 12) .nil))) .nil)))) (.ret (.con (.bl false))) .skip)
def wB : Sm := .seq w3 (.seq w4 (.seq w5 (.seq w8 (.seq w9 (.seq w11 (.seq w13 (.seq wI (.seq (.for_ (.nm 14) (.irng1 (.con (.int (6)))) wP) (.seq wS1 (.seq wS2 wQ))))))))))
def wE1 : Sm := (.asg 17 (.lst (.cons (.call 12 [] (.cons (.con (.int (2))) (.cons (.tup (.cons (.lst (.cons (.con (.int (2))) (.cons (.con (.int (4))) .nil))) (.cons (.con (.str ">=")) (.cons (.con (.int (3))) .nil)))) .nil))) (.cons (.call 12 [] (.cons (.con (.int (2))) (.cons (.tup (.cons (.lst (.cons (.con (.int (2))) (.cons (.con (.int (4))) .nil))) (.cons (.con (.str "=")) (.cons (.con (.int (3))) .nil)))) .nil))) (.cons (.call 12 [] (.cons (.con (.int (1))) (.cons (.tup (.cons (.lst (.cons (.neg (.con (.int (2)))) .nil)) (.cons (.con (.str "=")) (.cons (.con (.int (4))) .nil)))) .nil))) (.cons (.call 12 [] (.cons (.con (.int (2))) (.cons (.tup (.cons (.lst (.cons (.con (.int (0))) (.cons (.con (.int (0))) .nil))) (.cons (.con (.str "=")) (.cons (.con (.int (0))) .nil)))) .nil))) (.cons (.call 9 [] (.cons (.con (.int (2))) (.cons (.tup (.cons (.lst (.cons (.con (.int (1))) (.cons (.con (.int (0))) .nil))) (.cons (.con (.str "=")) (.cons (.con (.int (3))) .nil)))) .nil))) .nil)))))))
def wE2 : Sm := (.ret (.call 16 [] (.cons (.var 17) (.cons (.lst (.cons (.tup (.cons (.lst (.cons (.con (.int (1))) (.cons (.con (.int (2))) .nil))) (.cons (.con (.str ">=")) (.cons (.con (.int (2))) .nil)))) (.cons (.con .non) (.cons (.tup (.cons (.lst (.cons (.con (.int (1))) .nil)) (.cons (.con (.str "=")) (.cons (.neg (.con (.int (2)))) .nil)))) (.cons (.tup (.cons (.lst (.cons (.con (.int (0))) (.cons (.con (.int (0))) .nil))) (.cons (.con (.str ">=")) (.cons (.con (.int (0))) .nil)))) (.cons (.lst (.cons (.tup (.cons (.lst (.cons (.con (.int (1))) (.cons (.con (.int (0))) .nil))) (.cons (.con (.str ">=")) (.cons (.con (.int (4))) .nil)))) (.cons (.tup (.cons (.lst (.cons (.neg (.con (.int (1)))) (.cons (.con (.int (0))) .nil))) (.cons (.con (.str ">=")) (.cons (.neg (.con (.int (2)))) .nil)))) .nil))) .nil)))))) .nil))))
theorem law_body : b_law = .seq (.asg 1 (.call 13 [] (.cons (.var 0) .nil))) (.seq (.for_ (.nm 2) (.irng1 (.con (.int 8))) wB) (.seq wE1 wE2)) := rfl
def LE (s0 s2 s3 s4 s5 s6 s7 s8 s9 s10 s11 s12 s13 s14 s15 s16 : SV) : Env := [s0, .val (.ref 1), s2, s3, s4, s5, s6, s7, s8, s9, s10, s11, s12, s13, s14, s15, s16, .no, .no, .no, .no, .no]
def sl (b : Bool) (v : PV) : SV := if b then .own v else .val v
theorem fr_R (t u : Bool) (r : Rw) : frOf (pvR t u r) = t := by cases t <;> rfl
theorem pm0 (ps : List PV) : permute [] ps = ps := rfl
theorem pm2 (a b : PV) : permute [1, 0] [a, b] = [b, a] := rfl
theorem pm3 (a b c : PV) : permute [2, 1, 0] [a, b, c] = [c, b, a] := rfl
def dueP (r : Rw) : PV := .lst ((trn r).map (pvR false true))
def RP (r : Rw) : PV := pvR false true r
section
variable (k m : Nat) (r : Rw) (h : Hs) (s0 s2 s3 s4 s5 s6 s7 s8 s9 s10 s11 s12 s13 s14 s15 s16 : SV)
theorem L5 : evS (callN G k) w5 (LE s0 s2 (.val (.int m)) (.val (RP r)) s5 s6 s7 s8 s9 s10 s11 s12 s13 s14 s15 s16) h = .ok .next (LE s0 s2 (.val (.int m)) (.val (RP r)) (.val (.lst (r.ns.map .int))) (.val (.str (wd r.eq))) (.val (.int r.b)) s8 s9 s10 s11 s12 s13 s14 s15 s16) h := by
  have e : RP r = .tup [.lst (r.ns.map .int), .str (wd r.eq), .int r.b] := rfl
  rw [e]
  unfold w5 LE
  simp only [evS, evA, evM, evT, evL, evR, evO, evI, Out.bind, Out.noex, lift, rd, v_non, v_bl, v_int, v_str, v_lst, v_tup, v_dic, esc, finish, mk, permute, bindT, bindTs, i_lst, i_tup, lo_lst, List.append_nil, Option.bind_some, Option.bind_none, Option.map_some, Option.map_none, Option.bind_eq_bind, List.getElem?_cons_zero, List.getElem?_cons_succ, List.getElem?_nil, List.set_cons_zero, List.set_cons_succ, List.length_cons, List.length_nil, List.mapM_cons, List.mapM_nil, Option.pure_def, Option.getD_some, and_self, Bool.not_true, Bool.not_false, if_true, if_false, Bool.false_eq_true, Bool.true_eq_false, reduceIte, Nat.reduceAdd, Nat.reduceLT, Nat.reduceSub]
theorem L8 (hl : r.ns.length ≤ line) : evS (callN G k) w8 (LE s0 s2 (.val (.int m)) (.val (RP r)) (.val (.lst (r.ns.map .int))) (.val (.str (wd r.eq))) (.val (.int r.b)) s8 s9 s10 s11 s12 s13 s14 s15 s16) h = .ok .next (LE s0 s2 (.val (.int m)) (.val (RP r)) (.val (.lst (r.ns.map .int))) (.val (.str (wd r.eq))) (.val (.int r.b)) (.val (RP (below r))) s9 s10 s11 s12 s13 s14 s15 s16) h := by
  let E0 : Env := LE s0 s2 (.val (.int m)) (.val (RP r)) (.val (.lst (r.ns.map .int))) (.val (.str (wd r.eq))) (.val (.int r.b)) s8 s9 s10 s11 s12 s13 s14 s15 s16
  have lc := lc_map (gd := []) (C := callN G k) (own := [18, 19]) (tg := .nm 19) (it := .iseq (.var 5)) (body := .one (.neg (.var 19))) (e := E0) (e1 := E0) (h := h) (h1 := h) (xs := r.ns.map .int)
    (by simp only [evS, evA, evM, evT, evL, evR, evO, evI, Out.bind, Out.noex, lift, rd, v_non, v_bl, v_int, v_str, v_lst, v_tup, v_dic, esc, finish, mk, pm0, pm2, pm3, i_lst, i_tup, lo_lst, List.append_nil, Option.bind_some, Option.bind_none, Option.map_some, Option.map_none, Option.bind_eq_bind, List.getElem?_cons_zero, List.getElem?_cons_succ, List.getElem?_nil, List.set_cons_zero, List.set_cons_succ, List.length_cons, List.length_nil, List.mapM_cons, List.mapM_nil, Option.pure_def, Option.getD_some, and_self, Bool.not_true, Bool.not_false, if_true, if_false, Bool.false_eq_true, Bool.true_eq_false, reduceIte, Nat.reduceAdd, Nat.reduceLT, Nat.reduceSub, E0, LE]) rfl (fun x => match x with | .int i => .int (-i) | _ => .non) E0 rfl (by simpa using hl) (fun p hp => by
      obtain ⟨i, _, rfl⟩ := List.mem_map.mp hp
      refine ⟨E0.set 19 (.val (.int i)), ?_, rfl⟩
      rw [lcStep_nil (e' := E0.set 19 (.val (.int i))) rfl]
      simp only [evS, evA, evM, evT, evL, evR, evO, evI, Out.bind, Out.noex, lift, rd, v_non, v_bl, v_int, v_str, v_lst, v_tup, v_dic, esc, finish, mk, pm0, pm2, pm3, i_lst, i_tup, lo_lst, List.append_nil, Option.bind_some, Option.bind_none, Option.map_some, Option.map_none, Option.bind_eq_bind, List.getElem?_cons_zero, List.getElem?_cons_succ, List.getElem?_nil, List.set_cons_zero, List.set_cons_succ, List.length_cons, List.length_nil, List.mapM_cons, List.mapM_nil, Option.pure_def, Option.getD_some, and_self, Bool.not_true, Bool.not_false, if_true, if_false, Bool.false_eq_true, Bool.true_eq_false, reduceIte, Nat.reduceAdd, Nat.reduceLT, Nat.reduceSub, E0, LE])
  have hz : ((r.ns.map PV.int).map fun x => match x with | .int i => PV.int (-i) | _ => .non) = (r.ns.map (- ·)).map .int := by
    rw [List.map_map, List.map_map]; rfl
  rw [hz] at lc
  simp only [backE, frzAt, frzS, E0, LE, List.getD_cons_zero, List.getD_cons_succ, List.set_cons_zero, List.set_cons_succ] at lc
  have e : RP (below r) = .tup [.lst ((r.ns.map (- ·)).map .int), .str ">=", .int (1 - r.b)] := rfl
  rw [e]
  unfold w8 LE
  simp only [evS, evA, evM, evT, evL, evR, evO, evI, Out.bind, Out.noex, lift, rd, v_non, v_bl, v_int, v_str, v_lst, v_tup, v_dic, esc, finish, mk, pm0, pm2, pm3, i_lst, i_tup, lo_lst, List.append_nil, Option.bind_some, Option.bind_none, Option.map_some, Option.map_none, Option.bind_eq_bind, List.getElem?_cons_zero, List.getElem?_cons_succ, List.getElem?_nil, List.set_cons_zero, List.set_cons_succ, List.length_cons, List.length_nil, List.mapM_cons, List.mapM_nil, Option.pure_def, Option.getD_some, and_self, Bool.not_true, Bool.not_false, if_true, if_false, Bool.false_eq_true, Bool.true_eq_false, reduceIte, Nat.reduceAdd, Nat.reduceLT, Nat.reduceSub, lc, bSub]
theorem L9 (c : Nat) (rest : Hs) (s : SI c rest h) (hc : c + 50 < 1000000) (hl : r.ns.length ≤ line) : ∃ t u h', evS (callN G (k + 3)) w9 (LE s0 s2 (.val (.int m)) (.val (RP r)) (.val (.lst (r.ns.map .int))) (.val (.str (wd r.eq))) (.val (.int r.b)) (.val (RP (below r))) s9 s10 s11 s12 s13 s14 s15 s16) h = .ok .next (LE s0 s2 (.val (.int m)) (.val (RP r)) (.val (.lst (r.ns.map .int))) (.val (.str (wd r.eq))) (.val (.int r.b)) (.val (RP (below r))) (.own (dueP r)) (sl t (pvR t u r)) s11 s12 s13 s14 s15 s16) h' ∧ SI (c + 4) rest h' := by
  obtain ⟨t, u, h', q, s'⟩ := loose_row k c r h s hc hl
  refine ⟨t, u, h', ?_, s'⟩
  have ot : opB .list [.lst (r.ns.map .int)] = some (.lst (r.ns.map .int), true) := rfl
  have sk : sl t (pvR t u r) = mk (pvR t u r) t := by cases t <;> rfl
  rw [sk]
  have e : RP r = pvR false true r := rfl
  unfold w9 LE
  cases hq : r.eq
  · have w : opEq (.str (wd false)) (.str ">=") = some true := wd_ge false
    have d : dueP r = .lst [RP (below r)] := by simp [dueP, trn, hq, RP]
    rw [d, e]
    simp only [evS, evA, evM, evT, evL, evR, evO, evI, Out.bind, Out.noex, lift, rd, v_non, v_bl, v_int, v_str, v_lst, v_tup, v_dic, esc, finish, mk, pm0, pm2, pm3, i_lst, i_tup, lo_lst, List.append_nil, Option.bind_some, Option.bind_none, Option.map_some, Option.map_none, Option.bind_eq_bind, List.getElem?_cons_zero, List.getElem?_cons_succ, List.getElem?_nil, List.set_cons_zero, List.set_cons_succ, List.length_cons, List.length_nil, List.mapM_cons, List.mapM_nil, Option.pure_def, Option.getD_some, and_self, Bool.not_true, Bool.not_false, if_true, if_false, Bool.false_eq_true, Bool.true_eq_false, reduceIte, Nat.reduceAdd, Nat.reduceLT, Nat.reduceSub, q, ot, bAdd, opCmp, w, truthy]
  · have w : opEq (.str (wd true)) (.str ">=") = some false := wd_ge true
    have d : dueP r = .lst [.tup [.lst (r.ns.map .int), .str ">=", .int (r.b + 1)], RP (below r)] := by simp [dueP, trn, hq, RP, pvR, sq]; rfl
    rw [d, e]
    simp only [evS, evA, evM, evT, evL, evR, evO, evI, Out.bind, Out.noex, lift, rd, v_non, v_bl, v_int, v_str, v_lst, v_tup, v_dic, esc, finish, mk, pm0, pm2, pm3, i_lst, i_tup, lo_lst, List.append_nil, Option.bind_some, Option.bind_none, Option.map_some, Option.map_none, Option.bind_eq_bind, List.getElem?_cons_zero, List.getElem?_cons_succ, List.getElem?_nil, List.set_cons_zero, List.set_cons_succ, List.length_cons, List.length_nil, List.mapM_cons, List.mapM_nil, Option.pure_def, Option.getD_some, and_self, Bool.not_true, Bool.not_false, if_true, if_false, Bool.false_eq_true, Bool.true_eq_false, reduceIte, Nat.reduceAdd, Nat.reduceLT, Nat.reduceSub, q, ot, bAdd, opCmp, w, truthy]
theorem L11 (t u : Bool) (hs : ∀ n ∈ r.ns, n.natAbs ≤ 1000) (hb1 : -1000 ≤ r.b) (hb2 : r.b ≤ 1000) (hl : r.ns.length ≤ 100) (hl1 : 1 ≤ r.ns.length) :
    evS (callN G (k + 3)) w11 (LE s0 s2 (.val (.int m)) (.val (RP r)) s5 s6 s7 s8 s9 (sl t (pvR t u r)) s11 s12 s13 s14 s15 s16) h = .ok .next (LE s0 s2 (.val (.int m)) (.val (RP r)) s5 s6 s7 s8 s9 (.val (pvR t u r)) (sl t (pvR t u r)) (.val (pvO true (plainF r))) s13 s14 s15 s16) h := by
  have c18 := s_copied 2 (pvR t u r) k h (dat_R t u r (Nat.le_trans hl line100))
  have c27 := s_lplain k r h hs hb1 hb2 hl hl1
  rw [fr_R] at c18
  have e : RP r = pvR false true r := rfl
  rw [e]
  unfold w11 LE
  cases t
  · simp only [sl, evS, evA, evM, evT, evL, evR, evO, evI, Out.bind, Out.noex, lift, rd, v_non, v_bl, v_int, v_str, v_lst, v_tup, v_dic, esc, finish, mk, pm0, pm2, pm3, i_lst, i_tup, lo_lst, List.append_nil, Option.bind_some, Option.bind_none, Option.map_some, Option.map_none, Option.bind_eq_bind, List.getElem?_cons_zero, List.getElem?_cons_succ, List.getElem?_nil, List.set_cons_zero, List.set_cons_succ, List.length_cons, List.length_nil, List.mapM_cons, List.mapM_nil, Option.pure_def, Option.getD_some, and_self, Bool.not_true, Bool.not_false, if_true, if_false, Bool.false_eq_true, Bool.true_eq_false, reduceIte, Nat.reduceAdd, Nat.reduceLT, Nat.reduceSub, c18, c27]
    cases plainF r <;> rfl
  · simp only [sl, evS, evA, evM, evT, evL, evR, evO, evI, Out.bind, Out.noex, lift, rd, v_non, v_bl, v_int, v_str, v_lst, v_tup, v_dic, esc, finish, mk, pm0, pm2, pm3, i_lst, i_tup, lo_lst, List.append_nil, Option.bind_some, Option.bind_none, Option.map_some, Option.map_none, Option.bind_eq_bind, List.getElem?_cons_zero, List.getElem?_cons_succ, List.getElem?_nil, List.set_cons_zero, List.set_cons_succ, List.length_cons, List.length_nil, List.mapM_cons, List.mapM_nil, Option.pure_def, Option.getD_some, and_self, Bool.not_true, Bool.not_false, if_true, if_false, Bool.false_eq_true, Bool.true_eq_false, reduceIte, Nat.reduceAdd, Nat.reduceLT, Nat.reduceSub, c18, c27]
    cases plainF r <;> rfl
end
end K03

namespace K03
open PL
open PySem (Str)
/-! what is told, in its cells -/
theorem R_ints (h : Hs) (a : Nat) (l : List Int) (d : Nat) (hn : h[a]? = some (.lst (l.map .int))) (hl : l.length ≤ line) : Rp h (d + 1) (.ref a) (.lst (l.map .int)) := by
  refine .ref hn rfl (by simpa using hl) fun i x y h1 h2 => ?_
  rw [h1] at h2
  obtain rfl := Option.some.inj h2
  obtain ⟨j, _, rfl⟩ := List.mem_map.mp (List.mem_of_getElem? h1)
  exact .int _ _
theorem R_tup (h : Hs) (a : Nat) (l : List Int) (e : Bool) (b : Int) (d : Nat) (hn : h[a]? = some (.lst (l.map .int))) (hl : l.length ≤ line) : Rp h (d + 2) (.tup [.ref a, .str (wd e), .int b]) (.tup [.lst (l.map .int), .str (wd e), .int b]) := by
  refine .tup rfl (by show 3 ≤ line; decide) fun i x y h1 h2 => ?_
  match i with
  | 0 => simp at h1 h2; subst h1; subst h2; exact R_ints h a l d hn hl
  | 1 => simp at h1 h2; subst h1; subst h2; exact .str _ _ (wd_ok e)
  | 2 => simp at h1 h2; subst h1; subst h2; exact .int _ _
  | i + 3 => simp at h1
theorem R_told (h : Hs) (a n : Nat) (rs : List Rw) (hn : h[n]? = some (.lst (toldL a rs))) (hc : ∀ (i : Nat) (r : Rw), rs[i]? = some r → h[a + i]? = some (.lst (r.ns.map .int))) (hl : ∀ r ∈ rs, r.ns.length ≤ line) (hl2 : rs.length ≤ line) : Rp h 3 (.ref n) (.lst (rs.map (pvR false true))) := by
  refine .ref hn (by simp [toldL_len]) (by rw [toldL_len]; exact hl2) fun i x y h1 h2 => ?_
  rw [List.getElem?_map, Option.map_eq_some_iff] at h2
  obtain ⟨r, hr, rfl⟩ := h2
  rw [toldL_get a rs i r hr a] at h1
  obtain rfl := Option.some.inj h1
  exact R_tup h (a + i) r.ns r.eq r.b 0 (hc i r hr) (hl r (List.mem_of_getElem? hr))
theorem R_plain (h : Hs) (a d : Nat) (o : Option Rw) (hc : ∀ r, o = some r → h[a]? = some (.lst (r.ns.map .int)) ∧ r.ns.length ≤ line) : Rp h (d + 2) (tellP a o) (pvO true o) := by
  cases o with
  | none => exact .non _
  | some r => exact R_tup h a r.ns r.eq r.b d (hc r rfl).1 (hc r rfl).2
theorem R_four {h : Hs} {a b c d a' b' c' d' : PV} {n : Nat} (h1 : Rp h n a a') (h2 : Rp h n b b') (h3 : Rp h n c c') (h4 : Rp h n d d') : Rp h (n + 1) (.lst [a, b, c, d]) (.lst [a', b', c', d']) := by
  refine .lst rfl (by show 4 ≤ line; decide) fun i x y q1 q2 => ?_
  match i with
  | 0 => simp at q1 q2; subst q1; subst q2; exact h1
  | 1 => simp at q1 q2; subst q1; subst q2; exact h2
  | 2 => simp at q1 q2; subst q1; subst q2; exact h3
  | 3 => simp at q1 q2; subst q1; subst q2; exact h4
  | i + 4 => simp at q1
theorem R_two {h : Hs} {a b a' b' : PV} {n : Nat} (h1 : Rp h n a a') (h2 : Rp h n b b') : Rp h (n + 1) (.lst [a, b]) (.lst [a', b']) := by
  refine .lst rfl (by show 2 ≤ line; decide) fun i x y q1 q2 => ?_
  match i with
  | 0 => simp at q1 q2; subst q1; subst q2; exact h1
  | 1 => simp at q1 q2; subst q1; subst q2; exact h2
  | i + 2 => simp at q1
/-- the heap behind turned -/
def hT (r : Rw) (h : Hs) : Hs := h ++ cellsL (trn r) ++ [.lst (toldL h.length (trn r))]
def hP (r : Rw) (h : Hs) : Hs := h ++ cellP (plainF r)
theorem hT_len (r : Rw) (h : Hs) : (hT r h).length = h.length + (trn r).length + 1 := by simp [hT, cellsL]; omega
theorem hT_top (r : Rw) (h : Hs) : (hT r h)[h.length + (trn r).length]? = some (.lst (toldL h.length (trn r))) := by
  unfold hT
  rw [List.getElem?_append_right (by simp [cellsL])]
  simp [cellsL]
theorem hT_cell (r : Rw) (h : Hs) (i : Nat) (z : Rw) (hz : (trn r)[i]? = some z) : (hT r h)[h.length + i]? = some (.lst (z.ns.map .int)) := by
  have hi : i < (trn r).length := (List.getElem?_eq_some_iff.mp hz).1
  unfold hT
  rw [List.getElem?_append_left (by simp [cellsL]; omega), List.getElem?_append_right (by omega)]
  simp [cellsL, hz]
theorem hP_cell (r : Rw) (h : Hs) (z : Rw) (hz : plainF r = some z) : (hP r h)[h.length]? = some (.lst (z.ns.map .int)) := by
  unfold hP
  rw [hz, List.getElem?_append_right (Nat.le_refl _)]
  simp [cellP]
theorem app_get {h x : Hs} {i : Nat} {c : Cell} (q : h[i]? = some c) : (h ++ x)[i]? = some c := by
  rw [List.getElem?_append_left (List.getElem?_eq_some_iff.mp q).1]; exact q
theorem hT_app (r : Rw) (h : Hs) : ∃ x, hT r h = h ++ x := ⟨cellsL (trn r) ++ [.lst (toldL h.length (trn r))], by simp [hT]⟩
theorem hP_app (r : Rw) (h : Hs) : ∃ x, hP r h = h ++ x := ⟨_, rfl⟩
theorem trn_ns (r : Rw) : ∀ z ∈ trn r, z.ns.length = r.ns.length := by
  intro z hz
  unfold trn below at hz
  split at hz <;> simp at hz
  · rcases hz with rfl | rfl <;> simp
  · subst hz; simp
theorem plainF_cases (r z : Rw) (h : plainF r = some z) : (z.ns = List.replicate r.ns.length 0) ∨ (dv r.ns ≠ 0 ∧ z.ns = r.ns.map fun n => n.fdiv (dv r.ns)) ∨ (dv r.ns ≠ 0 ∧ z.ns = r.ns.map fun n => n.fdiv (leadN r.ns)) := by
  unfold plainF at h
  by_cases hd : dv r.ns = 0
  · rw [if_pos hd] at h
    by_cases hc : (if r.eq = true then r.b == 0 else decide (r.b ≤ 0)) = true
    · rw [if_pos hc] at h
      exact .inl (by rw [← Option.some.inj h])
    · rw [if_neg hc] at h
      cases h
  · rw [if_neg hd] at h
    by_cases he : r.eq = false
    · rw [if_pos he] at h
      exact .inr (.inl ⟨hd, by rw [← Option.some.inj h]⟩)
    · rw [if_neg he] at h
      by_cases hm : r.b.fmod (dv r.ns) ≠ 0
      · rw [if_pos hm] at h
        cases h
      · rw [if_neg hm] at h
        exact .inr (.inr ⟨hd, by rw [← Option.some.inj h]⟩)
theorem plainF_ns (r z : Rw) (h : plainF r = some z) : z.ns.length = r.ns.length := by
  rcases plainF_cases r z h with e | ⟨_, e⟩ | ⟨_, e⟩ <;> rw [e] <;> simp
/-- the told things in a heap that has them -/
theorem R_toldT (r : Rw) (h h' : Hs) (hh : ∃ x, h' = hT r h ++ x) (hl : r.ns.length ≤ line) : Rp h' 3 (.ref (h.length + (trn r).length)) (dueP r) := by
  obtain ⟨x, rfl⟩ := hh
  exact R_told _ h.length _ (trn r) (app_get (hT_top r h)) (fun i z hz => app_get (hT_cell r h i z hz)) (fun z hz => by rw [trn_ns r z hz]; exact hl) (Nat.le_trans (trn_len r) (by decide))
theorem R_toldP (r : Rw) (h h' : Hs) (d : Nat) (hh : ∃ x, h' = hP r h ++ x) (hl : r.ns.length ≤ line) : Rp h' (d + 2) (tellP h.length (plainF r)) (pvO true (plainF r)) := by
  obtain ⟨x, rfl⟩ := hh
  exact R_plain _ _ _ _ fun z hz => ⟨app_get (hP_cell r h z hz), by rw [plainF_ns r z hz]; exact hl⟩
section
variable (k m : Nat) (r : Rw) (h : Hs) (s0 s2 s3 s4 s5 s6 s7 s8 s9 s10 s11 s12 s13 s14 s15 s16 : SV)
def toldV (r : Rw) (h : Hs) : PV :=
  .lst [.ref (h.length + (trn r).length), .ref ((hT r h).length + (trn r).length), tellP (hT r (hT r h)).length (plainF r), tellP (hP r (hT r (hT r h))).length (plainF r)]
def toldH (r : Rw) (h : Hs) : Hs := hP r (hP r (hT r (hT r h)))
theorem L13 (t u : Bool) (hs : ∀ n ∈ r.ns, n.natAbs ≤ 1000) (hl : m ≤ 100) (hm1 : 1 ≤ m) (hm : r.ns.length = m) :
    evS (callN G (k + 6)) w13 (LE s0 s2 (.val (.int m)) (.val (RP r)) s5 s6 s7 s8 s9 (.val (pvR t u r)) s11 s12 s13 s14 s15 s16) h = .ok .next (LE s0 s2 (.val (.int m)) (.val (RP r)) s5 s6 s7 s8 s9 (.val (pvR t u r)) s11 s12 (.own (toldV r h)) s14 s15 s16) (toldH r h) := by
  have hl2 : r.ns.length ≤ line := by rw [hm]; exact Nat.le_trans hl line100
  have c18 : ∀ h, callN G (k + 6) 18 [RP r] h = .ret (RP r) false h := fun h => by
    have := s_copied 2 (RP r) (k + 3) h (dat_R false true r hl2)
    exact this
  have t1 : ∀ h, callN G (k + 6) 9 [.int m, pvR t u r] h = .ret (.ref (h.length + (trn r).length)) false (hT r h) := fun h => s_turned k t u r m h hm1 hm hl
  have t2 : ∀ h, callN G (k + 6) 9 [.int m, RP r] h = .ret (.ref (h.length + (trn r).length)) false (hT r h) := fun h => s_turned k false true r m h hm1 hm hl
  have p1 : ∀ h, callN G (k + 6) 12 [.int m, pvR t u r] h = .ret (tellP h.length (plainF r)) false (hP r h) := fun h => s_plain_row k t u r m h hm1 hm hl hs
  have p2 : ∀ h, callN G (k + 6) 12 [.int m, RP r] h = .ret (tellP h.length (plainF r)) false (hP r h) := fun h => s_plain_row k false true r m h hm1 hm hl hs
  unfold w13 LE
  simp only [evS, evA, evM, evT, evL, evR, evO, evI, Out.bind, Out.noex, lift, rd, v_non, v_bl, v_int, v_str, v_lst, v_tup, v_dic, esc, finish, mk, pm0, pm2, pm3, i_lst, i_tup, lo_lst, List.append_nil, Option.bind_some, Option.bind_none, Option.map_some, Option.map_none, Option.bind_eq_bind, List.getElem?_cons_zero, List.getElem?_cons_succ, List.getElem?_nil, List.set_cons_zero, List.set_cons_succ, List.length_cons, List.length_nil, List.mapM_cons, List.mapM_nil, Option.pure_def, Option.getD_some, and_self, Bool.not_true, Bool.not_false, if_true, if_false, Bool.false_eq_true, Bool.true_eq_false, reduceIte, Nat.reduceAdd, Nat.reduceLT, Nat.reduceSub, c18, t1, t2, p1, p2]
  rfl
theorem LI (t u b : Bool) (h0 : Hs) (hh : h = toldH r h0) (hl : r.ns.length ≤ 100) :
    evS (callN G (k + 6)) wI (LE s0 s2 s3 s4 s5 s6 s7 s8 (.own (dueP r)) (.val (pvR t u r)) (sl t (pvR t u r)) (.val (pvO true (plainF r))) (.own (toldV r h0)) s14 s15 s16) h = .ok .next (LE s0 s2 s3 s4 s5 s6 s7 s8 (.val (dueP r)) (.val (pvR t u r)) (.val (pvR t u r)) (.val (pvO true (plainF r))) (.val (toldV r h0)) s14 s15 s16) h := by
  have hl2 : r.ns.length ≤ line := Nat.le_trans hl line100
  obtain ⟨x1, e1⟩ := hT_app r (hT r h0)
  obtain ⟨x2, e2⟩ := hP_app r (hT r (hT r h0))
  obtain ⟨x3, e3⟩ := hP_app r (hP r (hT r (hT r h0)))
  have c16 : callN G (k + 6) 16 [toldV r h0, .lst [dueP r, dueP r, pvO true (plainF r), pvO true (plainF r)]] h = .ret (.bl true) false h := by
    refine s_sameR 4 _ _ (k + 1) h (R_four (R_toldT r h0 h ⟨x1 ++ (x2 ++ x3), ?_⟩ hl2) (R_toldT r (hT r h0) h ⟨x2 ++ x3, ?_⟩ hl2) (R_toldP r (hT r (hT r h0)) h 1 ⟨x3, ?_⟩ hl2) (R_toldP r (hP r (hT r (hT r h0))) h 1 ⟨[], ?_⟩ hl2))
    · rw [hh, toldH, e3, e2, e1]; simp
    · rw [hh, toldH, e3, e2]; simp
    · rw [hh, toldH, e3]
    · rw [hh, toldH]; simp
  have c16b : callN G (k + 6) 16 [pvR t u r, pvR t u r] h = .ret (.bl true) false h := s_same 2 _ (k + 3) h (dat_R t u r hl2)
  unfold wI LE
  cases t <;> simp only [sl, evS, evA, evM, evT, evL, evR, evO, evI, Out.bind, Out.noex, lift, rd, v_non, v_bl, v_int, v_str, v_lst, v_tup, v_dic, esc, finish, mk, pm0, pm2, pm3, i_lst, i_tup, lo_lst, List.append_nil, Option.bind_some, Option.bind_none, Option.map_some, Option.map_none, Option.bind_eq_bind, List.getElem?_cons_zero, List.getElem?_cons_succ, List.getElem?_nil, List.set_cons_zero, List.set_cons_succ, List.length_cons, List.length_nil, List.mapM_cons, List.mapM_nil, Option.pure_def, Option.getD_some, and_self, Bool.not_true, Bool.not_false, if_true, if_false, Bool.false_eq_true, Bool.true_eq_false, reduceIte, Nat.reduceAdd, Nat.reduceLT, Nat.reduceSub, c16, c16b, truthy]
end
end K03

namespace K03
open PL
open PySem (Str)
theorem allBools_mp {α : Type} (f : α → Bool) : ∀ l : List α, allBools (l.map fun z => PV.bl (f z)) = some (l.map f)
  | [] => rfl
  | x :: l => by simp [allBools, allBools_mp f l]
theorem any_bls {α : Type} (f : α → Bool) (l : List α) : opB .any [.lst (l.map fun z => PV.bl (f z))] = some (.bl (l.any f), false) := by
  simp only [opB, allBools_mp]
  simp [Function.comp_def]
theorem sml_div (d : Int) (ns : List Int) (hd : d ≠ 0) (hn : ∀ n ∈ ns, ∃ q, n = d * q) (hs : Sml ns) : Sml (ns.map fun n => n.fdiv d) := by
  intro x hx
  obtain ⟨n, hn', rfl⟩ := List.mem_map.mp hx
  obtain ⟨q, rfl⟩ := hn n hn'
  rw [Int.mul_fdiv_cancel_left _ hd]
  have := hs _ hn'
  rw [Int.natAbs_mul] at this
  exact Nat.lt_of_le_of_lt (Nat.le_mul_of_pos_left _ (by omega)) this
theorem sml_plain (r z : Rw) (h : plainF r = some z) (hs : Sml r.ns) : Sml z.ns := by
  rcases plainF_cases r z h with e | ⟨hd, e⟩ | ⟨hd, e⟩ <;> rw [e]
  · intro x hx
    have := List.eq_of_mem_replicate hx
    subst this; decide
  · exact sml_div _ _ (by omega) (dv_dvd _) hs
  · refine sml_div (leadN r.ns) _ (by unfold leadN; split <;> omega) (fun n hn => ?_) hs
    obtain ⟨q, hq⟩ := dv_dvd r.ns n hn
    unfold leadN
    split
    · exact ⟨q, hq⟩
    · exact ⟨-q, by rw [hq, Int.neg_mul_neg]⟩
theorem sml_trn (r : Rw) (hs : Sml r.ns) : ∀ z ∈ trn r, Sml z.ns := by
  have hn : Sml (r.ns.map (- ·)) := fun x hx => by
    obtain ⟨n, hn', rfl⟩ := List.mem_map.mp hx
    rw [Int.natAbs_neg]; exact hs n hn'
  intro z hz
  unfold trn below at hz
  split at hz <;> simp at hz
  · rcases hz with rfl | rfl
    · exact hs
    · exact hn
  · subst hz; exact hn
section
variable (k m : Nat) (r : Rw) (h : Hs) (s0 s2 s3 s4 s5 s6 s7 s8 s9 s10 s11 s12 s13 s14 s15 s16 : SV)
theorem P1 (c : Nat) (rest : Hs) (s : SI c rest h) (hc : c + 50 < 1000000) (hm : m ≤ 4) :
    ∃ (pts : List Int) (h' : Hs), evS (callN G (k + 2)) wP1 (LE s0 s2 (.val (.int m)) s4 s5 s6 s7 s8 s9 s10 s11 s12 s13 s14 s15 s16) h = .ok .next (LE s0 s2 (.val (.int m)) s4 s5 s6 s7 s8 s9 s10 s11 s12 s13 s14 (.own (.lst (pts.map .int))) s16) h' ∧ pts.length = m ∧ Bdd 6 pts ∧ SI (c + m) rest h' := by
  obtain ⟨pts, h1, q1, l1, l2, s1⟩ := ints_lc (k := k) (own := [18, 20]) (t := 20) (tg := .nil) (arg := .nil) (e := LE s0 s2 (.val (.int m)) s4 s5 s6 s7 s8 s9 s10 s11 s12 s13 s14 s15 s16) 6 (by decide) (by decide) m (by omega) s (by omega) (.irng1 (.var 3)) (.call 20 [] (.cons (.var 1) (.cons (.con (.int (6))) .nil)))
    (by unfold LE; simp only [evS, evA, evM, evT, evL, evR, evO, evI, Out.bind, Out.noex, lift, rd, v_non, v_bl, v_int, v_str, v_lst, v_tup, v_dic, esc, finish, mk, pm0, pm2, pm3, i_lst, i_tup, lo_lst, List.append_nil, Option.bind_some, Option.bind_none, Option.map_some, Option.map_none, Option.bind_eq_bind, List.getElem?_cons_zero, List.getElem?_cons_succ, List.getElem?_nil, List.set_cons_zero, List.set_cons_succ, List.length_cons, List.length_nil, List.mapM_cons, List.mapM_nil, Option.pure_def, Option.getD_some, and_self, Bool.not_true, Bool.not_false, if_true, if_false, Bool.false_eq_true, Bool.true_eq_false, reduceIte, Nat.reduceAdd, Nat.reduceLT, Nat.reduceSub, (sml9 m).mpr (by omega)]) rfl rfl (fun i h => ⟨(LE s0 s2 (.val (.int m)) s4 s5 s6 s7 s8 s9 s10 s11 s12 s13 s14 s15 s16).set 20 (.val (.int i)), rfl, rfl, by
      unfold LE
      simp only [evS, evA, evM, evT, evL, evR, evO, evI, Out.bind, Out.noex, lift, rd, v_non, v_bl, v_int, v_str, v_lst, v_tup, v_dic, esc, finish, mk, pm0, pm2, pm3, i_lst, i_tup, lo_lst, List.append_nil, Option.bind_some, Option.bind_none, Option.map_some, Option.map_none, Option.bind_eq_bind, List.getElem?_cons_zero, List.getElem?_cons_succ, List.getElem?_nil, List.set_cons_zero, List.set_cons_succ, List.length_cons, List.length_nil, List.mapM_cons, List.mapM_nil, Option.pure_def, Option.getD_some, and_self, Bool.not_true, Bool.not_false, if_true, if_false, Bool.false_eq_true, Bool.true_eq_false, reduceIte, Nat.reduceAdd, Nat.reduceLT, Nat.reduceSub]
      cases callN G (k + 2) 20 [.ref 1, .int 6] h <;> rfl⟩)
  exact ⟨pts, h1, asg_of q1 rfl (by show 15 < 22; decide), l1, l2, s1⟩
theorem P2 (pts : List Int) (hl : r.ns.length ≤ line) (h1 : Sml r.ns) (h2 : Sml pts) :
    evS (callN G (k + 2)) wP2 (LE s0 s2 s3 (.val (RP r)) s5 s6 s7 s8 s9 s10 s11 s12 s13 s14 (.own (.lst (pts.map .int))) s16) h = .ok .next (LE s0 s2 s3 (.val (RP r)) s5 s6 s7 s8 s9 s10 s11 s12 s13 s14 (.val (.lst (pts.map .int))) (.val (.bl (rh pts r)))) h := by
  have q := s_law_row_holds k r pts h hl h1 h2
  have e : RP r = pvR false true r := rfl
  rw [e]
  unfold wP2 LE
  simp only [evS, evA, evM, evT, evL, evR, evO, evI, Out.bind, Out.noex, lift, rd, v_non, v_bl, v_int, v_str, v_lst, v_tup, v_dic, esc, finish, mk, pm0, pm2, pm3, i_lst, i_tup, lo_lst, List.append_nil, Option.bind_some, Option.bind_none, Option.map_some, Option.map_none, Option.bind_eq_bind, List.getElem?_cons_zero, List.getElem?_cons_succ, List.getElem?_nil, List.set_cons_zero, List.set_cons_succ, List.length_cons, List.length_nil, List.mapM_cons, List.mapM_nil, Option.pure_def, Option.getD_some, and_self, Bool.not_true, Bool.not_false, if_true, if_false, Bool.false_eq_true, Bool.true_eq_false, reduceIte, Nat.reduceAdd, Nat.reduceLT, Nat.reduceSub, q]
theorem P3 (pts : List Int) (hl : r.ns.length ≤ line) (h1 : Sml r.ns) (h2 : Sml pts) :
    evS (callN G (k + 2)) wP3 (LE s0 s2 s3 s4 s5 s6 s7 s8 (.val (dueP r)) s10 s11 (.val (pvO true (plainF r))) s13 s14 (.val (.lst (pts.map .int))) (.val (.bl (rh pts r)))) h = .ok .next (LE s0 s2 s3 s4 s5 s6 s7 s8 (.val (dueP r)) s10 s11 (.val (pvO true (plainF r))) s13 s14 (.val (.lst (pts.map .int))) (.val (.bl (rh pts r)))) h := by
  let E0 : Env := LE s0 s2 s3 s4 s5 s6 s7 s8 (.val (dueP r)) s10 s11 (.val (pvO true (plainF r))) s13 s14 (.val (.lst (pts.map .int))) (.val (.bl (rh pts r)))
  obtain ⟨ps, h', q, p1, p2⟩ := lc_gen (gd := []) (C := callN G (k + 2)) (own := [18, 21]) (tg := .nm 21) (it := .iseq (.var 9)) (ifs := .nil) (body := .one (.call 22 [] (.cons (.var 21) (.cons (.var 15) .nil))))
    (e := E0) (e1 := E0) (h := h) (h1 := h) (xs := (trn r).map (pvR false true))
    (by simp only [E0, LE, dueP, evS, evA, evM, evT, evL, evR, evO, evI, Out.bind, Out.noex, lift, rd, v_non, v_bl, v_int, v_str, v_lst, v_tup, v_dic, esc, finish, mk, pm0, pm2, pm3, i_lst, i_tup, lo_lst, List.append_nil, Option.bind_some, Option.bind_none, Option.map_some, Option.map_none, Option.bind_eq_bind, List.getElem?_cons_zero, List.getElem?_cons_succ, List.getElem?_nil, List.set_cons_zero, List.set_cons_succ, List.length_cons, List.length_nil, List.mapM_cons, List.mapM_nil, Option.pure_def, Option.getD_some, and_self, Bool.not_true, Bool.not_false, if_true, if_false, Bool.false_eq_true, Bool.true_eq_false, reduceIte, Nat.reduceAdd, Nat.reduceLT, Nat.reduceSub]) (fun i acc h1 => acc = ((trn r).take i).map (fun z => PV.bl (rh pts z)) ∧ h1 = h) (fun _ => E0) rfl (fun i x h1 acc hx ⟨ha, hh1⟩ => by
      subst hh1
      rw [List.getElem?_map, Option.map_eq_some_iff] at hx
      obtain ⟨z, hz, rfl⟩ := hx
      have hzm := List.mem_of_getElem? hz
      have q := s_law_row_holds k z pts h1 (by rw [trn_ns r z hzm]; exact hl) (sml_trn r ‹Sml r.ns› z hzm) h2
      refine ⟨[.bl (rh pts z)], h1, E0.set 21 (.val (pvR false true z)), ?_, rfl, ?_, rfl⟩
      · rw [lcStep_nil (e' := E0.set 21 (.val (pvR false true z))) rfl]
        simp only [E0, LE, evS, evA, evM, evT, evL, evR, evO, evI, Out.bind, Out.noex, lift, rd, v_non, v_bl, v_int, v_str, v_lst, v_tup, v_dic, esc, finish, mk, pm0, pm2, pm3, i_lst, i_tup, lo_lst, List.append_nil, Option.bind_some, Option.bind_none, Option.map_some, Option.map_none, Option.bind_eq_bind, List.getElem?_cons_zero, List.getElem?_cons_succ, List.getElem?_nil, List.set_cons_zero, List.set_cons_succ, List.length_cons, List.length_nil, List.mapM_cons, List.mapM_nil, Option.pure_def, Option.getD_some, and_self, Bool.not_true, Bool.not_false, if_true, if_false, Bool.false_eq_true, Bool.true_eq_false, reduceIte, Nat.reduceAdd, Nat.reduceLT, Nat.reduceSub, q]
      · rw [ha, List.take_succ, hz]; simp) (fun _ _ _ _ => rfl) ⟨rfl, rfl⟩ (fun ps h' ⟨hp, _⟩ => by
      rw [hp]; simp
      have := trn_len r
      exact Nat.le_trans this (by decide))
  rw [List.length_map, List.take_length] at p1
  subst p1; subst p2
  have hE : backE [18, 21] (frzAt [18, 21] E0) E0 = E0 := rfl
  rw [hE] at q
  simp only [E0, LE] at q
  have an := any_bls (rh pts) (trn r)
  rw [turned_not] at an
  have eb : ∀ a b : Bool, opEq (.bl a) (.bl b) = some (a == b) := fun a b => by simp [opEq, okD, dep, eqv]
  have nb : (!rh pts r == rh pts r) = false := by cases rh pts r <;> rfl
  have ps := plain_same pts r
  unfold wP3 LE
  cases hp : plainF r with
  | none =>
    rw [hp] at ps q
    simp only [pvO] at q ⊢
    simp only at ps
    rw [← ps] at an nb q ⊢
    simp only [evS, evA, evM, evT, evL, evR, evO, evI, Out.bind, Out.noex, lift, rd, v_non, v_bl, v_int, v_str, v_lst, v_tup, v_dic, esc, finish, mk, pm0, pm2, pm3, i_lst, i_tup, lo_lst, List.append_nil, Option.bind_some, Option.bind_none, Option.map_some, Option.map_none, Option.bind_eq_bind, List.getElem?_cons_zero, List.getElem?_cons_succ, List.getElem?_nil, List.set_cons_zero, List.set_cons_succ, List.length_cons, List.length_nil, List.mapM_cons, List.mapM_nil, Option.pure_def, Option.getD_some, and_self, Bool.not_true, Bool.not_false, if_true, if_false, Bool.false_eq_true, Bool.true_eq_false, reduceIte, Nat.reduceAdd, Nat.reduceLT, Nat.reduceSub, q, an, opCmp, eb, nb, truthy]
    rfl
  | some z =>
    rw [hp] at ps q
    simp only [pvO] at q ⊢
    simp only at ps
    have qz := s_law_row_holds k z pts h' (by rw [plainF_ns r z hp]; exact hl) (sml_plain r z hp h1) h2
    rw [ps] at qz
    have e : pvR false true z = .tup [.lst (z.ns.map .int), .str (wd z.eq), .int z.b] := rfl
    rw [e] at qz q ⊢
    simp only [evS, evA, evM, evT, evL, evR, evO, evI, Out.bind, Out.noex, lift, rd, v_non, v_bl, v_int, v_str, v_lst, v_tup, v_dic, esc, finish, mk, pm0, pm2, pm3, i_lst, i_tup, lo_lst, List.append_nil, Option.bind_some, Option.bind_none, Option.map_some, Option.map_none, Option.bind_eq_bind, List.getElem?_cons_zero, List.getElem?_cons_succ, List.getElem?_nil, List.set_cons_zero, List.set_cons_succ, List.length_cons, List.length_nil, List.mapM_cons, List.mapM_nil, Option.pure_def, Option.getD_some, and_self, Bool.not_true, Bool.not_false, if_true, if_false, Bool.false_eq_true, Bool.true_eq_false, reduceIte, Nat.reduceAdd, Nat.reduceLT, Nat.reduceSub, q, an, opCmp, eb, nb, qz, truthy]
    cases rh pts r <;> rfl
end
end K03

namespace K03
open PL
open PySem (Str)
theorem SI.get {c c' : Nat} {rest : Hs} {h h' : Hs} (s : SI c rest h) (s' : SI c' rest h') : h'.length = h.length ∧ ∀ i, 2 ≤ i → h'[i]? = h[i]? := by
  obtain ⟨_, _, _, _, rfl, _⟩ := s
  obtain ⟨_, _, _, _, rfl, _⟩ := s'
  refine ⟨by simp, fun i hi => ?_⟩
  match i, hi with
  | i + 2, _ => simp
section
variable (k m : Nat) (r : Rw) (h : Hs) (s0 s2 s3 s4 s5 s6 s7 s8 s9 s10 s11 s12 s13 s14 s15 s16 : SV)
/-- all points -/
theorem LP (c : Nat) (rest : Hs) (s : SI c rest h) (hc : c + 100 < 1000000) (hm : m ≤ 4) (hl : r.ns.length ≤ line) (h1 : Sml r.ns) :
    ∃ x14 x15 x16 h', evS (callN G (k + 2)) (.for_ (.nm 14) (.irng1 (.con (.int 6))) wP) (LE s0 s2 (.val (.int m)) (.val (RP r)) s5 s6 s7 s8 (.val (dueP r)) s10 s11 (.val (pvO true (plainF r))) s13 s14 s15 s16) h = .ok .next (LE s0 s2 (.val (.int m)) (.val (RP r)) s5 s6 s7 s8 (.val (dueP r)) s10 s11 (.val (pvO true (plainF r))) s13 x14 x15 x16) h' ∧ SI (c + 24) rest h' := by
  obtain ⟨e2, h6, qf, x14, x15, x16, he, s6'⟩ := forLoop_run (gd := []) (f := forStep (callN G (k + 2)) (.nm 14) wP) (xs := rngItems 0 6)
    (fun j e h => ∃ x14 x15 x16, e = LE s0 s2 (.val (.int m)) (.val (RP r)) s5 s6 s7 s8 (.val (dueP r)) s10 s11 (.val (pvO true (plainF r))) s13 x14 x15 x16 ∧ SI (c + j * 4) rest h)
    (fun j x e h hx ⟨x14, x15, x16, he, hs⟩ => by
      obtain ⟨hin, _⟩ := rng_get 6 j x hx
      subst he
      obtain ⟨pts, h', q1, l1, l2, s'⟩ := P1 k m h s0 s2 (.val (RP r)) s5 s6 s7 s8 (.val (dueP r)) s10 s11 (.val (pvO true (plainF r))) s13 (.val x) x15 x16 (c + j * 4) rest hs (by omega) hm
      have q2 := P2 k r h' s0 s2 (.val (.int m)) s5 s6 s7 s8 (.val (dueP r)) s10 s11 (.val (pvO true (plainF r))) s13 (.val x) x16 pts hl h1 (l2.sml (by decide))
      have q3 := P3 k r h' s0 s2 (.val (.int m)) (.val (RP r)) s5 s6 s7 s8 s10 s11 s13 (.val x) pts hl h1 (l2.sml (by decide))
      refine ⟨.next, LE s0 s2 (.val (.int m)) (.val (RP r)) s5 s6 s7 s8 (.val (dueP r)) s10 s11 (.val (pvO true (plainF r))) s13 (.val x) (.val (.lst (pts.map .int))) (.val (.bl (rh pts r))), h', ?_, .inl rfl, _, _, _, rfl, s'.mono (by omega)⟩
      have hb : bindT (.nm 14) x (LE s0 s2 (.val (.int m)) (.val (RP r)) s5 s6 s7 s8 (.val (dueP r)) s10 s11 (.val (pvO true (plainF r))) s13 x14 x15 x16) = some (LE s0 s2 (.val (.int m)) (.val (RP r)) s5 s6 s7 s8 (.val (dueP r)) s10 s11 (.val (pvO true (plainF r))) s13 (.val x) x15 x16) := rfl
      unfold forStep
      rw [hb]
      show evS (callN G (k + 2)) wP _ _ = _
      unfold wP
      rw [seq_next q1, seq_next q2, q3])
    (fun _ _ _ _ => rfl) (e := LE s0 s2 (.val (.int m)) (.val (RP r)) s5 s6 s7 s8 (.val (dueP r)) s10 s11 (.val (pvO true (plainF r))) s13 s14 s15 s16) (h := h) ⟨s14, s15, s16, rfl, s.mono (by omega)⟩
  have e4 : (rngItems 0 6).length = 6 := rng_len 6
  rw [e4] at s6'
  refine ⟨x14, x15, x16, h6, ?_, s6'⟩
  rw [evS_for]
  have : evI (callN G (k + 2)) (.irng1 (.con (.int 6))) (LE s0 s2 (.val (.int m)) (.val (RP r)) s5 s6 s7 s8 (.val (dueP r)) s10 s11 (.val (pvO true (plainF r))) s13 s14 s15 s16) h = .ok (rngItems 0 6, []) (LE s0 s2 (.val (.int m)) (.val (RP r)) s5 s6 s7 s8 (.val (dueP r)) s10 s11 (.val (pvO true (plainF r))) s13 s14 s15 s16) h := by
    simp only [evS, evA, evM, evT, evL, evR, evO, evI, Out.bind, Out.noex, lift, rd, v_non, v_bl, v_int, v_str, v_lst, v_tup, v_dic, esc, finish, mk, pm0, pm2, pm3, i_lst, i_tup, lo_lst, List.append_nil, Option.bind_some, Option.bind_none, Option.map_some, Option.map_none, Option.bind_eq_bind, List.getElem?_cons_zero, List.getElem?_cons_succ, List.getElem?_nil, List.set_cons_zero, List.set_cons_succ, List.length_cons, List.length_nil, List.mapM_cons, List.mapM_nil, Option.pure_def, Option.getD_some, and_self, Bool.not_true, Bool.not_false, if_true, if_false, Bool.false_eq_true, Bool.true_eq_false, reduceIte, Nat.reduceAdd, Nat.reduceLT, Nat.reduceSub, show small62 6 = true by decide]
  rw [this, bind_okE, qf, he]
theorem LS1 (a n : Nat) (x1 x2 x3 : PV) (h' : Hs) (q : callN G k 17 [.ref n] h = .ret .non false h') :
    evS (callN G k) wS1 (LE s0 s2 s3 s4 s5 s6 s7 s8 s9 s10 s11 s12 (.val (.lst [.ref n, x1, x2, x3])) s14 s15 s16) h = .ok .next (LE s0 s2 s3 s4 s5 s6 s7 s8 s9 s10 s11 s12 (.val (.lst [.ref n, x1, x2, x3])) s14 s15 s16) h' := by
  have i0 : opIdx (.lst [.ref n, x1, x2, x3]) (.int 0) = some (.ref n) := rfl
  unfold wS1 LE
  simp only [evS, evA, evM, evT, evL, evR, evO, evI, Out.bind, Out.noex, lift, rd, v_non, v_bl, v_int, v_str, v_lst, v_tup, v_dic, esc, finish, mk, pm0, pm2, pm3, i_lst, i_tup, lo_lst, List.append_nil, Option.bind_some, Option.bind_none, Option.map_some, Option.map_none, Option.bind_eq_bind, List.getElem?_cons_zero, List.getElem?_cons_succ, List.getElem?_nil, List.set_cons_zero, List.set_cons_succ, List.length_cons, List.length_nil, List.mapM_cons, List.mapM_nil, Option.pure_def, Option.getD_some, and_self, Bool.not_true, Bool.not_false, if_true, if_false, Bool.false_eq_true, Bool.true_eq_false, reduceIte, Nat.reduceAdd, Nat.reduceLT, Nat.reduceSub, i0, q]
theorem LS2n (x0 x1 x2 x3 : PV) :
    evS (callN G k) wS2 (LE s0 s2 s3 s4 s5 s6 s7 s8 s9 s10 s11 (.val .non) (.val (.lst [x0, x1, x2, x3])) s14 s15 s16) h = .ok .next (LE s0 s2 s3 s4 s5 s6 s7 s8 s9 s10 s11 (.val .non) (.val (.lst [x0, x1, x2, x3])) s14 s15 s16) h := by
  unfold wS2 LE
  simp only [evS, evA, evM, evT, evL, evR, evO, evI, Out.bind, Out.noex, lift, rd, v_non, v_bl, v_int, v_str, v_lst, v_tup, v_dic, esc, finish, mk, pm0, pm2, pm3, i_lst, i_tup, lo_lst, List.append_nil, Option.bind_some, Option.bind_none, Option.map_some, Option.map_none, Option.bind_eq_bind, List.getElem?_cons_zero, List.getElem?_cons_succ, List.getElem?_nil, List.set_cons_zero, List.set_cons_succ, List.length_cons, List.length_nil, List.mapM_cons, List.mapM_nil, Option.pure_def, Option.getD_some, and_self, Bool.not_true, Bool.not_false, if_true, if_false, Bool.false_eq_true, Bool.true_eq_false, reduceIte, Nat.reduceAdd, Nat.reduceLT, Nat.reduceSub, opCmp, truthy]
theorem LS2 (a : Nat) (pv : List PV) (x0 x1 y1 y2 x3 : PV) (h' : Hs) (q : callN G k 17 [.ref a] h = .ret .non false h') :
    evS (callN G k) wS2 (LE s0 s2 s3 s4 s5 s6 s7 s8 s9 s10 s11 (.val (.tup pv)) (.val (.lst [x0, x1, .tup [.ref a, y1, y2], x3])) s14 s15 s16) h = .ok .next (LE s0 s2 s3 s4 s5 s6 s7 s8 s9 s10 s11 (.val (.tup pv)) (.val (.lst [x0, x1, .tup [.ref a, y1, y2], x3])) s14 s15 s16) h' := by
  have i2 : opIdx (.lst [x0, x1, .tup [.ref a, y1, y2], x3]) (.int 2) = some (.tup [.ref a, y1, y2]) := rfl
  have i0 : opIdx (.tup [.ref a, y1, y2]) (.int 0) = some (.ref a) := rfl
  unfold wS2 LE
  simp only [evS, evA, evM, evT, evL, evR, evO, evI, Out.bind, Out.noex, lift, rd, v_non, v_bl, v_int, v_str, v_lst, v_tup, v_dic, esc, finish, mk, pm0, pm2, pm3, i_lst, i_tup, lo_lst, List.append_nil, Option.bind_some, Option.bind_none, Option.map_some, Option.map_none, Option.bind_eq_bind, List.getElem?_cons_zero, List.getElem?_cons_succ, List.getElem?_nil, List.set_cons_zero, List.set_cons_succ, List.length_cons, List.length_nil, List.mapM_cons, List.mapM_nil, Option.pure_def, Option.getD_some, and_self, Bool.not_true, Bool.not_false, if_true, if_false, Bool.false_eq_true, Bool.true_eq_false, reduceIte, Nat.reduceAdd, Nat.reduceLT, Nat.reduceSub, opCmp, truthy, i2, i0, q]
theorem LQ (hs : ∀ n ∈ r.ns, n.natAbs ≤ 1000) (hl : m ≤ 100) (hm1 : 1 ≤ m) (hm : r.ns.length = m) :
    evS (callN G (k + 6)) wQ (LE s0 s2 (.val (.int m)) (.val (RP r)) s5 s6 s7 s8 (.val (dueP r)) s10 s11 (.val (pvO true (plainF r))) s13 s14 s15 s16) h = .ok .next (LE s0 s2 (.val (.int m)) (.val (RP r)) s5 s6 s7 s8 (.val (dueP r)) s10 s11 (.val (pvO true (plainF r))) s13 s14 s15 s16) (hP r (hT r h)) := by
  have hl2 : r.ns.length ≤ line := by rw [hm]; exact Nat.le_trans hl line100
  have c18 : ∀ h, callN G (k + 6) 18 [RP r] h = .ret (RP r) false h := fun h => by
    have := s_copied 2 (RP r) (k + 3) h (dat_R false true r hl2)
    exact this
  have t2 : callN G (k + 6) 9 [.int m, RP r] h = .ret (.ref (h.length + (trn r).length)) false (hT r h) := s_turned k false true r m h hm1 hm hl
  have p2 : callN G (k + 6) 12 [.int m, RP r] (hT r h) = .ret (tellP (hT r h).length (plainF r)) false (hP r (hT r h)) := s_plain_row k false true r m (hT r h) hm1 hm hl hs
  have c16 : callN G (k + 6) 16 [.lst [.ref (h.length + (trn r).length), tellP (hT r h).length (plainF r)], .lst [dueP r, pvO true (plainF r)]] (hP r (hT r h)) = .ret (.bl true) false (hP r (hT r h)) := by
    obtain ⟨x, e⟩ := hP_app r (hT r h)
    exact s_sameR 4 _ _ (k + 1) _ (R_two (R_toldT r h _ ⟨x, e⟩ hl2) (R_toldP r (hT r h) _ 1 ⟨[], by simp⟩ hl2))
  unfold wQ LE
  simp only [evS, evA, evM, evT, evL, evR, evO, evI, Out.bind, Out.noex, lift, rd, v_non, v_bl, v_int, v_str, v_lst, v_tup, v_dic, esc, finish, mk, pm0, pm2, pm3, i_lst, i_tup, lo_lst, List.append_nil, Option.bind_some, Option.bind_none, Option.map_some, Option.map_none, Option.bind_eq_bind, List.getElem?_cons_zero, List.getElem?_cons_succ, List.getElem?_nil, List.set_cons_zero, List.set_cons_succ, List.length_cons, List.length_nil, List.mapM_cons, List.mapM_nil, Option.pure_def, Option.getD_some, and_self, Bool.not_true, Bool.not_false, if_true, if_false, Bool.false_eq_true, Bool.true_eq_false, reduceIte, Nat.reduceAdd, Nat.reduceLT, Nat.reduceSub, c18, t2, p2, c16, truthy]
end
end K03

namespace K03
open PL
open PySem (Str)
theorem SI.hT {c : Nat} {rest : Hs} {h : Hs} (s : SI c rest h) (r : Rw) : ∃ rest', SI c rest' (hT r h) := by
  obtain ⟨x, e⟩ := hT_app r h
  rw [e]; exact ⟨_, s.app x⟩
theorem SI.hP {c : Nat} {rest : Hs} {h : Hs} (s : SI c rest h) (r : Rw) : ∃ rest', SI c rest' (hP r h) := by
  obtain ⟨x, e⟩ := hP_app r h
  rw [e]; exact ⟨_, s.app x⟩
theorem body_step (k c : Nat) (h : Hs) (rest : Hs) (s : SI c rest h) (hc : c + 500 < 1000000) (s0 s2 s3 s4 s5 s6 s7 s8 s9 s10 s11 s12 s13 s14 s15 s16 : SV) (i : PV) :
    ∃ s3' s4' s5' s6' s7' s8' s9' s10' s11' s12' s13' s14' s15' s16' h' rest', forStep (callN G (k + 10)) (.nm 2) wB i (LE s0 s2 s3 s4 s5 s6 s7 s8 s9 s10 s11 s12 s13 s14 s15 s16) h = .ok .next (LE s0 (.val i) s3' s4' s5' s6' s7' s8' s9' s10' s11' s12' s13' s14' s15' s16') h' ∧ SI (c + 100) rest' h' := by
  obtain ⟨d, h1, q1, s1, d0, d1⟩ := s_draw (k + 9) c h s (by omega) 4 (by decide) (by decide)
  obtain ⟨m, hm⟩ : ∃ m : Nat, 1 + d = m := ⟨(1 + d).toNat, by omega⟩
  have hm1 : 1 ≤ m := by omega
  have hm4 : m ≤ 4 := by omega
  obtain ⟨r, h2, q2, hrl, hrb, b0, b1, s2'⟩ := s_any_row (k + 6) (c + 1) h1 s1 m hm4 (by omega)
  have hl100 : r.ns.length ≤ 100 := by omega
  have hll : r.ns.length ≤ line := Nat.le_trans hl100 line100
  have hsm : Sml r.ns := hrb.sml (by decide)
  have hs : ∀ n ∈ r.ns, n.natAbs ≤ 1000 := fun n hn => by have := hrb n hn; omega
  have x3 : evS (callN G (k + 10)) w3 (LE s0 (.val i) s3 s4 s5 s6 s7 s8 s9 s10 s11 s12 s13 s14 s15 s16) h = .ok .next (LE s0 (.val i) (.val (.int m)) s4 s5 s6 s7 s8 s9 s10 s11 s12 s13 s14 s15 s16) h1 := by
    unfold w3 LE; simp only [evS, evA, evM, evT, evL, evR, evO, evI, Out.bind, Out.noex, lift, rd, v_non, v_bl, v_int, v_str, v_lst, v_tup, v_dic, esc, finish, mk, pm0, pm2, pm3, i_lst, i_tup, lo_lst, List.append_nil, Option.bind_some, Option.bind_none, Option.map_some, Option.map_none, Option.bind_eq_bind, List.getElem?_cons_zero, List.getElem?_cons_succ, List.getElem?_nil, List.set_cons_zero, List.set_cons_succ, List.length_cons, List.length_nil, List.mapM_cons, List.mapM_nil, Option.pure_def, Option.getD_some, and_self, Bool.not_true, Bool.not_false, if_true, if_false, Bool.false_eq_true, Bool.true_eq_false, reduceIte, Nat.reduceAdd, Nat.reduceLT, Nat.reduceSub, q1, bAdd, hm]
  have x4 : evS (callN G (k + 10)) w4 (LE s0 (.val i) (.val (.int m)) s4 s5 s6 s7 s8 s9 s10 s11 s12 s13 s14 s15 s16) h1 = .ok .next (LE s0 (.val i) (.val (.int m)) (.val (RP r)) s5 s6 s7 s8 s9 s10 s11 s12 s13 s14 s15 s16) h2 := by
    have e : RP r = pvR false true r := rfl
    rw [e]
    unfold w4 LE; simp only [evS, evA, evM, evT, evL, evR, evO, evI, Out.bind, Out.noex, lift, rd, v_non, v_bl, v_int, v_str, v_lst, v_tup, v_dic, esc, finish, mk, pm0, pm2, pm3, i_lst, i_tup, lo_lst, List.append_nil, Option.bind_some, Option.bind_none, Option.map_some, Option.map_none, Option.bind_eq_bind, List.getElem?_cons_zero, List.getElem?_cons_succ, List.getElem?_nil, List.set_cons_zero, List.set_cons_succ, List.length_cons, List.length_nil, List.mapM_cons, List.mapM_nil, Option.pure_def, Option.getD_some, and_self, Bool.not_true, Bool.not_false, if_true, if_false, Bool.false_eq_true, Bool.true_eq_false, reduceIte, Nat.reduceAdd, Nat.reduceLT, Nat.reduceSub, q2]; rfl
  have x5 := L5 (k + 10) m r h2 s0 (.val i) s5 s6 s7 s8 s9 s10 s11 s12 s13 s14 s15 s16
  have x8 := L8 (k + 10) m r h2 s0 (.val i) s8 s9 s10 s11 s12 s13 s14 s15 s16 hll
  obtain ⟨t, u, h4, x9, s4'⟩ := L9 (k + 7) m r h2 s0 (.val i) s9 s10 s11 s12 s13 s14 s15 s16 (c + 1 + 20) rest s2' (by omega) hll
  have x11 := L11 (k + 7) m r h4 s0 (.val i) (.val (.lst (r.ns.map .int))) (.val (.str (wd r.eq))) (.val (.int r.b)) (.val (RP (below r))) (.own (dueP r)) s11 s12 s13 s14 s15 s16 t u hs (by omega) (by omega) hl100 (by omega)
  have x13 := L13 (k + 4) m r h4 s0 (.val i) (.val (.lst (r.ns.map .int))) (.val (.str (wd r.eq))) (.val (.int r.b)) (.val (RP (below r))) (.own (dueP r)) (sl t (pvR t u r)) (.val (pvO true (plainF r))) s13 s14 s15 s16 t u hs (by omega) hm1 hrl
  have xI := LI (k + 4) r (toldH r h4) s0 (.val i) (.val (.int m)) (.val (RP r)) (.val (.lst (r.ns.map .int))) (.val (.str (wd r.eq))) (.val (.int r.b)) (.val (RP (below r))) s14 s15 s16 t u true h4 rfl hl100
  obtain ⟨r1, s5a⟩ := s4'.hT r
  obtain ⟨r2, s5b⟩ := s5a.hT r
  obtain ⟨r3, s5c⟩ := s5b.hP r
  obtain ⟨r4, s5'⟩ : ∃ r4, SI (c + 1 + 20 + 4) r4 (toldH r h4) := s5c.hP r
  obtain ⟨y14, y15, y16, h6, xP, s6'⟩ := LP (k + 8) m r (toldH r h4) s0 (.val i) (.val (.lst (r.ns.map .int))) (.val (.str (wd r.eq))) (.val (.int r.b)) (.val (RP (below r))) (.val (pvR t u r)) (.val (pvR t u r)) (.val (toldV r h4)) s14 s15 s16 (c + 1 + 20 + 4) r4 s5' (by omega) hm4 hll hsm
  obtain ⟨hlen6, hget6⟩ := s5'.get s6'
  have two4 := s4'.two
  obtain ⟨z1, e1⟩ := hT_app r (hT r h4)
  obtain ⟨z2, e2⟩ := hP_app r (hT r (hT r h4))
  obtain ⟨z3, e3⟩ := hP_app r (hP r (hT r (hT r h4)))
  have tH : toldH r h4 = hT r h4 ++ (z1 ++ (z2 ++ z3)) := by rw [toldH, e3, e2, e1]; simp
  have tH3 : toldH r h4 = hP r (hT r (hT r h4)) ++ z3 := by rw [toldH, e3]
  have hltr := trn_len r
  have hlr : ∀ z ∈ trn r, z.ns.length < line := fun z hz => by rw [trn_ns r z hz]; exact Nat.lt_of_le_of_lt hl100 (by decide)
  obtain ⟨h7, c7, hlen7, hget7⟩ := sp_told (k + 6) h4.length (h4.length + (trn r).length) (trn r) h6 (by rw [hget6 _ (by omega), tH]; exact app_get (hT_top r h4)) (Nat.le_refl _) (fun j z hz => by rw [hget6 _ (by omega), tH]; exact app_get (hT_cell r h4 j z hz)) hlr (Nat.lt_of_le_of_lt hltr (by decide))
  have xS1 : evS (callN G (k + 10)) wS1 (LE s0 (.val i) (.val (.int m)) (.val (RP r)) (.val (.lst (r.ns.map .int))) (.val (.str (wd r.eq))) (.val (.int r.b)) (.val (RP (below r))) (.val (dueP r)) (.val (pvR t u r)) (.val (pvR t u r)) (.val (pvO true (plainF r))) (.val (toldV r h4)) y14 y15 y16) h6 = .ok .next (LE s0 (.val i) (.val (.int m)) (.val (RP r)) (.val (.lst (r.ns.map .int))) (.val (.str (wd r.eq))) (.val (.int r.b)) (.val (RP (below r))) (.val (dueP r)) (.val (pvR t u r)) (.val (pvR t u r)) (.val (pvO true (plainF r))) (.val (toldV r h4)) y14 y15 y16) h7 := LS1 (k + 10) h6 s0 (.val i) (.val (.int m)) (.val (RP r)) (.val (.lst (r.ns.map .int))) (.val (.str (wd r.eq))) (.val (.int r.b)) (.val (RP (below r))) (.val (dueP r)) (.val (pvR t u r)) (.val (pvR t u r)) (.val (pvO true (plainF r))) y14 y15 y16 0 (h4.length + (trn r).length) (.ref ((hT r h4).length + (trn r).length)) (tellP (hT r (hT r h4)).length (plainF r)) (tellP (hP r (hT r (hT r h4))).length (plainF r)) h7 c7
  obtain ⟨r7, s7'⟩ := s6'.of hlen7 (fun j hj => hget7 j (by omega))
  have xS2 : ∃ h8 r8, evS (callN G (k + 10)) wS2 (LE s0 (.val i) (.val (.int m)) (.val (RP r)) (.val (.lst (r.ns.map .int))) (.val (.str (wd r.eq))) (.val (.int r.b)) (.val (RP (below r))) (.val (dueP r)) (.val (pvR t u r)) (.val (pvR t u r)) (.val (pvO true (plainF r))) (.val (toldV r h4)) y14 y15 y16) h7 = .ok .next (LE s0 (.val i) (.val (.int m)) (.val (RP r)) (.val (.lst (r.ns.map .int))) (.val (.str (wd r.eq))) (.val (.int r.b)) (.val (RP (below r))) (.val (dueP r)) (.val (pvR t u r)) (.val (pvR t u r)) (.val (pvO true (plainF r))) (.val (toldV r h4)) y14 y15 y16) h8 ∧ SI (c + 1 + 20 + 4 + 24) r8 h8 := by
    cases hp : plainF r with
    | none =>
      refine ⟨h7, r7, ?_, s7'⟩
      exact LS2n (k + 10) h7 s0 (.val i) (.val (.int m)) (.val (RP r)) (.val (.lst (r.ns.map .int))) (.val (.str (wd r.eq))) (.val (.int r.b)) (.val (RP (below r))) (.val (dueP r)) (.val (pvR t u r)) (.val (pvR t u r)) y14 y15 y16 _ _ _ _
    | some z =>
      have hz : h7[(hT r (hT r h4)).length]? = some (.lst (z.ns.map .int)) := by
        have hb : h4.length + (trn r).length < (hT r (hT r h4)).length := by rw [hT_len, hT_len]; omega
        rw [hget7 _ (.inr hb), hget6 _ (by omega), tH3]
        exact app_get (hP_cell r (hT r (hT r h4)) z hp)
      have c8 := sp_cell (k + 8) (hT r (hT r h4)).length z.ns h7 hz (by rw [plainF_ns r z hp]; exact Nat.lt_of_le_of_lt hl100 (by decide))
      have hb2 : 2 ≤ (hT r (hT r h4)).length := by rw [hT_len, hT_len]; omega
      obtain ⟨r8, s8'⟩ := s7'.of (h' := h7.set (hT r (hT r h4)).length (.lst (z.ns.map .int ++ [.str "late"]))) (by rw [List.length_set]) (fun j hj => by rw [List.getElem?_set_ne (by omega)])
      refine ⟨_, r8, ?_, s8'⟩
      have tv : toldV r h4 = .lst [.ref (h4.length + (trn r).length), .ref ((hT r h4).length + (trn r).length), .tup [.ref (hT r (hT r h4)).length, .str (wd z.eq), .int z.b], tellP (hP r (hT r (hT r h4))).length (some z)] := by
        unfold toldV; rw [hp]; rfl
      rw [tv]
      exact LS2 (k + 10) h7 s0 (.val i) (.val (.int m)) (.val (RP r)) (.val (.lst (r.ns.map .int))) (.val (.str (wd r.eq))) (.val (.int r.b)) (.val (RP (below r))) (.val (dueP r)) (.val (pvR t u r)) (.val (pvR t u r)) y14 y15 y16 _ _ _ _ _ _ _ _ c8
  obtain ⟨h8, r8, xS2, s8'⟩ := xS2
  have xQ := LQ (k + 4) m r h8 s0 (.val i) (.val (.lst (r.ns.map .int))) (.val (.str (wd r.eq))) (.val (.int r.b)) (.val (RP (below r))) (.val (pvR t u r)) (.val (pvR t u r)) (.val (toldV r h4)) y14 y15 y16 hs (by omega) hm1 hrl
  obtain ⟨r9, s9'⟩ := s8'.hT r
  obtain ⟨r10, s10'⟩ := s9'.hP r
  refine ⟨.val (.int m), .val (RP r), .val (.lst (r.ns.map .int)), .val (.str (wd r.eq)), .val (.int r.b), .val (RP (below r)), .val (dueP r), .val (pvR t u r), .val (pvR t u r), .val (pvO true (plainF r)), .val (toldV r h4), y14, y15, y16, hP r (hT r h8), r10, ?_, s10'.mono (by omega)⟩
  have hb : bindT (.nm 2) i (LE s0 s2 s3 s4 s5 s6 s7 s8 s9 s10 s11 s12 s13 s14 s15 s16) = some (LE s0 (.val i) s3 s4 s5 s6 s7 s8 s9 s10 s11 s12 s13 s14 s15 s16) := rfl
  unfold forStep
  rw [hb]
  show evS (callN G (k + 10)) wB _ _ = _
  unfold wB
  rw [seq_next x3, seq_next x4, seq_next x5, seq_next x8, seq_next x9, seq_next x11, seq_next x13, seq_next xI, seq_next xP, seq_next xS1, seq_next xS2, xQ]
end K03

namespace K03
open PL
open PySem (Str)
def ra : Rw := ⟨[2, 4], false, 3⟩
def rb : Rw := ⟨[2, 4], true, 3⟩
def rc : Rw := ⟨[-2], true, 4⟩
def rd0 : Rw := ⟨[0, 0], true, 0⟩
def re : Rw := ⟨[1, 0], true, 3⟩
theorem d24 : dv [2, 4] = 2 := by decide +kernel
theorem d2 : dv [-2] = 2 := by decide +kernel
theorem d00 : dv [0, 0] = 0 := by decide +kernel
theorem pa : pvO true (plainF ra) = .tup [.lst [.int 1, .int 2], .str ">=", .int 2] := by
  have : plainF ra = some ⟨[1, 2], false, 2⟩ := by
    unfold plainF ra
    simp only [d24]
    rfl
  rw [this]; rfl
theorem pb : pvO true (plainF rb) = .non := by
  have : plainF rb = none := by
    unfold plainF rb
    simp only [d24]
    rfl
  rw [this]; rfl
theorem pc : pvO true (plainF rc) = .tup [.lst [.int 1], .str "=", .int (-2)] := by
  have hl : leadN [-2] = -2 := by
    unfold leadN
    rw [d2]
    rfl
  have : plainF rc = some ⟨[1], true, -2⟩ := by
    unfold plainF rc
    simp only [d2, hl]
    rfl
  rw [this]; rfl
theorem pd : pvO true (plainF rd0) = .tup [.lst [.int 0, .int 0], .str ">=", .int 0] := by
  have : plainF rd0 = some ⟨[0, 0], false, 0⟩ := by
    unfold plainF rd0
    simp only [d00]
    rfl
  rw [this]; rfl
theorem pe : dueP re = .lst [.tup [.lst [.int 1, .int 0], .str ">=", .int 4], .tup [.lst [.int (-1), .int 0], .str ">=", .int (-2)]] := by rfl
end K03

namespace K03
open PL
open PySem (Str)
theorem law_run (ns : List Int) (hns : ns.length ≤ 63) : ∃ fr hh, callN G 30 28 [.scr (ns.map .int)] [] = .ret (.bl true) fr hh := by
  obtain ⟨h0, q0, s0⟩ := s_stream 28 ns hns
  have a1 : evS (callN G 29) (.asg 1 (.call 13 [] (.cons (.var 0) .nil))) [.val (.scr (ns.map .int)), .no, .no, .no, .no, .no, .no, .no, .no, .no, .no, .no, .no, .no, .no, .no, .no, .no, .no, .no, .no, .no] [] = .ok .next (LE (.val (.scr (ns.map .int))) .no .no .no .no .no .no .no .no .no .no .no .no .no .no .no) h0 := by
    unfold LE; simp only [evS, evA, evM, evT, evL, evR, evO, evI, Out.bind, Out.noex, lift, rd, v_non, v_bl, v_int, v_str, v_lst, v_tup, v_dic, esc, finish, mk, pm0, pm2, pm3, i_lst, i_tup, lo_lst, List.append_nil, Option.bind_some, Option.bind_none, Option.map_some, Option.map_none, Option.bind_eq_bind, List.getElem?_cons_zero, List.getElem?_cons_succ, List.getElem?_nil, List.set_cons_zero, List.set_cons_succ, List.length_cons, List.length_nil, List.mapM_cons, List.mapM_nil, Option.pure_def, Option.getD_some, and_self, Bool.not_true, Bool.not_false, if_true, if_false, Bool.false_eq_true, Bool.true_eq_false, reduceIte, Nat.reduceAdd, Nat.reduceLT, Nat.reduceSub, q0]
  obtain ⟨e2, h1, q1, x2, x3, x4, x5, x6, x7, x8, x9, x10, x11, x12, x13, x14, x15, x16, he, rest, s1⟩ := forLoop_run (gd := []) (f := forStep (callN G 29) (.nm 2) wB) (xs := rngItems 0 8)
    (fun j e h => ∃ x2 x3 x4 x5 x6 x7 x8 x9 x10 x11 x12 x13 x14 x15 x16, e = LE (.val (.scr (ns.map .int))) x2 x3 x4 x5 x6 x7 x8 x9 x10 x11 x12 x13 x14 x15 x16 ∧ ∃ rest, SI (j * 100) rest h)
    (fun j x e h hx ⟨x2, x3, x4, x5, x6, x7, x8, x9, x10, x11, x12, x13, x14, x15, x16, he, rest, hs⟩ => by
      obtain ⟨hin, _⟩ := rng_get 8 j x hx
      subst he
      obtain ⟨y3, y4, y5, y6, y7, y8, y9, y10, y11, y12, y13, y14, y15, y16, h', rest', q, s'⟩ := body_step 19 (j * 100) h rest hs (by omega) (.val (.scr (ns.map .int))) x2 x3 x4 x5 x6 x7 x8 x9 x10 x11 x12 x13 x14 x15 x16 x
      exact ⟨.next, _, h', q, .inl rfl, _, y3, y4, y5, y6, y7, y8, y9, y10, y11, y12, y13, y14, y15, y16, rfl, rest', s'.mono (by omega)⟩)
    (fun _ _ _ _ => rfl) (e := LE (.val (.scr (ns.map .int))) .no .no .no .no .no .no .no .no .no .no .no .no .no .no .no) (h := h0) ⟨_, _, _, _, _, _, _, _, _, _, _, _, _, _, _, rfl, [], by simpa using s0⟩
  have x8' : evS (callN G 29) (.for_ (.nm 2) (.irng1 (.con (.int 8))) wB) (LE (.val (.scr (ns.map .int))) .no .no .no .no .no .no .no .no .no .no .no .no .no .no .no) h0 = .ok .next e2 h1 := by
    rw [evS_for]
    have : evI (callN G 29) (.irng1 (.con (.int 8))) (LE (.val (.scr (ns.map .int))) .no .no .no .no .no .no .no .no .no .no .no .no .no .no .no) h0 = .ok (rngItems 0 8, []) (LE (.val (.scr (ns.map .int))) .no .no .no .no .no .no .no .no .no .no .no .no .no .no .no) h0 := by
      simp only [evS, evA, evM, evT, evL, evR, evO, evI, Out.bind, Out.noex, lift, rd, v_non, v_bl, v_int, v_str, v_lst, v_tup, v_dic, esc, finish, mk, pm0, pm2, pm3, i_lst, i_tup, lo_lst, List.append_nil, Option.bind_some, Option.bind_none, Option.map_some, Option.map_none, Option.bind_eq_bind, List.getElem?_cons_zero, List.getElem?_cons_succ, List.getElem?_nil, List.set_cons_zero, List.set_cons_succ, List.length_cons, List.length_nil, List.mapM_cons, List.mapM_nil, Option.pure_def, Option.getD_some, and_self, Bool.not_true, Bool.not_false, if_true, if_false, Bool.false_eq_true, Bool.true_eq_false, reduceIte, Nat.reduceAdd, Nat.reduceLT, Nat.reduceSub, show small62 8 = true by decide]
    rw [this, bind_okE, q1]
  have sm : ∀ l : List Int, (l.all fun n => decide (n.natAbs ≤ 1000)) = true → ∀ n ∈ l, n.natAbs ≤ 1000 := fun l hl n hn => by
    have := List.all_eq_true.mp hl n hn
    simpa using this
  have f1 : ∀ h, callN G 29 12 [.int 2, .tup [.lst [.int 2, .int 4], .str ">=", .int 3]] h = .ret (tellP h.length (plainF ra)) false (hP ra h) := fun h => s_plain_row 23 false true ra 2 h (by decide) rfl (by decide) (sm _ (by decide))
  have f2 : ∀ h, callN G 29 12 [.int 2, .tup [.lst [.int 2, .int 4], .str "=", .int 3]] h = .ret (tellP h.length (plainF rb)) false (hP rb h) := fun h => s_plain_row 23 false true rb 2 h (by decide) rfl (by decide) (sm _ (by decide))
  have f3 : ∀ h, callN G 29 12 [.int 1, .tup [.lst [.int (-2)], .str "=", .int 4]] h = .ret (tellP h.length (plainF rc)) false (hP rc h) := fun h => s_plain_row 23 false true rc 1 h (by decide) rfl (by decide) (sm _ (by decide))
  have f4 : ∀ h, callN G 29 12 [.int 2, .tup [.lst [.int 0, .int 0], .str "=", .int 0]] h = .ret (tellP h.length (plainF rd0)) false (hP rd0 h) := fun h => s_plain_row 23 false true rd0 2 h (by decide) rfl (by decide) (sm _ (by decide))
  have f5 : ∀ h, callN G 29 9 [.int 2, .tup [.lst [.int 1, .int 0], .str "=", .int 3]] h = .ret (.ref (h.length + (trn re).length)) false (hT re h) := fun h => s_turned 23 false true re 2 h (by decide) rfl (by decide)
  have ln : ∀ n, n ≤ 100 → n ≤ line := fun n hn => Nat.le_trans hn line100
  have f6 : callN G 29 16 [.lst [tellP h1.length (plainF ra), tellP (hP ra h1).length (plainF rb), tellP (hP rb (hP ra h1)).length (plainF rc), tellP (hP rc (hP rb (hP ra h1))).length (plainF rd0), .ref ((hP rd0 (hP rc (hP rb (hP ra h1)))).length + (trn re).length)], .lst [pvO true (plainF ra), pvO true (plainF rb), pvO true (plainF rc), pvO true (plainF rd0), dueP re]] (hT re (hP rd0 (hP rc (hP rb (hP ra h1))))) = .ret (.bl true) false (hT re (hP rd0 (hP rc (hP rb (hP ra h1))))) := by
    obtain ⟨x2, e2⟩ := hP_app rb (hP ra h1)
    obtain ⟨x3, e3⟩ := hP_app rc (hP rb (hP ra h1))
    obtain ⟨x4, e4⟩ := hP_app rd0 (hP rc (hP rb (hP ra h1)))
    obtain ⟨x5, e5⟩ := hT_app re (hP rd0 (hP rc (hP rb (hP ra h1))))
    have a1 := R_toldP ra h1 (hT re (hP rd0 (hP rc (hP rb (hP ra h1))))) 1 ⟨x2 ++ (x3 ++ (x4 ++ x5)), by rw [e5, e4, e3, e2]; simp⟩ (ln _ (by decide))
    have a2 := R_toldP rb (hP ra h1) (hT re (hP rd0 (hP rc (hP rb (hP ra h1))))) 1 ⟨x3 ++ (x4 ++ x5), by rw [e5, e4, e3]; simp⟩ (ln _ (by decide))
    have a3 := R_toldP rc (hP rb (hP ra h1)) (hT re (hP rd0 (hP rc (hP rb (hP ra h1))))) 1 ⟨x4 ++ x5, by rw [e5, e4]; simp⟩ (ln _ (by decide))
    have a4 := R_toldP rd0 (hP rc (hP rb (hP ra h1))) (hT re (hP rd0 (hP rc (hP rb (hP ra h1))))) 1 ⟨x5, by rw [e5]⟩ (ln _ (by decide))
    have a5 := R_toldT re (hP rd0 (hP rc (hP rb (hP ra h1)))) (hT re (hP rd0 (hP rc (hP rb (hP ra h1))))) ⟨[], by simp⟩ (ln _ (by decide))
    refine s_sameR 4 _ _ 24 _ (.lst rfl (by show 5 ≤ line; decide) fun i x y q1 q2 => ?_)
    match i with
    | 0 => simp at q1 q2; subst q1; subst q2; exact a1
    | 1 => simp at q1 q2; subst q1; subst q2; exact a2
    | 2 => simp at q1 q2; subst q1; subst q2; exact a3
    | 3 => simp at q1 q2; subst q1; subst q2; exact a4
    | 4 => simp at q1 q2; subst q1; subst q2; exact a5
    | i + 5 => simp at q1
  rw [pa, pb, pc, pd, pe] at f6
  refine ⟨false, (hT re (hP rd0 (hP rc (hP rb (hP ra h1))))), ?_⟩
  rw [c_law, law_body, seq_next a1, seq_next x8', he]
  unfold wE1 wE2 LE
  simp only [evS, evA, evM, evT, evL, evR, evO, evI, Out.bind, Out.noex, lift, rd, v_non, v_bl, v_int, v_str, v_lst, v_tup, v_dic, esc, finish, mk, pm0, pm2, pm3, i_lst, i_tup, lo_lst, List.append_nil, Option.bind_some, Option.bind_none, Option.map_some, Option.map_none, Option.bind_eq_bind, List.getElem?_cons_zero, List.getElem?_cons_succ, List.getElem?_nil, List.set_cons_zero, List.set_cons_succ, List.length_cons, List.length_nil, List.mapM_cons, List.mapM_nil, Option.pure_def, Option.getD_some, and_self, Bool.not_true, Bool.not_false, if_true, if_false, Bool.false_eq_true, Bool.true_eq_false, reduceIte, Nat.reduceAdd, Nat.reduceLT, Nat.reduceSub, f1, f2, f3, f4, f5, f6]
end K03

namespace K03
open PL PySem PySem.Spec PyProof.Rows L2
def top (i : Nat) : Stmt := PySem.Challenge.pw_pointswhole_k03_whole_rows_turned_and_pl.main.body.getD i (.Pass ⟨0, 0, 0, 0⟩)
abbrev lawAt : Nat := 35
abbrev lawIx : Nat := 28
def zs : List FD := [
  ⟨"is_list", top 1, ["thing"], ["thing"], false⟩,
  ⟨"is_whole", top 2, ["thing"], ["thing"], false⟩,
  ⟨"is_row", top 3, ["thing", "many"], ["thing", "many"], false⟩,
  ⟨"check_many", top 9, ["many"], ["many"], false⟩,
  ⟨"kept_numbers", top 10, ["many", "thing", ".0", "number"], ["many", "thing"], false⟩,
  ⟨"kept_line", top 11, ["many", "thing", "numbers"], ["many", "thing"], false⟩,
  ⟨"told_line", top 12, ["row"], ["row"], true⟩,
  ⟨"need_line", top 13, ["many", "row", "kept"], ["many", "row"], false⟩,
  ⟨"turned_lines", top 14, ["row", "numbers", "word", "bound", "below", ".0", "number"], ["row"], false⟩,
  ⟨"turned", top 15, ["many", "row", ".0", "line"], ["many", "row"], true⟩,
  ⟨"common_divisor", top 16, ["numbers", "found", "number", "one", "other"], ["numbers"], false⟩,
  ⟨"plain_of", top 17, ["row", "numbers", "word", "bound", "divisor", "head", "lead", ".0", "number"], ["row"], false⟩,
  ⟨"plain_row", top 18, ["many", "row", "found"], ["many", "row"], false⟩,
  ⟨"_law_stream", top 20, ["script"], ["script"], true⟩,
  ⟨"_law_draw", top 21, ["stream", "many", "cell", "digit", "mixed"], ["stream", "many"], false⟩,
  ⟨"_law_pick", top 22, ["stream", "things"], ["stream", "things"], false⟩,
  ⟨"_law_same", top 23, ["found", "due", ".0", "mine", "theirs"], ["found", "due"], false⟩,
  ⟨"_law_spoilt", top 24, ["thing", "part"], ["thing"], false⟩,
  ⟨"_law_copied", top 25, ["thing", "some", ".0", "key", "one"], ["thing"], false⟩,
  ⟨"_law_loose", top 26, ["stream", "thing", "some", ".0", "part"], ["stream", "thing"], false⟩,
  ⟨"_law_integer", top 27, ["stream", "most"], ["stream", "most"], false⟩,
  ⟨"_law_value", top 28, ["numbers", "point", ".0", "one", "other"], ["numbers", "point"], false⟩,
  ⟨"_law_row_holds", top 29, ["row", "point", "found"], ["row", "point"], false⟩,
  ⟨"_law_row", top 30, ["stream", "many", "most", "bound", ".0", "place"], ["stream", "many", "most", "bound"], false⟩,
  ⟨"_law_rest", top 31, ["number", "by"], ["number", "by"], false⟩,
  ⟨"_law_divisor", top 32, ["numbers", "found", "number", "one", "other"], ["numbers"], false⟩,
  ⟨"_law_any_row", top 33, ["stream", "many", "numbers", "word", "bound", "scale", ".0", "number"], ["stream", "many"], false⟩,
  ⟨"_law_plain_row", top 34, ["row", "numbers", "word", "bound", "divisor", "holds", "lead", ".0", "number"], ["row"], false⟩,
  ⟨"law", top 35, ["script", "stream", "turn", "many", "row", "numbers", "word", "bound", "less", "due", "handed", "was", "plain", "told", "k", "point", "holds", "found", ".0", "number", "place", "one"], ["script"], false⟩]
def loose : List Str := ["is_list", "is_whole", "is_row", "WholeError", "BadMany", "BadRow", "check_many", "kept_numbers", "kept_line", "told_line", "need_line", "turned_lines", "turned", "common_divisor", "plain_of", "plain_row", "_law_stream", "_law_draw", "_law_pick", "_law_same", "_law_spoilt", "_law_copied", "_law_loose", "_law_integer", "_law_value", "_law_row_holds", "_law_row", "_law_rest", "_law_divisor", "_law_any_row", "_law_plain_row"]
def kws : List (Nat × Nat × List Str × List Nat) := [(9, 0, ["row", "many"], [1, 0]), (12, 0, ["row", "many"], [1, 0])]
def free : List Str := ["len", "all", "any", "sum", "abs", "int", "list", "tuple", "max", "min", "isinstance", "range", "zip", "enumerate", "bool", "str", "dict", "sorted", "reversed"]
theorem bindN : ∀ z ∈ zs, BindN z := by
  unfold zs
  refine List.forall_mem_cons.mpr ⟨(fun _ _ _ _ _ _ us hl => match us, hl with | [_], _ => rfl), ?_⟩
  refine List.forall_mem_cons.mpr ⟨(fun _ _ _ _ _ _ us hl => match us, hl with | [_], _ => rfl), ?_⟩
  refine List.forall_mem_cons.mpr ⟨(fun _ _ _ _ _ _ us hl => match us, hl with | [_, _], _ => rfl), ?_⟩
  refine List.forall_mem_cons.mpr ⟨(fun _ _ _ _ _ _ us hl => match us, hl with | [_], _ => rfl), ?_⟩
  refine List.forall_mem_cons.mpr ⟨(fun _ _ _ _ _ _ us hl => match us, hl with | [_, _], _ => rfl), ?_⟩
  refine List.forall_mem_cons.mpr ⟨(fun _ _ _ _ _ _ us hl => match us, hl with | [_, _], _ => rfl), ?_⟩
  refine List.forall_mem_cons.mpr ⟨(fun _ _ _ _ _ _ us hl => match us, hl with | [_], _ => rfl), ?_⟩
  refine List.forall_mem_cons.mpr ⟨(fun _ _ _ _ _ _ us hl => match us, hl with | [_, _], _ => rfl), ?_⟩
  refine List.forall_mem_cons.mpr ⟨(fun _ _ _ _ _ _ us hl => match us, hl with | [_], _ => rfl), ?_⟩
  refine List.forall_mem_cons.mpr ⟨(fun _ _ _ _ _ _ us hl => match us, hl with | [_, _], _ => rfl), ?_⟩
  refine List.forall_mem_cons.mpr ⟨(fun _ _ _ _ _ _ us hl => match us, hl with | [_], _ => rfl), ?_⟩
  refine List.forall_mem_cons.mpr ⟨(fun _ _ _ _ _ _ us hl => match us, hl with | [_], _ => rfl), ?_⟩
  refine List.forall_mem_cons.mpr ⟨(fun _ _ _ _ _ _ us hl => match us, hl with | [_, _], _ => rfl), ?_⟩
  refine List.forall_mem_cons.mpr ⟨(fun _ _ _ _ _ _ us hl => match us, hl with | [_], _ => rfl), ?_⟩
  refine List.forall_mem_cons.mpr ⟨(fun _ _ _ _ _ _ us hl => match us, hl with | [_, _], _ => rfl), ?_⟩
  refine List.forall_mem_cons.mpr ⟨(fun _ _ _ _ _ _ us hl => match us, hl with | [_, _], _ => rfl), ?_⟩
  refine List.forall_mem_cons.mpr ⟨(fun _ _ _ _ _ _ us hl => match us, hl with | [_, _], _ => rfl), ?_⟩
  refine List.forall_mem_cons.mpr ⟨(fun _ _ _ _ _ _ us hl => match us, hl with | [_], _ => rfl), ?_⟩
  refine List.forall_mem_cons.mpr ⟨(fun _ _ _ _ _ _ us hl => match us, hl with | [_], _ => rfl), ?_⟩
  refine List.forall_mem_cons.mpr ⟨(fun _ _ _ _ _ _ us hl => match us, hl with | [_, _], _ => rfl), ?_⟩
  refine List.forall_mem_cons.mpr ⟨(fun _ _ _ _ _ _ us hl => match us, hl with | [_, _], _ => rfl), ?_⟩
  refine List.forall_mem_cons.mpr ⟨(fun _ _ _ _ _ _ us hl => match us, hl with | [_, _], _ => rfl), ?_⟩
  refine List.forall_mem_cons.mpr ⟨(fun _ _ _ _ _ _ us hl => match us, hl with | [_, _], _ => rfl), ?_⟩
  refine List.forall_mem_cons.mpr ⟨(fun _ _ _ _ _ _ us hl => match us, hl with | [_, _, _, _], _ => rfl), ?_⟩
  refine List.forall_mem_cons.mpr ⟨(fun _ _ _ _ _ _ us hl => match us, hl with | [_, _], _ => rfl), ?_⟩
  refine List.forall_mem_cons.mpr ⟨(fun _ _ _ _ _ _ us hl => match us, hl with | [_], _ => rfl), ?_⟩
  refine List.forall_mem_cons.mpr ⟨(fun _ _ _ _ _ _ us hl => match us, hl with | [_, _], _ => rfl), ?_⟩
  refine List.forall_mem_cons.mpr ⟨(fun _ _ _ _ _ _ us hl => match us, hl with | [_], _ => rfl), ?_⟩
  refine List.forall_mem_cons.mpr ⟨(fun _ _ _ _ _ _ us hl => match us, hl with | [_], _ => rfl), ?_⟩
  exact fun _ h => by simp at h
theorem bindK : ∀ q ∈ kws, BindK zs q := by
  unfold kws
  refine List.forall_mem_cons.mpr ⟨(fun z hz => by cases hz; exact fun _ _ _ _ _ _ us ws h1 h2 => match us, ws, h1, h2 with | [], [_, _], _, _ => rfl), ?_⟩
  refine List.forall_mem_cons.mpr ⟨(fun z hz => by cases hz; exact fun _ _ _ _ _ _ us ws h1 h2 => match us, ws, h1, h2 with | [], [_, _], _, _ => rfl), ?_⟩
  exact fun _ h => by simp at h
theorem scs : zs.all (fun z => C8.scC z.N z.ps (defScope z.st)) = true := by kernel_rfl
def fn : List He.DefD := zs.map FD.d
def fa : List He.Fa := zs.map (fun z => He.Fa.glo z.x) ++ free.map He.Fa.free
abbrev R : PySem.W.OpenRow := PySem.W.OpenLaw.row PySem.Challenge.rw_pointswhole_k03_whole_rows_turned_and_pl
abbrev hk : PySem.W.Hook := He.hookD 4 fa fn
def ob (s : PySem.W.SharedT) : He.AlD := He.obsDG 4 fa fn (HandSHeadRun.getT s)
theorem ob_eq (s : PySem.W.SharedT) : ob s = hk.obs s.abs := He.obsDG_eq (HandSHeadRun.getT_eq s)
theorem run (w : World) : HandSHeadRun.RunEq R (PySem.W.view R.prog [lawAt]) hk ob 2000 loose w := by
  intro os
  kernel_rfl
theorem G_eq : progOf zs free kws = G := by kernel_rfl
theorem law_ok : ∀ ns : List Int, ns.length ≤ 63 → ∃ fr h1, callN (progOf zs free kws) 30 lawIx [.scr (ns.map .int)] [] = .ret (.bl true) fr h1 := by
  rw [G_eq]; exact law_run
end K03
open PySem PySem.W PySem.Calls PyProof.Rows
theorem PySem.Challenge.cw_pointswhole_k03_whole_rows_turned_and_pl_holds : PySem.Challenge.rw_pointswhole_k03_whole_rows_turned_and_pl.Holds := by
  w_on; o_law
  refine HandSHeadRun.head_any (r := OpenLaw.row PySem.Challenge.rw_pointswhole_k03_whole_rows_turned_and_pl) (q := view (OpenLaw.row PySem.Challenge.rw_pointswhole_k03_whole_rows_turned_and_pl).prog [K03.lawAt]) (H := K03.hk) (ob := K03.ob) (M := 2000) (loose := K03.loose) (d := HandSHeadRun.topDef (OpenLaw.row PySem.Challenge.rw_pointswhole_k03_whole_rows_turned_and_pl).prog K03.lawAt) (kwd := []) K03.ob_eq
    (by kernel_rfl) (fun s => by kernel_rfl) K03.run (by kernel_rfl) (by kernel_rfl) (by kernel_rfl) (by rfl) (by first | assumption | decide +kernel) (by decide +kernel) ⟨rfl, rfl, rfl, rfl, rfl, by decide +kernel⟩ ?hw ?hc
  case hw => w_witness2
  case hc =>
    refine L2.walk_ofE (l := PySem.Challenge.rw_pointswhole_k03_whole_rows_turned_and_pl) (n := 63) (k := 32) (x := "script") (CX := L2.CX0) rfl (by decide) (by kernel_rfl) ⟨rfl, by decide, by decide⟩ ?F (fun _ _ _ _ z => z)
    intro w mg fa h Y G hmg0
    obtain ⟨K, KX, c⟩ := Y
    have hmg : mg ("law" : PySem.Str) = some (.ref fa) := by
      have e : (HandSHeadRun.topDef (OpenLaw.row PySem.Challenge.rw_pointswhole_k03_whole_rows_turned_and_pl).prog K03.lawAt).name = ("law" : PySem.Str) := by kernel_rfl
      rw [← e]
      exact hmg0
    obtain ⟨fd, hb, hF⟩ := PL.top_gen (P := (PySem.Challenge.rw_pointswhole_k03_whole_rows_turned_and_pl).prog) (w := w) (zs := K03.zs) (free := K03.free) (kws := K03.kws) (j := K03.lawIx) (n := 63) (k := 30) (zl := (K03.zs.getD K03.lawIx default)) KX G c rfl rfl hmg (by decide) K03.scs K03.bindN K03.bindK K03.law_ok
    exact ⟨K, fd, PL.spLaw 63 K, KX, hb, fun H a ns hl hO hS => ⟨a, ns, rfl, hl, hO, hS, fun _ => rfl⟩, hF⟩
