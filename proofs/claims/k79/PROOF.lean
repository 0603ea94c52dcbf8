import PyProof.Rows.All
import Wide.All
import OpenK.AllK
import Wide.FinOn
import KE.KStateDown
import HandS.ForMost
import HandS.ForExc
import HandS.Walk
import HandS.Deep
import HandS.Wide
import KE.SortData
import HandS.HeadHook1
import HandS.HeadHook2
import HandS.ExcInit
import HandS.ExcSuper
import HandS.FStr
import HandS.Nested
import KE.KExcSuper
import KE.KSuperObj
import PyProof.FString2
import PyProof.FitsInt
import HandS.Sort
import HandS.CallSlots
import HandS.WideBits
import HandS.IsInst
import HandS.Property
import HandS.ClsMeth
import HandS.Star
import HandS.Defaults
import HandS.ExcField
import HandS.More
import KE.GoesEnum
import HandS.Iter
import PyProof.Rows.ChunkLeaf
import HandS.TryMany
import HandS.Head0
import HandS.Head1
import HandS.Head2
import HandS.HeadEnd
import PySem.Challenge.RW_perfectorders_k79_one_core_however_taken
set_option Elab.async false
set_option linter.all false
set_option maxRecDepth 100000
set_option maxHeartbeats 0
/-! DI.A: deep data, the small language, its evaluator -/
namespace DI
open PySem

/-- deep data -/
inductive D where
  | non | bl (b : Bool) | int (i : Int) | str (x : Str)
  | tup (xs : List D) | lst (xs : List D)
  | ins (c : Nat) (fs : List (Str × D))
  | scr (ns : List Int)
  | cls (c : Nat)

structure Ex where
  c : Nat
  fs : List (Str × D)
/-- what a name holds: data, or a thing of the store, or a caught exception -/
inductive DV where
  | p (d : D) | own (k : Nat) | exc (x : Ex)
/-- an expression's result: data (new: no other name knows its object), or a thing of the store -/
inductive RV where
  | p (fr : Bool) (d : D) | own (k : Nat)
inductive Cell where
  | live (d : D) | dead (d : D)
def Cell.d : Cell → D
  | .live d => d
  | .dead d => d
abbrev Sto := List Cell
abbrev Slots := List (Option DV)
inductive Res (α : Type) where
  | ok (a : α) (M : Sto)
  | exc (x : Ex) (M : Sto)
  | bad
def Res.bind {α β : Type} (r : Res α) (f : α → Sto → Res β) : Res β := match r with
  | .ok a M => f a M
  | .exc x M => .exc x M
  | .bad => .bad

/-- the largest size of lists -/
def SZ : Nat := 16777216

mutual
inductive E where
  | nev
  | var (i : Nat)
  | lit (d : D)
  | bin (op : Operator) (a b : E)
  | un (op : UnaryOp) (a : E)
  | notv (a : E)
  | andv (a b : E)
  | orv (a b : E)
  | cmp (op : CmpOp) (a b : E)
  | chn (op op' : CmpOp) (a b c : E)
  | ife (t : T) (a b : E)
  | tup (es : Es)
  | lst (es : Es)
  | bi (f : Str) (es : Es)
  | isi (e : E) (ts : List Str) (many : Bool)
  | call (f : Nat) (es : Es)
  | make (c : Nat) (es : Es)
  | makev (c j : Nat) (es : Es)
  | meth (m : Str) (o : E) (es : Es)
  | cmeth (c : Nat) (m : Str) (es : Es)
  | mt (m : Str) (o : E) (es : Es)
  | fld (o : E) (f : Str)
  | efld (i : Nat) (f : Str)
  | prop (o : E) (f : Str)
  | eqo (a b : E)
  | methn (m : Str) (o : E)
  | isc (e : E) (c : Nat)
  | idx (a b : E)
  | slc (a : E) (lo hi : O)
  | lc (own : List (Str × Nat)) (g : G) (it : I) (t : T) (e : E)
  | lc2 (own : List (Str × Nat)) (g : G) (it : I) (t : T) (g1 : G) (it1 : I) (t1 : T) (e : E)
inductive O where
  | no | some (e : E)
inductive Es where
  | nil | cons (e : E) (es : Es) | star (e : E) (es : Es)
inductive T where
  | yes | val (e : E) | tru (e : E) | nott (t : T) | and (a b : T) | or (a b : T)
inductive I where
  | seq (e : E) | rng1 (a : E) | rng2 (a b : E) | rng3 (a b c : E) | enum (e : E)
inductive G where
  | name (i : Nat) | tup (is : List Nat)
end
mutual
inductive S where
  | nev
  | expr (e : E)
  | set (i : Nat) (al : Bool) (e : E)
  | unp (is : List Nat) (e : E)
  | par (i j : Nat) (a b : E)
  | setIdx (k : Nat) (i e : E)
  | setFld (k : Nat) (f : Str) (e : E)
  | aug (i : Nat) (op : Operator) (e : E)
  | ife (t : T) (a b : Ss)
  | for_ (g : G) (it : I) (body : Ss)
  | ret (e : E)
  | retN
  | pass | brk | cont
  | raise (c : Nat) (es : Es)
  | try_ (body : Ss) (hs : Hs)
  | clr (is : List Nat)
inductive Ss where
  | nev | nil | cons (s : S) (ss : Ss)
/-- except clauses: class, slot of the name -/
inductive Hs where
  | nil | cons (c : Nat) (i : Option Nat) (body : Ss) (r : Hs)
end

/-! ### operations by values -/
mutual
def D.py : D → Option PyData
  | .non => some .none
  | .bl b => some (.bool b)
  | .int i => some (.int i)
  | .str x => some (.str x)
  | .tup xs => (D.pys xs).map .tuple
  | .lst xs => (D.pys xs).map .list
  | _ => none
def D.pys : List D → Option (List PyData)
  | [] => some []
  | x :: xs => match D.py x, D.pys xs with
    | some y, some ys => some (y :: ys)
    | _, _ => none
end
/-- x == y of data -/
def deq (x y : D) : Option Bool := match x.py, y.py with
  | some a, some b => if SeqAt.shaped a && SeqAt.shaped b then some (PyData.eqv a b) else none
  | _, _ => none
def din (x : D) (ys : List D) : Option Bool := match x.py, D.pys ys with
  | some a, some bs => if SeqAt.shaped a && SeqAt.shaped (.list bs) then some (bs.any fun z => PyData.eqv z a) else none
  | _, _ => none
def CMulB (i j : Int) : Bool := (decide (-(2 ^ 64) < i) && decide (i < 2 ^ 64)) || (decide (-(2 ^ 64) < j) && decide (j < 2 ^ 64))
def CPowB (i j : Int) : Bool := decide (0 ≤ j) && decide (j ≤ 1000000) && decide (i.natAbs < 2 ^ 64)
def opD (op : Operator) (x y : D) : Option D := match op, x, y with
  | .Add, .int i, .int j => some (.int (i + j))
  | .Add, .lst xs, .lst ys => if xs.length + ys.length ≤ SZ then some (.lst (xs ++ ys)) else none
  | .Sub, .int i, .int j => some (.int (i - j))
  | .Mult, .int i, .int j => if CMulB i j then some (.int (i * j)) else none
  | .Mult, .lst xs, .int k => if decide (-(2 ^ 63) ≤ k) && decide (k < 2 ^ 63) && decide (xs.length * k.toNat ≤ SZ) then some (.lst (List.replicate k.toNat xs).flatten) else none
  | .FloorDiv, .int i, .int j => if decide (0 < j) && decide (j < 1073741824) then some (.int (i / j)) else none
  | .Mod, .int i, .int j => if decide (0 < j) then some (.int (i % j)) else none
  | .Pow, .int i, .int j => if CPowB i j then some (.int (i ^ j.toNat)) else none
  | .LShift, .int i, .int j => if CPowB i j then some (.int (i * 2 ^ j.toNat)) else none
  | .RShift, .int i, .int j => if decide (0 ≤ j) then some (.int (i / 2 ^ j.toNat)) else none
  | .BitAnd, .int i, .int j => some (.int (Builtin.bitAnd i j))
  | .BitOr, .int i, .int j => some (.int (Builtin.bitOr i j))
  | .BitXor, .int i, .int j => some (.int (Builtin.bitXor i j))
  | _, _, _ => none
def unD (op : UnaryOp) (x : D) : Option D := match op, x with
  | .USub, .int i => some (.int (-i))
  | .Invert, .int i => some (.int (Builtin.bitNot i))
  | _, _ => none
def isNon : D → Bool
  | .non => true
  | _ => false
def cmpD (op : CmpOp) (x y : D) : Option Bool := match op, x, y with
  | .Lt, .int i, .int j => some (decide (i < j))
  | .LtE, .int i, .int j => some (decide (i ≤ j))
  | .Gt, .int i, .int j => some (decide (j < i))
  | .GtE, .int i, .int j => some (decide (j ≤ i))
  | .Is, x, .non => some (isNon x)
  | .IsNot, x, .non => some (!isNon x)
  | .Eq, x, y => deq x y
  | .NotEq, x, y => (deq x y).map (!·)
  | .In, x, .lst ys => din x ys
  | .NotIn, x, .lst ys => (din x ys).map (!·)
  | .In, x, .tup ys => din x ys
  | .NotIn, x, .tup ys => (din x ys).map (!·)
  | _, _, _ => none
def truD : D → Option Bool
  | .non => some false
  | .bl b => some b
  | .int i => some (i != 0)
  | .lst xs => some !xs.isEmpty
  | .tup xs => some !xs.isEmpty
  | _ => none
/-- the place that an index of any sign means -/
def idxD (x y : D) : Option D := match x, y with
  | .lst xs, .int i => L2.atI xs i
  | .tup xs, .int i => L2.atI xs i
  | .scr ns, .int i => (L2.atI ns i).map .int
  | _, _ => none
def cutD {α : Type} (xs : List α) (lo hi : Option Int) : List α := (xs.drop (HT.sIx xs.length 0 lo)).take (HT.sIx xs.length xs.length hi - HT.sIx xs.length 0 lo)
def slcD (x : D) (lo hi : Option Int) : Option D := match x with
  | .lst xs => some (.lst (cutD xs lo hi))
  | .tup xs => if HT.sIx xs.length 0 lo = 0 ∧ HT.sIx xs.length xs.length hi = xs.length then none else some (.tup (cutD xs lo hi))
  | _ => none
def typeOf : D → String
  | .non => "NoneType"
  | .bl _ => "bool"
  | .int _ => "int"
  | .str _ => "str"
  | .tup _ => "tuple"
  | .lst _ => "list"
  | .scr _ => "list"
  | _ => "?"
def intsOf : List D → Option (List Int)
  | [] => some []
  | .int i :: r => (intsOf r).map (i :: ·)
  | _ => none
def boundI (i : Int) : Bool := decide (-(2 ^ 62) ≤ i) && decide (i < 2 ^ 62)
def rngD (lo : Int) (n : Nat) : List D := (List.range n).map fun k => .int (lo + (k : Nat))

/-! ### the program's classes -/
structure Cl where
  name : Str
  init : Nat
  meths : List (Str × Nat)
  props : List (Str × Nat)
  flds : List Str
  /-- classmethods -/
  cms : List (Str × Nat) := []
  /-- isinstance asks of it -/
  isk : Bool := false
/-- exception classes: name, fields (the parameters of __init__) -/
structure Xc where
  name : Str
  fs : List Str
structure Prg where
  cls : List Cl
  xcs : List Xc
  /-- defs: number of parameters, defaults -/
  fns : List (Nat × List D)
  /-- exm i j: class i of exceptions is caught by a clause for class j -/
  exm : List (Nat × Nat × Bool)
def Prg.cl (P : Prg) (c : Nat) : Option Cl := P.cls[c]?
abbrev Orc := Nat → List DV → Sto → Res RV

def RV.dv : RV → DV
  | .p _ d => .p d
  | .own k => .own k
/-- the data of a result -/
def RV.get (M : Sto) : RV → Option D
  | .p _ d => some d
  | .own k => (M[k]?).map Cell.d
/-- a result put into another thing: a thing of the store is changed no more -/
def RV.frz (M : Sto) : RV → Option (D × Sto)
  | .p _ d => some (d, M)
  | .own k => match M[k]? with
    | some x => some (x.d, M.set k (.dead x.d))
    | none => none
def frzs : List RV → Sto → Option (List D × Sto)
  | [], M => some ([], M)
  | a :: r, M => match a.frz M with
    | some (d, M1) => match frzs r M1 with
      | some (ds, M2) => some (d :: ds, M2)
      | none => none
    | none => none
def gets (M : Sto) : List RV → Option (List D)
  | [] => some []
  | a :: r => match a.get M, gets M r with
    | some d, some ds => some (d :: ds)
    | _, _ => none
def ofO {α : Type} (o : Option α) (M : Sto) : Res α := match o with
  | some a => .ok a M
  | none => .bad
def DV.rv : DV → Option RV
  | .p d => some (.p false d)
  | .own k => some (.own k)
  | .exc _ => none
def wipe (sl : Slots) : List Nat → Slots
  | [] => sl
  | v :: vs => (wipe sl vs).set v none
def G.slots : G → List Nat
  | .name i => [i]
  | .tup is => is
def bindG (g : G) (x : D) (sl : Slots) : Option Slots := match g with
  | .name i => some (sl.set i (some (.p x)))
  | .tup is => match x with
    | .tup xs => if xs.length = is.length then some ((is.zip xs).foldl (fun s q => s.set q.1 (some (.p q.2))) sl) else none
    | _ => none
/-- a comprehension's loop: f gives the new item, if any -/
def compGo (f : D → Sto → Res (Option D)) : List D → Sto → Res (List D)
  | [], M => .ok [] M
  | x :: xs, M => (f x M).bind fun o M1 => (compGo f xs M1).bind fun r M2 => .ok (match o with | some d => d :: r | none => r) M2
def compGo2 (f : D → Sto → Res (List D)) : List D → Sto → Res (List D)
  | [], M => .ok [] M
  | x :: xs, M => (f x M).bind fun l M1 => (compGo2 f xs M1).bind fun r M2 => .ok (l ++ r) M2
def noexc {α : Type} (r : Res α) : Res α := match r with
  | .exc _ _ => .bad
  | r => r
def lstOf (ds : List D) : Option RV := if ds.length ≤ SZ then some (.p true (.lst ds)) else none
/-- built-ins of data alone -/
def intsO : List D → Option (List Int)
  | [] => some []
  | .int i :: xs => (intsO xs).map (i :: ·)
  | _ => none
/-- a key for sorting -/
def encD : D → PyData
  | .int i => .int i
  | .tup xs => (match intsO xs with
    | some is => .tuple (is.map .int)
    | none => .none)
  | .lst xs => (match intsO xs with
    | some is => .list (is.map .int)
    | none => .none)
  | _ => .none
def isIntD : D → Bool
  | .int _ => true
  | _ => false
def isTupD : D → Bool
  | .tup (x :: xs) => (intsO (x :: xs)).isSome
  | _ => false
def isLstD : D → Bool
  | .lst xs => (intsO xs).isSome
  | _ => false
def sortB (xs : List D) : Bool := xs.all isIntD || xs.all isTupD || xs.all isLstD
def blsO : List D → Option (List Bool)
  | [] => some []
  | .bl b :: xs => (blsO xs).map (b :: ·)
  | _ => none
def sortD (xs : List D) : List D := xs.mergeSort (PySem.W.dataLe false encD)
def biD (f : Str) (xs : List D) : Option RV :=
  if f = "len" then (match xs with
    | [.lst ys] => some (.p false (.int ys.length))
    | [.tup ys] => some (.p false (.int ys.length))
    | [.scr ys] => some (.p false (.int ys.length))
    | _ => none)
  else if f = "int" then (match xs with
    | [.int i] => some (.p false (.int i))
    | _ => none)
  else if f = "min" then (match xs with
    | [.int i, .int j] => some (.p false (.int (if j < i then j else i)))
    | _ => none)
  else if f = "max" then (match xs with
    | [.int i, .int j] => some (.p false (.int (if j > i then j else i)))
    | _ => none)
  else if f = "list" then (match xs with
    | [.lst ys] => some (.p true (.lst ys))
    | [.tup ys] => some (.p true (.lst ys))
    | _ => none)
  else if f = "tuple" then (match xs with
    | [.lst ys] => some (.p false (.tup ys))
    | [.tup ys] => some (.p false (.tup ys))
    | _ => none)
  else if f = "sorted" then (match xs with
    | [.lst ys] => if sortB ys then some (.p true (.lst (sortD ys))) else none
    | _ => none)
  else if f = "any" then (match xs with
    | [.lst ys] => (blsO ys).map fun bs => .p false (.bl (bs.any id))
    | _ => none)
  else if f = "all" then (match xs with
    | [.lst ys] => (blsO ys).map fun bs => .p false (.bl (bs.all id))
    | _ => none)
  else if f = "sum" then (match xs with
    | [.lst ys] => (intsO ys).map fun is => .p false (.int is.sum)
    | _ => none)
  else none
def boolV (b : Bool) : RV := .p false (.bl b)
def isB : RV → Option Bool
  | .p _ (.bl b) => some b
  | _ => none
/-- isinstance of a thing of type a against a built-in type -/
def isiS (a : String) (t : Str) : Option Bool :=
  if t = "bool" then some (a == "bool") else if t = "int" then some (a == "int" || a == "bool") else if t = "list" then some (a == "list") else if t = "tuple" then some (a == "tuple") else if t = "str" then some (a == "str") else none
def isiD (d : D) (t : Str) : Option Bool := match d with
  | .non => isiS "NoneType" t
  | .bl _ => isiS "bool" t
  | .int _ => isiS "int" t
  | .str _ => isiS "str" t
  | .tup _ => isiS "tuple" t
  | .lst _ => isiS "list" t
  | _ => none
def isiAny (d : D) : List Str → Option Bool
  | [] => some false
  | t :: ts => match isiD d t with
    | some true => some true
    | some false => isiAny d ts
    | none => none
/-- the receiver is of the method's type -/
def mtOk (m : Str) (o : RV) (M : Sto) : Bool := if m = "bit_length" then true else match o.get M with
  | some (.lst _) => true
  | _ => false
/-- methods of built-in things -/
def mtD (m : Str) (o : RV) (as : List RV) (M : Sto) : Res RV :=
  if m = "append" then (match o, as with
    | .own k, [a] => (match a.frz M with
      | some (d, M1) => (match M1[k]? with
        | some (.live (.lst xs)) => if xs.length < SZ then .ok (.p false .non) (M1.set k (.live (.lst (xs ++ [d])))) else .bad
        | _ => .bad)
      | none => .bad)
    | _, _ => .bad)
  else if m = "pop" then (match o, as with
    | .own k, [] => (match M[k]? with
      | some (.live (.lst xs)) => (match xs[xs.length - 1]? with
        | some d => .ok (.p false d) (M.set k (.live (.lst xs.dropLast)))
        | none => .bad)
      | _ => .bad)
    | _, _ => .bad)
  else if m = "reverse" then (match o, as with
    | .own k, [] => (match M[k]? with
      | some (.live (.lst xs)) => .ok (.p false .non) (M.set k (.live (.lst xs.reverse)))
      | _ => .bad)
    | _, _ => .bad)
  else if m = "bit_length" then (match o.get M, as with
    | some (.int i), [] => .ok (.p false (.int (Builtin.Int.intBits i : Nat))) M
    | _, _ => .bad)
  else if m = "index" then (match o.get M, gets M as with
    | some (.lst xs), some [d] => (match d.py, D.pys xs with
      | some a, some bs => if SeqAt.shaped a && SeqAt.shaped (.list bs) then (match bs.findIdx? fun z => PyData.eqv z a with
        | some j => .ok (.p false (.int (j : Nat))) M
        | none => .bad) else .bad
      | _, _ => .bad)
    | _, _ => .bad)
  else .bad
def putD (f : Str) (v : D) : List (Str × D) → List (Str × D)
  | [] => [(f, v)]
  | (g, x) :: r => if g = f then (g, v) :: r else (g, x) :: putD f v r
/-- a field of an instance -/
def fldD (P : Prg) (f : Str) : D → Option D
  | .ins c fs => match P.cl c with
    | some i => if i.flds.contains f then fs.lookup f else none
    | none => none
  | _ => none
/-- the function that a method's (or a property's) name means -/
def methD (P : Prg) (m : Str) : D → Option Nat
  | .ins c fs => match P.cl c with
    | some i => (match fs.lookup m with
      | none => i.meths.lookup m
      | some _ => none)
    | none => none
  | _ => none
def propD (P : Prg) (m : Str) : D → Option Nat
  | .ins c _ => match P.cl c with
    | some i => i.props.lookup m
    | none => none
  | _ => none
def idxR (a b : RV) (M : Sto) : Option RV := match a.get M, b.get M with
  | some x, some y => (idxD x y).map (.p false)
  | _, _ => none
def bin1 (f : D → D → Option D) (a b : RV) (M : Sto) : Option RV := match a.get M, b.get M with
  | some x, some y => (f x y).map (.p true)
  | _, _ => none
def cmp1 (op : CmpOp) (a b : RV) (M : Sto) : Option Bool := match a.get M, b.get M with
  | some x, some y => cmpD op x y
  | _, _ => none

/-- a def called: defaults fill up -/
def callR (P : Prg) (c : Orc) (f : Nat) (as : List DV) (M : Sto) : Res RV := match P.fns[f]? with
  | some (np, dfl) => if as.length ≤ np ∧ np ≤ as.length + dfl.length then c f (as ++ (dfl.drop (as.length + dfl.length - np)).map DV.p) M else .bad
  | none => .bad
/-- C(..): a new thing, its __init__, the thing as data -/
def makeR (P : Prg) (c : Orc) (cl : Nat) (as : List RV) (M : Sto) : Res RV := match P.cl cl with
  | some i => (match callR P c i.init (.own M.length :: as.map RV.dv) (M ++ [.live (.ins cl [])]) with
    | .ok (.p _ .non) M1 => (match M1[M.length]? with
      | some x => .ok (.p (match x with | .live _ => true | .dead _ => false) x.d) (M1.take M.length)
      | none => .bad)
    | .exc x M1 => .exc x (M1.take M.length)
    | _ => .bad)
  | none => .bad
/-- isinstance of a thing of the class itself -/
def iscD (P : Prg) (c : Nat) : Option D → Option Bool
  | some (.ins c' _) => if c' = c then (match P.cl c with
    | some i => if i.isk = true then some true else none
    | none => none) else none
  | _ => none
/-- the own == of two things of one class -/
def eqoD (P : Prg) : D → D → Option Nat
  | .ins c _, .ins c' _ => if c = c' then (match P.cl c with
    | some i => i.meths.lookup ("__eq__" : Str)
    | none => none) else none
  | _, _ => none
def eqoR (P : Prg) (c : Orc) (x y : RV) (M : Sto) : Res RV := match x.get M, y.get M with
  | some d, some e => (match eqoD P d e with
    | some f => (match callR P c f [x.dv, y.dv] M with
      | .ok (.p _ (.bl t)) M1 => .ok (.p false (.bl t)) M1
      | _ => .bad)
    | none => .bad)
  | _, _ => .bad
/-- a method of a new thing, which no one else will know -/
def methnR (P : Prg) (c : Orc) (m : Str) (x : RV) (M : Sto) : Res RV := match x with
  | .p true (.ins cl fs) => (match methD P m (.ins cl fs) with
    | some f => (match callR P c f [.own M.length] (M ++ [.live (.ins cl fs)]) with
      | .ok (.p _ d) M1 => .ok (.p false d) (M1.take M.length)
      | .exc x M1 => .exc x (M1.take M.length)
      | _ => .bad)
    | none => .bad)
  | _ => .bad
section
variable (P : Prg) (c : Orc)
mutual
def evalE : E → Slots → Sto → Res RV
  | .nev, _, _ => .bad
  | .var i, sl, M => match sl[i]? with
    | some (some v) => ofO v.rv M
    | _ => .bad
  | .lit d, _, M => .ok (.p false d) M
  | .bin op a b, sl, M => (evalE a sl M).bind fun x M1 => (evalE b sl M1).bind fun y M2 => ofO (bin1 (opD op) x y M2) M2
  | .un op a, sl, M => (evalE a sl M).bind fun x M1 => match x.get M1 with
    | some d => ofO ((unD op d).map (.p false)) M1
    | none => .bad
  | .notv a, sl, M => (evalE a sl M).bind fun x M1 => match isB x with
    | some b => .ok (boolV !b) M1
    | none => .bad
  | .andv a b, sl, M => (evalE a sl M).bind fun x M1 => match isB x with
    | some true => evalE b sl M1
    | some false => .ok (boolV false) M1
    | none => .bad
  | .orv a b, sl, M => (evalE a sl M).bind fun x M1 => match isB x with
    | some false => evalE b sl M1
    | some true => .ok (boolV true) M1
    | none => .bad
  | .cmp op a b, sl, M => (evalE a sl M).bind fun x M1 => (evalE b sl M1).bind fun y M2 => ofO ((cmp1 op x y M2).map boolV) M2
  | .chn op op' a b e, sl, M => (evalE a sl M).bind fun x M1 => (evalE b sl M1).bind fun y M2 => match cmp1 op x y M2 with
    | some true => (evalE e sl M2).bind fun z M3 => ofO ((cmp1 op' y z M3).map boolV) M3
    | some false => .ok (boolV false) M2
    | none => .bad
  | .ife t a b, sl, M => (evalT t sl M).bind fun k M1 => if k = true then evalE a sl M1 else evalE b sl M1
  | .tup es, sl, M => (evalEs es sl M).bind fun as M1 => match frzs as M1 with
    | some (ds, M2) => if ds.length ≤ SZ then .ok (.p false (.tup ds)) M2 else .bad
    | none => .bad
  | .lst es, sl, M => (evalEs es sl M).bind fun as M1 => match frzs as M1 with
    | some (ds, M2) => ofO (lstOf ds) M2
    | none => .bad
  | .bi f es, sl, M => (evalEs es sl M).bind fun as M1 => match gets M1 as with
    | some ds => ofO (biD f ds) M1
    | none => .bad
  | .isi e ts _, sl, M => (evalE e sl M).bind fun x M1 => match x.get M1 with
    | some d => ofO ((isiAny d ts).map boolV) M1
    | none => .bad
  | .call f es, sl, M => (evalEs es sl M).bind fun as M1 => callR P c f (as.map RV.dv) M1
  | .make cl es, sl, M => (evalEs es sl M).bind fun as M1 => makeR P c cl as M1
  | .meth m o es, sl, M => (evalE o sl M).bind fun x M1 => match x.get M1 with
    | some d => (match methD P m d with
      | some f => (evalEs es sl M1).bind fun as M2 => callR P c f (x.dv :: as.map RV.dv) M2
      | none => .bad)
    | none => .bad
  | .cmeth cl m es, sl, M => match P.cl cl with
    | some i => (match i.cms.lookup m with
      | some f => (evalEs es sl M).bind fun as M1 => callR P c f (.p (.cls cl) :: as.map RV.dv) M1
      | none => .bad)
    | none => .bad
  | .mt m o es, sl, M => (evalE o sl M).bind fun x M1 => if mtOk m x M1 = true then (evalEs es sl M1).bind fun as M2 => mtD m x as M2 else .bad
  | .makev cl j es, sl, M => match sl[j]? with
    | some (some (.p (.cls n))) => if n = cl then (evalEs es sl M).bind fun as M1 => makeR P c cl as M1 else .bad
    | _ => .bad
  | .fld o f, sl, M => (evalE o sl M).bind fun x M1 => match x.get M1 with
    | some d => ofO ((fldD P f d).map (.p false)) M1
    | none => .bad
  | .efld i f, sl, M => match sl[i]? with
    | some (some (.exc x)) => (match P.xcs[x.c]? with
      | some i => if i.fs.contains f then ofO ((x.fs.lookup f).map (.p false)) M else .bad
      | none => .bad)
    | _ => .bad
  | .prop o f, sl, M => (evalE o sl M).bind fun x M1 => match x.get M1 with
    | some d => (match propD P f d with
      | some g => noexc (callR P c g [x.dv] M1)
      | none => .bad)
    | none => .bad
  | .eqo a b, sl, M => (evalE a sl M).bind fun x M1 => (evalE b sl M1).bind fun y M2 => eqoR P c x y M2
  | .methn m o, sl, M => (evalE o sl M).bind fun x M1 => methnR P c m x M1
  | .isc e cl, sl, M => (evalE e sl M).bind fun x M1 => ofO ((iscD P cl (x.get M1)).map boolV) M1
  | .idx a b, sl, M => (evalE a sl M).bind fun x M1 => (evalE b sl M1).bind fun y M2 => ofO (idxR x y M2) M2
  | .slc a lo hi, sl, M => (evalE a sl M).bind fun x M1 => (evalO lo sl M1).bind fun l M2 => (evalO hi sl M2).bind fun h M3 => match x.get M3 with
    | some d => ofO ((slcD d l h).map (.p true)) M3
    | none => .bad
  | .lc own g it t e, sl, M => (evalI it sl M).bind fun xs M1 => (noexc (compGo (fun x M => match bindG g x (wipe sl (own.map (·.2))) with
      | some sl1 => (evalT t sl1 M).bind fun k M => if k = true then (evalE e sl1 M).bind fun a M => match a.frz M with
          | some (d, M) => .ok (some d) M
          | none => .bad
        else .ok none M
      | none => .bad) xs M1)).bind fun ds M2 => ofO (lstOf ds) M2
  | .lc2 own g it t g1 it1 t1 e, sl, M => (evalI it sl M).bind fun xs M1 => (noexc (compGo2 (fun x M => match bindG g x (wipe sl (own.map (·.2))) with
      | some sl1 => (evalT t sl1 M).bind fun k M => if k = true then (evalI it1 sl1 M).bind fun ys M => compGo (fun y M => match bindG g1 y (wipe sl1 g1.slots) with
          | some sl2 => (evalT t1 sl2 M).bind fun k M => if k = true then (evalE e sl2 M).bind fun a M => match a.frz M with
              | some (d, M) => .ok (some d) M
              | none => .bad
            else .ok none M
          | none => .bad) ys M
        else .ok [] M
      | none => .bad) xs M1)).bind fun ds M2 => ofO (lstOf ds) M2
def evalO : O → Slots → Sto → Res (Option Int)
  | .no, _, M => .ok none M
  | .some e, sl, M => (evalE e sl M).bind fun x M1 => match x with
    | .p _ (.int i) => .ok (some i) M1
    | _ => .bad
def evalEs : Es → Slots → Sto → Res (List RV)
  | .nil, _, M => .ok [] M
  | .cons e es, sl, M => (evalE e sl M).bind fun a M1 => (evalEs es sl M1).bind fun as M2 => .ok (a :: as) M2
  | .star e es, sl, M => (evalE e sl M).bind fun a M1 => match a.get M1 with
    | some (.lst xs) => (evalEs es sl M1).bind fun as M2 => .ok (xs.map (.p false) ++ as) M2
    | some (.tup xs) => (evalEs es sl M1).bind fun as M2 => .ok (xs.map (.p false) ++ as) M2
    | _ => .bad
def evalT : T → Slots → Sto → Res Bool
  | .yes, _, M => .ok true M
  | .val e, sl, M => (evalE e sl M).bind fun x M1 => ofO (isB x) M1
  | .tru e, sl, M => (evalE e sl M).bind fun x M1 => match x.get M1 with
    | some d => ofO (truD d) M1
    | none => .bad
  | .nott t, sl, M => (evalT t sl M).bind fun k M1 => .ok (!k) M1
  | .and a b, sl, M => (evalT a sl M).bind fun k M1 => if k = true then evalT b sl M1 else .ok false M1
  | .or a b, sl, M => (evalT a sl M).bind fun k M1 => if k = true then .ok true M1 else evalT b sl M1
def evalI : I → Slots → Sto → Res (List D)
  | .seq e, sl, M => (evalE e sl M).bind fun x M1 => match x.frz M1 with
    | some (.lst xs, M2) => .ok xs M2
    | some (.tup xs, M2) => .ok xs M2
    | _ => .bad
  | .rng1 a, sl, M => (evalE a sl M).bind fun x M1 => match x with
    | .p _ (.int i) => if boundI i then .ok (rngD 0 i.toNat) M1 else .bad
    | _ => .bad
  | .rng2 a b, sl, M => (evalE a sl M).bind fun x M1 => (evalE b sl M1).bind fun y M2 => match x, y with
    | .p _ (.int i), .p _ (.int j) => if boundI i && boundI j then .ok (rngD i (j - i).toNat) M2 else .bad
    | _, _ => .bad
  | .rng3 a b c', sl, M => (evalE a sl M).bind fun x M1 => (evalE b sl M1).bind fun y M2 => (evalE c' sl M2).bind fun z M3 => match x, y, z with
    | .p _ (.int i), .p _ (.int j), .p _ (.int s) => if decide (s ≠ 0) && decide (s.natAbs < 1073741824) && Builtin.Range.small i j s then .ok ((List.range (Builtin.Range.rangeSize i j s).toNat).map fun k => .int (i + (k : Nat) * s)) M3 else .bad
    | _, _, _ => .bad
  | .enum e, sl, M => (evalE e sl M).bind fun x M1 => match x.frz M1 with
    | some (.lst xs, M2) => .ok (xs.zipIdx.map fun q => .tup [.int (q.2 : Nat), q.1]) M2
    | some (.tup xs, M2) => .ok (xs.zipIdx.map fun q => .tup [.int (q.2 : Nat), q.1]) M2
    | _ => .bad
end
end

/-! ### statements -/
/-- data that a message may hold -/
def fmtD : D → Bool
  | .int i => decide (-(2 ^ 64) < i) && decide (i < 2 ^ 64)
  | .str x => decide (x.length ≤ 1000)
  | .bl _ => true
  | .non => true
  | _ => false
inductive SRes where
  | nx (sl : Slots) (M : Sto)
  | rt (a : RV) (M : Sto)
  | bk (sl : Slots) (M : Sto)
  | ct (sl : Slots) (M : Sto)
  | exc (x : Ex) (sl : Slots) (M : Sto)
  | bad
def SRes.next (r : SRes) (f : Slots → Sto → SRes) : SRes := match r with
  | .nx sl M => f sl M
  | r => r
/-- an expression's result within a statement -/
def Res.st {α : Type} (r : Res α) (sl : Slots) (f : α → Sto → SRes) : SRes := match r with
  | .ok a M => f a M
  | .exc x M => .exc x sl M
  | .bad => .bad
def forGo (f : D → Slots → Sto → SRes) : List D → Slots → Sto → SRes
  | [], sl, M => .nx sl M
  | x :: xs, sl, M => match f x sl M with
    | .nx sl1 M1 => forGo f xs sl1 M1
    | .ct sl1 M1 => forGo f xs sl1 M1
    | .bk sl1 M1 => .nx sl1 M1
    | r => r
/-- name = value -/
def setR (i : Nat) (al : Bool) (a : RV) (sl : Slots) (M : Sto) : SRes := match a with
  | .own k => .nx (sl.set i (some (.own k))) M
  | .p fr d => match al && fr, d with
    | true, .lst _ => .nx (sl.set i (some (.own M.length))) (M ++ [.live d])
    | true, .ins _ _ => .nx (sl.set i (some (.own M.length))) (M ++ [.live d])
    | _, _ => .nx (sl.set i (some (.p d))) M
/-- no name holds an exception any more -/
def noX (sl : Slots) : Slots := sl.map fun x => match x with
  | some (.exc _) => none
  | x => x
def exmD (P : Prg) (i j : Nat) : Option Bool := (P.exm.find? fun q => q.1 == i && q.2.1 == j).map (·.2.2)
section
variable (P : Prg) (c : Orc)
mutual
def execS : S → Slots → Sto → SRes
  | .nev, _, _ => .bad
  | .expr e, sl, M => (evalE P c e sl M).st sl fun _ M1 => .nx sl M1
  | .set i al e, sl, M => (evalE P c e sl M).st sl fun a M1 => setR i al a sl M1
  | .unp is e, sl, M => (evalE P c e sl M).st sl fun a M1 => match a with
    | .p _ d => (match bindG (.tup is) d sl with
      | some sl1 => .nx sl1 M1
      | none => .bad)
    | _ => .bad
  | .par i j a b, sl, M => (evalE P c a sl M).st sl fun x M1 => (evalE P c b sl M1).st sl fun y M2 => .nx ((sl.set i (some x.dv)).set j (some y.dv)) M2
  | .setIdx k i e, sl, M => (evalE P c e sl M).st sl fun a M1 => match a.frz M1, sl[k]? with
    | some (d, M2), some (some (.own j)) => (evalE P c i sl M2).st sl fun x M3 => (match x, M3[j]? with
      | .p _ (.int n), some (.live (.lst xs)) => (match L2.ixN xs.length n with
        | some m => .nx sl (M3.set j (.live (.lst (xs.set m d))))
        | none => .bad)
      | _, _ => .bad)
    | _, _ => .bad
  | .setFld k f e, sl, M => (evalE P c e sl M).st sl fun a M1 => match a.frz M1, sl[k]? with
    | some (d, M2), some (some (.own j)) => (match M2[j]? with
      | some (.live (.ins cl fs)) => (match P.cl cl with
        | some i => if i.flds.contains f && decide (fs.length < 1000) then .nx sl (M2.set j (.live (.ins cl (putD f d fs)))) else .bad
        | none => .bad)
      | _ => .bad)
    | _, _ => .bad
  | .aug i op e, sl, M => match sl[i]? with
    | some (some (.p (.int x))) => (evalE P c e sl M).st sl fun a M1 => (match a with
      | .p _ (.int y) => (match opD op (.int x) (.int y) with
        | some z => .nx (sl.set i (some (.p z))) M1
        | none => .bad)
      | _ => .bad)
    | _ => .bad
  | .ife t a b, sl, M => (evalT P c t sl M).st sl fun k M1 => if k = true then execSs a sl M1 else execSs b sl M1
  | .for_ g it body, sl, M => (evalI P c it sl M).st sl fun xs M1 => forGo (fun x sl M => match bindG g x sl with
    | some sl1 => execSs body sl1 M
    | none => .bad) xs sl M1
  | .ret e, sl, M => (evalE P c e sl M).st sl fun a M1 => .rt a M1
  | .retN, _, M => .rt (.p false .non) M
  | .pass, sl, M => .nx sl M
  | .brk, sl, M => .bk sl M
  | .cont, sl, M => .ct sl M
  | .raise xc es, sl, M => (evalEs P c es sl M).st sl fun as M1 => match frzs as M1, P.xcs[xc]? with
    | some (ds, M2), some i => if i.fs.length = ds.length ∧ ds.all fmtD = true then .exc ⟨xc, (i.fs.zip ds).reverse⟩ sl M2 else .bad
    | _, _ => .bad
  | .try_ body hs, sl, M => match execSs body sl M with
    | .exc x sl1 M1 => execHs hs x sl1 M1
    | r => r
  | .clr is, sl, M => .nx (wipe sl is) M
def execSs : Ss → Slots → Sto → SRes
  | .nev, _, _ => .bad
  | .nil, sl, M => .nx sl M
  | .cons s ss, sl, M => (execS s sl M).next fun sl1 M1 => execSs ss sl1 M1
def execHs : Hs → Ex → Slots → Sto → SRes
  | .nil, x, sl, M => .exc x sl M
  | .cons xc i body r, x, sl, M => match exmD P x.c xc with
    | some true => (match i with
      | some i => (match execSs body ((noX sl).set i (some (.exc x))) M with
        | .nx sl1 M1 => .nx (noX (sl1.set i none)) M1
        | .bk sl1 M1 => .bk (noX (sl1.set i none)) M1
        | .ct sl1 M1 => .ct (noX (sl1.set i none)) M1
        | .rt a M1 => .rt a M1
        | _ => .bad)
      | none => (match execSs body (noX sl) M with
        | .nx sl1 M1 => .nx (noX sl1) M1
        | .bk sl1 M1 => .bk (noX sl1) M1
        | .ct sl1 M1 => .ct (noX sl1) M1
        | .rt a M1 => .rt a M1
        | _ => .bad))
    | some false => execHs r x sl M
    | none => .bad
end
end

/-! ### defs -/
/-- a def's end: its own things go; one handed back is the caller's data -/
def endR (n0 : Nat) : SRes → Res RV
  | .nx _ M => .ok (.p false .non) (M.take n0)
  | .rt (.p fr d) M => .ok (.p fr d) (M.take n0)
  | .rt (.own k) M => if k < n0 then .ok (.own k) (M.take n0) else match M[k]? with
    | some (.live d) => .ok (.p true d) (M.take n0)
    | some (.dead d) => .ok (.p false d) (M.take n0)
    | none => .bad
  | .exc x _ M => .exc x (M.take n0)
  | _ => .bad
structure Fn where
  /-- names by slot -/
  N : List Str
  /-- number of parameters -/
  np : Nat
  body : Ss
def runFn (P : Prg) (c : Orc) (f : Fn) (as : List DV) (M : Sto) : Res RV :=
  if as.length = f.np then endR M.length (execSs P c f.body (as.map some ++ List.replicate (f.N.length - f.np) none) M) else .bad
def run (P : Prg) (fs : Nat → Option Fn) : Nat → Orc
  | 0 => fun _ _ _ => .bad
  | n + 1 => fun f as M => match fs f with
    | some i => runFn P (run P fs n) i as M
    | none => .bad
end DI

namespace DI
open PySem PySem.Spec PyProof.Rows L2
def plainPar (p : Arguments) : Bool := p.posonlyargs.isEmpty && p.kwonlyargs.isEmpty && p.vararg.isNone && p.kwarg.isNone
theorem zip_look : ∀ {ps : List Str} {us : List Value} {j : Nat} {x : Str}, ps.Nodup → ps[j]? = some x → (ps.zip us).lookup x = us[j]?
  | [], _, _, _, _, h => by simp at h
  | p :: ps, [], j, x, _, _ => by simp
  | p :: ps, u :: us, 0, x, nd, h => by
    simp at h; subst h
    show ((p, u) :: ps.zip us).lookup p = _
    rw [List.lookup_cons, beq_self_eq_true]; simp
  | p :: ps, u :: us, j + 1, x, nd, h => by
    have h' : ps[j]? = some x := by simpa using h
    have ne : (x == p) = false := by
      rw [beq_eq_false_iff_ne]
      rintro rfl
      exact (List.nodup_cons.mp nd).1 (List.mem_of_getElem? h')
    show ((p, u) :: ps.zip us).lookup x = _
    rw [List.lookup_cons, ne]
    exact (zip_look (List.nodup_cons.mp nd).2 h').trans (by simp)
theorem look_all {S : List (Str × Value)} : ∀ {qs : List Str} {vs : List Value}, qs.length = vs.length → (∀ (j : Nat) (x : Str), qs[j]? = some x → S.lookup x = vs[j]?) → qs.filterMap (fun n => (S.lookup n).map fun v => (n, v)) = qs.zip vs
  | [], [], _, _ => rfl
  | [], _ :: _, h, _ => by cases h
  | _ :: _, [], h, _ => by cases h
  | q :: qs, v :: vs, h, hj => by
    have e := hj 0 q rfl
    rw [List.filterMap_cons, e]
    show (q, v) :: _ = _
    rw [look_all (qs := qs) (vs := vs) (Nat.succ.inj h) (fun (j : Nat) (x : Str) (e : qs[j]? = some x) => by have := hj (j + 1) x (by simpa using e); simpa using this)]
    rfl
theorem loop_eq {ps : List Str} (nd : ps.Nodup) : ∀ (k j : Nat) (us dd : List Value), ps.length - j = k → j ≤ us.length → us.length ≤ ps.length → dd.length = ps.length - j → j ≤ ps.length →
    (forIn ((ps.drop j).zip dd) (ps.zip us) fun x (s : List (Str × Value)) => if (s.lookup x.1).isNone = true then pure (ForInStep.yield (s ++ [(x.1, x.2)])) else pure (ForInStep.yield s) : Sem (List (Str × Value))) = pure (ps.zip (us ++ dd.drop (us.length - j)))
  | 0, j, us, dd, hk, h1, h2, h3, h4 => by
    have e : dd = [] := List.eq_nil_of_length_eq_zero (by omega)
    subst e
    simp
  | k + 1, j, us, dd, hk, h1, h2, h3, h4 => by
    have hj : j < ps.length := by omega
    cases dd with
    | nil => simp at h3; omega
    | cons d dd =>
      have h3' : dd.length = ps.length - (j + 1) := by simp at h3; omega
      rw [List.drop_eq_getElem_cons hj, List.zip_cons_cons, List.forIn_cons]
      have hl : (ps.zip us).lookup ps[j] = us[j]? := zip_look nd (List.getElem?_eq_getElem hj)
      by_cases q : j < us.length
      · have : (((ps.zip us).lookup ps[j]).isNone = true) ↔ False := by rw [hl, List.getElem?_eq_getElem q]; simp
        simp only [this, if_false, pure_bind]
        rw [loop_eq nd k (j + 1) us dd (by omega) q h2 h3' hj]
        have : us.length - j = (us.length - (j + 1)) + 1 := by omega
        rw [this, List.drop_succ_cons]
      · have ej : j = us.length := by omega
        have : (((ps.zip us).lookup ps[j]).isNone = true) ↔ True := by rw [hl, List.getElem?_eq_none (by omega)]; simp
        simp only [this, if_true, pure_bind]
        have ez : ps.zip us ++ [(ps[j], d)] = ps.zip (us ++ [d]) := by
          have hz : ps = ps.take us.length ++ ps[j] :: ps.drop (j + 1) := by
            rw [← ej, ← List.drop_eq_getElem_cons hj, List.take_append_drop]
          have ht : (ps.take us.length).length = us.length := by rw [List.length_take]; omega
          generalize ps[j] = pj at hz ⊢
          generalize ps.take us.length = A at hz ht
          generalize ps.drop (j + 1) = B at hz
          subst hz
          rw [List.zip_append ht]
          have : (A ++ pj :: B).zip us = A.zip us := by
            have := List.zip_append (l₁ := A) (r₁ := pj :: B) (l₂ := us) (r₂ := []) ht
            simpa using this
          rw [this]
          simp
        rw [ez, loop_eq nd k (j + 1) (us ++ [d]) dd (by omega) (by simp; omega) (by simp; omega) h3' hj]
        have e1 : us.length - j = 0 := by omega
        have e2 : (us ++ [d]).length - (j + 1) = 0 := by simp; omega
        rw [e1, e2]
        simp
theorem bind_gen {fd : FuncData} {us : List Value} {ps : List Str} (hp : plainPar fd.params = true) (ha : fd.params.args.map (·.arg) = ps) (nd : ps.Nodup) (h1 : us.length ≤ ps.length) :
    ∃ k, bindArgs fd ⟨us, []⟩ = seqItems? fd.defaults >>= k ∧ ∀ (o : Option (Array Value)) (ds : Array Value), o.getD #[] = ds → ds.size ≤ ps.length → ps.length ≤ us.length + ds.size → k o = pure (ps.zip (us ++ ds.toList.drop (us.length + ds.size - ps.length))) := by
  obtain ⟨name, qual, ⟨pa, ar, va, ka, ko, kd, de⟩, body, scope, glob, clo, dfl, kdf, doc, pm, an, code, ct, bl⟩ := fd
  unfold plainPar at hp
  simp only [Bool.and_eq_true, List.isEmpty_iff, Option.isNone_iff_eq_none] at hp
  obtain ⟨⟨⟨e1, e2⟩, e3⟩, e4⟩ := hp
  dsimp only at e1 e2 e3 e4 ha
  subst e1 e2 e3 e4
  unfold bindArgs
  dsimp only [List.map_nil, List.nil_append]
  rw [ha]
  simp only [List.forIn_nil, pure_bind]
  refine ⟨_, rfl, fun o ds eo h2 h3 => ?_⟩
  subst eo
  generalize o.getD #[] = ds at h2 h3 ⊢
  have q1 : ¬ (decide (us.length > (List.map (fun x : Arg => x.arg) [] ++ ps).length) && (none : Option Arg).isNone) = true := by simp; omega
  rw [if_neg q1]
  have q2 : List.drop (ds.toList.length - (List.map (fun x : Arg => x.arg) [] ++ ps).length) ds.toList = ds.toList := by
    have : ds.toList.length - (List.map (fun x : Arg => x.arg) [] ++ ps).length = 0 := by simp; omega
    rw [this]; rfl
  simp only [q2]
  have q3 : ¬ (!(List.filter (fun n => (List.lookup n ((List.map (fun x : Arg => x.arg) [] ++ ps).zip us)).isNone) (List.take ((List.map (fun x : Arg => x.arg) [] ++ ps).length - ds.toList.length) (List.map (fun x : Arg => x.arg) [] ++ ps))).isEmpty) = true := by
    simp only [List.map_nil, List.nil_append, Bool.not_eq_true', Bool.not_eq_false, List.isEmpty_iff, List.filter_eq_nil_iff]
    intro x hx
    obtain ⟨j, hj, e⟩ := List.getElem_of_mem hx
    rw [List.getElem_take] at e
    have hj' : j < ps.length - ds.toList.length := by rw [List.length_take] at hj; exact Nat.lt_of_lt_of_le hj (Nat.min_le_left _ _)
    have hjs : j < ps.length := by omega
    rw [zip_look (j := j) nd (by rw [← e]; exact List.getElem?_eq_getElem hjs), List.getElem?_eq_getElem (by simp at hj'; omega)]
    simp
  rw [if_neg q3]
  simp only [List.map_nil, List.nil_append]
  have el := loop_eq nd (ps.length - (ps.length - ds.toList.length)) (ps.length - ds.toList.length) us ds.toList rfl (by simp; omega) h1 (by simp; omega) (by omega)
  rw [el]
  simp only [pure_bind, List.forIn_nil, List.isEmpty_nil, Bool.not_true, Bool.false_eq_true, if_false, List.append_nil]
  have en : us.length - (ps.length - ds.toList.length) = us.length + ds.size - ps.length := by simp; omega
  rw [en]
  exact congrArg pure (look_all (by simp; omega) fun j x e => zip_look nd e)
end DI

/-! DI.J1: own exceptions over Exception whose __init__ says super().__init__(f'..') and keeps its words -/
namespace DIX
open PySem PySem.W PySem.Calls PyProof.Rows PySem.HandSPX
/-- own classes, then Exception's order -/
def refsEx : List Value → Bool
  | .ref _ :: r => refsEx r
  | l => l == PySem.ESX.exTail
theorem refsEx_or (l : List Value) (e : refsEx l = true) : (∃ c r, l = .ref c :: r ∧ refsEx r = true) ∨ l = PySem.ESX.exTail := by
  cases l with
  | nil => cases e
  | cons a r => cases a <;> first | exact .inl ⟨_, _, rfl, e⟩ | exact .inr (beq_iff_eq.mp e)
theorem refsEx_pass (self : Value) : ∀ (l : List Value), refsEx l = true → refuseLoop self "__setattr__" l = pure ()
  | [], e => by cases e
  | a :: r, e => by
    rcases refsEx_or (a :: r) e with ⟨c, r', q, h⟩ | q
    · cases q
      exact (refuseLoop_ref ..).trans (refsEx_pass self r h)
    · rw [q]
      exact F.store_Exception.passes self
theorem refsEx_has (X : String) : ∀ (l : List Value), refsEx l = true → l.contains (.type X) = PySem.ESX.exTail.contains (.type X)
  | [], e => by cases e
  | a :: r, e => by
    rcases refsEx_or (a :: r) e with ⟨c, r', q, h⟩ | q
    · cases q
      have ih := refsEx_has X r h
      rw [List.contains_cons, ih]; rfl
    · rw [q]
theorem refsEx_ne {l : List Value} (e : refsEx l = true) : l.isEmpty = false := by
  cases l <;> first | rfl | cases e
section
open Builtin Builtin.ObjectAttr
variable {prog : Program} {w : World} {A : Around} {E : Value → Shared → Prop} {R : Result → Shared → Prop} {hp : Heap} {g : Array GenState} {d : Drawn} {t : Nat} {os : OsState}
theorem osaX {K : Frag} {name : Str} {tk : Tok} {v : Value} {x C : Addr} {ox : Obj} {od : Option Obj} {cd : ClassData} (X : K.In hp) (I : InstAt hp x ox C od) (hcd : clsIn K C = some cd) (hm : refsEx cd.mro = true)
    (ha : findIn K (.ref C) name = some none)
    (hq : wpAny (model prog w) A.in1 (storeInOwnDict (.ref x) (.ref C) (.str name tk) name v false)
      (fun fin s' => match fin with
        | .done f => R (.ok f) s'
        | .again c' => c'.quiet = true ∧ codeAny (model prog w) A c' R s')
      (fun e s' => R (.error e) s') ⟨hp, g, d, t, os⟩) :
    codeAny (model prog w) A (.call (.builtin "object.__setattr__") ⟨[.ref x, .str name tk, v], []⟩) R ⟨hp, g, d, t, os⟩ := by
  have SF := F.store_object
  have inO : mroIn K C (.type "object") = some true := by
    unfold mroIn
    rw [hcd, Option.bind_some, if_neg (by rw [refsEx_ne hm]; exact Bool.false_ne_true), refsEx_has "object" _ hm]
    decide +kernel
  have sub : Looks (model prog w) hp (isInstance (.ref x) (.type "object")) true := I.type.andThen (looks_mroIn X inO)
  refine codeAny_call_builtin SF.slot.plain SF.entry (@check_slot (model prog w) _ _ ⟨hp, g, d, t, os⟩ "object.__setattr__" "object" "__setattr__" (.ref x) [.str name tk, v] [] _ SF.kind SF.split sub (SF.args (.ref x) (.str name tk) v) ?_)
  have lm : Looks (model prog w) hp (mroOf (.ref C)) cd.mro := (looks_clsIn X hcd).andThen .now
  have l3 : Looks (model prog w) hp (storeTaker? none) none := .now
  rw [osa_eq, refuse_eq]
  refine wpAny_bind (wpAny_bind (I.type.at (wpAny_bind (lm.at ?_))))
  rw [refsEx_pass _ _ hm]
  exact wpAny_pure (wpAny_bind (I.type.at (wpAny_bind ((looks_findIn X ha).at (wpAny_bind (l3.at hq))))))
theorem osaX_new {K : Frag} {name : Str} {tk : Tok} {v : Value} {x C : Addr} {fv : Array Value} {cd : ClassData} (X : K.In hp) (hx : hp.get? x = some { cls := .ref C, data := .fields fv }) (hcd : clsIn K C = some cd) (hm : refsEx cd.mro = true)
    (hh : cd.hasDict = true) (ha : findIn K (.ref C) name = some none)
    (hq : ∀ h' tk' dx, (∀ b o, b ≠ x → hp.get? b = some o → h'.get? b = some o) → hp.objs.size ≤ dx → dx ≠ x → h'.get? x = some { cls := .ref C, dict := some dx, data := .fields fv } →
      h'.Ns1 dx (fun y => if y = name then some v else none) → R (.ok (.ret .none)) ⟨h', g, d, tk', os⟩) :
    codeAny (model prog w) A (.call (.builtin "object.__setattr__") ⟨[.ref x, .str name tk, v], []⟩) R ⟨hp, g, d, t, os⟩ := by
  have I : InstAt hp x { cls := .ref C, data := .fields fv } C none := ⟨hx, rfl, rfl, trivial⟩
  have hxs : x ≠ hp.objs.size := Nat.ne_of_lt (Heap.lt_size hx)
  have hcls : Looks (model prog w) hp (classData C) cd := looks_clsIn X hcd
  refine osaX X I hcd hm ha ?_
  obtain ⟨nm, bs, mro, ns, qn, hd, sn, sb, ab, col, del⟩ := cd
  dsimp only at hh
  subst hh
  unfold storeInOwnDict ownDictForStores
  repeat (first
    | with_reducible refine store_in_new ?_ ?_
    | with_reducible refine wpAny_loadPart_at hx ?_
    | with_reducible refine hcls.at ?_
    | wp_step)
  · exact ⟨_, #[], _, (Heap.get?_update_ne _ _ _ _ hxs.symm).trans (Heap.get?_push_at rfl rfl), rfl, fun e he => absurd he (by simp), fun _ => rfl⟩
  · intro h' tk' hn' hs
    have hx1 : (hp.push { cls := .type "dict", data := .dict #[] }).get? x = some { cls := .ref C, data := .fields fv } := Heap.get?_push_of_some _ hx
    refine hq h' tk' hp.objs.size (fun b o hb ho => ?_) (Nat.le_refl _) hxs.symm ?_ hn'
    · exact (hs.2 b (Nat.ne_of_lt (Heap.lt_size ho))).trans ((Heap.get?_update_ne _ _ _ _ hb).trans (Heap.get?_push_of_some _ ho))
    · exact (hs.2 x hxs).trans (Heap.get?_update_self _ hx1 rfl)
theorem osaX_old {K : Frag} {name : Str} {tk : Tok} {v : Value} {x C dx : Addr} {fv : Array Value} {cd : ClassData} {m0 : Str → Option Value} {nl : List Str} (X : K.In hp) (hx : hp.get? x = some { cls := .ref C, dict := some dx, data := .fields fv })
    (hns : hp.Ns1 dx m0) (hw : Within m0 nl) (hz : nl.length ≤ 1000) (hcd : clsIn K C = some cd) (hm : refsEx cd.mro = true) (hh : cd.hasDict = true) (ha : findIn K (.ref C) name = some none)
    (hq : ∀ h' tk', (∀ b o, b ≠ dx → hp.get? b = some o → h'.get? b = some o) → h'.Ns1 dx (fun y => if y = name then some v else m0 y) → R (.ok (.ret .none)) ⟨h', g, d, tk', os⟩) :
    codeAny (model prog w) A (.call (.builtin "object.__setattr__") ⟨[.ref x, .str name tk, v], []⟩) R ⟨hp, g, d, t, os⟩ := by
  obtain ⟨oD, esD, epD, hoD, hdD, _⟩ := hns.count hw
  have I : InstAt hp x { cls := .ref C, dict := some dx, data := .fields fv } C (some oD) := ⟨hx, rfl, rfl, hoD⟩
  have hcls : Looks (model prog w) hp (classData C) cd := looks_clsIn X hcd
  refine osaX X I hcd hm ha ?_
  obtain ⟨nm, bs, mro, ns, qn, hd, sn, sb, ab, col, del⟩ := cd
  dsimp only at hh
  subst hh
  unfold storeInOwnDict ownDictForStores
  repeat (first
    | with_reducible refine PySem.OEX.store_in_old hns hw hz ?_
    | with_reducible refine wpAny_loadPart_at hx ?_
    | with_reducible refine hcls.at ?_
    | wp_step)
  intro h' tk' hn' hs
  exact hq h' tk' (fun b o hb ho => (hs.2 b hb).trans ho) hn'
end
end DIX

/-! DI.J2: an exception being made: its class, its stores, super().__init__ -/
namespace DIX
open PySem PySem.Spec PyProof.Rows L2
structure OexX (K : PySem.W.Frag) (C : Addr) : Prop where
  cls : ∃ nm q N bs bm sn sub ab col dd k0 k1 k2 k3 k5, K.lookup C = some (excClassObj nm q C N bs bm true sn sub ab col dd k0 k1 k2 k3 k5 "Exception.__new__") ∧ refsEx bm = true
  sa : PySem.W.findIn K (.ref C) "__setattr__" = some (some (.builtin "object.__setattr__"))
  exC : PySem.W.subIn K (.ref C) (.type "BaseException") = some true
  exE : PySem.W.subIn K (.ref C) (.type "Exception") = some true
  tyC : PySem.W.typeIn K (.ref C) = some (.type "type")
  kC : PySem.W.keepIn K (.ref C) = true
def oexB (K : PySem.W.Frag) (C : Addr) : Bool := (match K.lookup C with
  | some ⟨.type "type", _, .cls cd, sl⟩ => (match cd.mro, sl.toList with
    | .ref C' :: bm, [_, _, _, _, some (.builtin n), _] => C' == C && n == "Exception.__new__" && !cd.hasDel && cd.hasDict && refsEx bm
    | _, _ => false)
  | _ => false) && He.eqO (PySem.W.findIn K (.ref C) "__setattr__") (some (some (.builtin "object.__setattr__"))) && decide (PySem.W.subIn K (.ref C) (.type "BaseException") = some true) && decide (PySem.W.subIn K (.ref C) (.type "Exception") = some true) &&
    decide (PySem.W.typeIn K (.ref C) = some (.type "type")) && PySem.W.keepIn K (.ref C)
theorem oexB_ok {K : PySem.W.Frag} {C : Addr} (h : oexB K C = true) : OexX K C := by
  unfold oexB at h
  simp only [Bool.and_eq_true, decide_eq_true_eq] at h
  obtain ⟨⟨⟨⟨⟨h1, h2⟩, h3⟩, h4⟩, h5⟩, h6⟩ := h
  refine ⟨?_, He.eqO_ok h2, h3, h4, h5, h6⟩
  split at h1
  · rename_i dd cd sl ho
    split at h1
    · rename_i C' bm k0 k1 k2 k3 n k5 hm hs
      simp only [Bool.and_eq_true, beq_iff_eq, Bool.not_eq_true'] at h1
      obtain ⟨⟨⟨⟨rfl, rfl⟩, hdel⟩, hdic⟩, ht⟩ := h1
      obtain ⟨nm, bs, mro, ns, qn, hd, sn, sub, ab, col, del⟩ := cd
      dsimp only at hm hdel hdic
      subst hm hdel hdic
      obtain ⟨l⟩ := sl
      simp only at hs
      subst hs
      exact ⟨nm, qn, ns, bs, bm, sn, sub, ab, col, dd, k0, k1, k2, k3, k5, ho, ht⟩
    · cases h1
  · cases h1
section
variable {X : Cx} {pins : List (Addr × Obj)} {σ : L2.St} {H : Hp} {s : Shared} {a C dx : Addr} {f : Str} {y : V} {u : Value} {fs : List (Str × V)} {Q : Unit → Shared → Prop} {E : Value → Shared → Prop} {A : Around}
theorem OexX.cd {K : PySem.W.Frag} {C : Addr} (T : OexX K C) : ∃ cd : ClassData, PySem.W.clsIn K C = some cd ∧ refsEx cd.mro = true ∧ cd.hasDict = true := by
  obtain ⟨nm, q, N, bs, bm, sn, sub, ab, col, dd, k0, k1, k2, k3, k5, hC, hbm⟩ := T.cls
  exact ⟨{ name := nm, bases := bs, mro := .ref C :: bm, ns := N, qualname := q, hasDict := true, slotNames := sn, subclasses := sub, abstract := ab, collection := col, hasDel := false }, by unfold PySem.W.clsIn; rw [hC] <;> rfl, hbm, rfl⟩
/-- self.f = y, the first one -/
theorem xst_new (T : OexX X.K C) (I : Inv X pins σ H s) (e : H a = some (exo a C none)) (hno : PySem.W.findIn X.K (.ref C) f = some none) (ry : RelV y u)
    (h : ∀ dx s', H dx = none → dx ≠ a → Inv X pins σ (upd (upd H dx (exd dx [(f, y)])) a (exo a C (some dx))) s' → Q () s') : wpAny (model X.prog X.w) A (setAttr (.ref a) f u) Q E s := by
  obtain ⟨cd, hcl, hmr, hdi⟩ := T.cd
  obtain ⟨t1, ho⟩ := exo_at I.hok e
  obtain ⟨hp, g, d, t, os⟩ := s
  refine PySem.W.set_plain I.kIn (ox := { cls := .ref C, dict := none, data := .fields #[.ref t1, .none, .none, .none, .bool false, .none] }) (od := none) ⟨ho, rfl, rfl, trivial⟩ T.sa ?_
  refine osaX_new I.kIn ho hcl hmr hdi hno fun h' tk' dx k dn dne hx hn => ?_
  have hnd : H dx = none := I.hok.fresh dn
  have nd : ∀ {b : Addr} {o : Obj}, hp.get? b = some o → b ≠ dx := fun {b o} q => Nat.ne_of_lt (Nat.lt_of_lt_of_le (Heap.lt_size q) dn)
  have na : ∀ {b : Addr}, H b = none → b ≠ a := fun {b} n z => by
    rw [z, e] at n
    cases n
  have U1 : Un X.fs [] H (upd (upd H dx (exd dx [(f, y)])) a (exo a C (some dx))) hp h' := {
    keep := fun b o q n _ _ => k b o (na n) q
    slot := fun b o q n _ _ => ⟨o.slots, k b o (na n) q⟩
    free := fun b o q n _ => by rw [upd_ne (na n), upd_ne (nd q)]; exact n
    there := fun b o q _ => by
      by_cases hb : b = a
      · exact ⟨_, by rw [hb]; exact hx⟩
      · exact ⟨o, k b o hb q⟩
    tups := fun b xs q => by rw [upd_ne (at_ne e q exo_tup), upd_ne (ne_of_none q hnd)]; exact q
    frzs := fun b o v q => by rw [upd_ne (at_ne e q exo_frz), upd_ne (ne_of_none q hnd)]; exact q
    tbls := fun b ps q => ⟨#[], by rw [upd_ne (at_ne e q exo_tbl), upd_ne (ne_of_none q hnd), q]; simp⟩ }
  refine h dx _ hnd dne (I.un (t' := tk') U1 fun b o q => ?_)
  by_cases hb : b = a
  · subst hb
    rw [upd_same] at q
    cases q
    exact exo_ok hx
  · rw [upd_ne hb] at q
    by_cases hd : b = dx
    · subst hd
      rw [upd_same] at q
      cases q
      exact exd_ok hn (relO_put (fs := []) ry fun g => True.intro)
    · rw [upd_ne hd] at q
      refine (I.hok b o q).stay (fun c v hc z => k c v ?_ z) (fun c hc => ?_) (fun c xs hc => ?_)
      · rcases hc with hc | hc
        · rw [hc]
          exact hb
        · exact at_ne e hc exo_own
      · rw [upd_ne (at_ne e hc exo_own), upd_ne (ne_of_none hc hnd)]; exact hc
      · rw [upd_ne (at_ne e hc exo_tup), upd_ne (ne_of_none hc hnd)]; exact hc
/-- self.f = y, a further one -/
theorem xst_old (T : OexX X.K C) (I : Inv X pins σ H s) (e : H a = some (exo a C (some dx))) (ed : H dx = some (exd dx fs)) (hl : fs.length ≤ 900) (hno : PySem.W.findIn X.K (.ref C) f = some none) (ry : RelV y u)
    (h : ∀ s', Inv X pins σ (upd H dx (exd dx ((f, y) :: fs))) s' → Q () s') : wpAny (model X.prog X.w) A (setAttr (.ref a) f u) Q E s := by
  obtain ⟨cd, hcl, hmr, hdi⟩ := T.cd
  obtain ⟨t1, ho⟩ := exo_at I.hok e
  obtain ⟨mA, hns, rel⟩ := exd_at I.hok ed
  have hw := within_of rel
  obtain ⟨hp, g, d, t, os⟩ := s
  obtain ⟨oD, _, _, hoD, _, _⟩ := hns.count hw
  refine PySem.W.set_plain I.kIn (ox := { cls := .ref C, dict := some dx, data := .fields #[.ref t1, .none, .none, .none, .bool false, .none] }) (od := some oD) ⟨ho, rfl, rfl, hoD⟩ T.sa ?_
  refine osaX_old I.kIn ho hns hw (by rw [List.length_map]; omega) hcl hmr hdi hno fun h' tk' k hn => ?_
  have hd : ∃ o, h'.get? dx = some o := by
    obtain ⟨o, _, _, e', _⟩ := hn
    exact ⟨o, e'⟩
  exact h _ (I.write (t' := tk') (x := dx) (e := dx) (o := exd dx ((f, y) :: fs)) (by rw [ed]; exact True.intro) (.inl rfl) k hd (exd_ok hn (relO_put ry rel)))
end
/-- self.f = e -/
def tXst (K : PySem.W.Frag) (f : Str) (to te : TE) : TS := fun D σ H => te σ H fun y H1 => to σ H1 fun x H2 => ∃ a C : Addr, x = .ref a ∧ OexX K C ∧ PySem.W.findIn K (.ref C) f = some none ∧
  ((H2 a = some (exo a C none) ∧ ∀ dx, H2 dx = none → dx ≠ a → D.nx σ (upd (upd H2 dx (exd dx [(f, y)])) a (exo a C (some dx)))) ∨
    ∃ (dx : Addr) (fs : List (Str × V)), H2 a = some (exo a C (some dx)) ∧ H2 dx = some (exd dx fs) ∧ fs.length ≤ 900 ∧ D.nx σ (upd H2 dx (exd dx ((f, y) :: fs))))
theorem ps_xst {X : Cx} {o e : Expr} {to te : TE} {f : Str} {p' pos : Pos} (ho : PE X o to) (he : PE X e te) (hs : swapsWith e (some (.Attribute o f p')) pos.line X.env = pure false) : PS X (.Assign [.Attribute o f p'] e pos) (tXst X.K f to te) := by
  refine ⟨fun pins s σ H D I h => ?_⟩
  refine plainObj_wpAny_Assign_Attribute (thn (he.run pins s σ H _ I h) fun v s1 ⟨y, H1, I1, r1, q1⟩ => thn (ho.run pins s1 σ H1 _ I1 q1) fun u s2 ⟨x, H2, I2, r2, a, C, ex, T, hno, q⟩ => ?_) hs
  subst ex
  obtain rfl : u = Value.ref a := r2
  rcases q with ⟨ea, q⟩ | ⟨dx, fs, ea, ed, hl, q⟩
  · exact xst_new T I2 ea hno r1 fun dx s' n ne J => ⟨σ, _, J, q dx n ne⟩
  · exact xst_old T I2 ea ed hl hno r1 fun s' J => ⟨σ, _, J, q⟩
end DIX

/-! DI.J3: super().__init__(e) within an exception's __init__ -/
namespace DIX
open PySem PySem.Spec PyProof.Rows L2
theorem boot_super : bootBuiltins "super" = some (.type "super") := by first | decide +kernel | kernel_rfl
/-- what is known of the frame of such an __init__ -/
structure SupF (X : Cx) (C f cda cc : Addr) (i : Nat) (me : Str) : Prop where
  fn : X.env.func = some f
  code : X.env.code = .ref cda
  ks : X.env.kindOf "super" = some .globalImplicit
  kc : X.env.kindOf "__class__" = some .free
  cell : X.env.cells.lookup ("__class__" : Str) = some cc
  fd : ∃ oc od osl fd ar, X.K.lookup f = some ⟨oc, od, .func fd, osl⟩ ∧ (fd.params.posonlyargs ++ fd.params.args).head? = some ar ∧ ar.arg = me
  at_ : X.N[i]? = some me
  loc : X.env.kindOf me = some .local
  file : ∃ oc od osl vs file tf, X.K.lookup cda = some ⟨oc, od, .fields vs, osl⟩ ∧ vs[2]? = some (.str file tf) ∧ ((X.prog.main.file : Str) == file) = true
  top : (X.prog.main.scope.names.lookup ("super" : Str)).isSome = false
  cls : ∃ oc od osl, X.K.lookup cc = some ⟨oc, od, .cell (some (.ref C)), osl⟩
  mg : X.mg "super" = none
  sup : PySem.W.ks_superIn X.K C C "__init__" = some (some (.builtin "Exception.__init__"))
  opq : PySem.W.nsIn X.K PySem.cStatics "thirdparty.any" = some none
section
variable {X : Cx} {pins : List (Addr × Obj)} {σ : L2.St} {H : Hp} {s : Shared} {a C f cda cc : Addr} {i : Nat} {me : Str} {body : List Stmt} {p0 p1 apos pos : Pos} {e : Expr} {te : TE}
theorem super_init {Q : Value → Shared → Prop} (F : SupF X C f cda cc i me) (T : OexX X.K C) (I : Inv X pins σ H s) (ea : H a = some (exo a C none)) (hσ : σ[i]? = some (some (.ref a))) (he : PE X e te) (hst : starEach [e] X.env = [(false, eval e X.env)])
    (hfew : ((apos.endLine == pos.line) = true))
    (hq : te σ H fun _ H1 => H1 a = some (exo a C none) ∧ 1 ≤ sizeLine ∧ ∀ s1, Inv X pins σ H1 s1 → Q .none s1) :
    _root_.PySem.wpAt (model X.prog X.w) X.A (.func body X.env) (eval (.Call (.Attribute (.Call (.Name "super" p0) [] [] p1) "__init__" apos) [e] [] pos) X.env) Q X.xe s := by
  obtain ⟨oc, od, osl, fd, ar, hf, hp, har⟩ := F.fd
  obtain ⟨oc2, od2, osl2, vs, file, tf, hcode, hvs, hfile⟩ := F.file
  obtain ⟨oc3, od3, osl3, hcell⟩ := F.cls
  obtain ⟨cd, hcl, hmr, hdi⟩ := T.cd
  obtain ⟨nm, q, N, bs, bm, sn, sub, ab, col, dd, k0, k1, k2, k3, k5, hC, hbm⟩ := T.cls
  have KX := I.kIn
  have hq' : tCons te tNil σ H fun ws H1 => H1 a = some (exo a C none) ∧ ws.length ≤ sizeLine ∧ ∀ s1, Inv X pins σ H1 s1 → Q .none s1 := hq
  have few : methodCallForm 1 (backTo pos (starEach [e] X.env)) (backToKw pos (keywordEach [] X.env)) = true := by rw [hst]; rfl
  have hev : eval (.Call (.Attribute (.Call (.Name "super" p0) [] [] p1) "__init__" apos) [e] [] pos) X.env = (do
      let ov ← attributeBase (.Call (.Name "super" p0) [] [] p1) "__init__" X.env (eval (.Call (.Name "super" p0) [] [] p1) X.env)
      standAt apos.atName
      let (f, first) ← holding [ov] (getMethod ov "__init__" (do return (← importBound (.Call (.Name "super" p0) [] [] p1) X.env).getD true))
      callWith pos f first (backTo pos (starEach [e] X.env)) []) := by
    show (do
      let ov ← attributeBase (.Call (.Name "super" p0) [] [] p1) "__init__" X.env (eval (.Call (.Name "super" p0) [] [] p1) X.env)
      standAt apos.atName
      methodCall (.Call (.Name "super" p0) [] [] p1) "__init__" apos pos X.env ov 1 (backTo pos (starEach [e] X.env)) (backToKw pos (keywordEach [] X.env))) = _
    unfold methodCall
    rw [few]
    unfold methodCallPos
    rw [hfew]
    rfl
  refine ks_wpAt_MethodCall ?_ hev
  obtain ⟨m, hns, hl⟩ := id I.loc
  obtain ⟨mb, b1, b2⟩ := id I.ok.mod.blt
  have vis : Vis X.env.scope me := .inl F.loc
  obtain ⟨u, ru, lk⟩ := hl i me _ F.at_ hσ vis
  obtain rfl : u = Value.ref a := ru
  have hm : m me = some (.ref a) := by
    rcases lk with ⟨_, e⟩ | ⟨k, _⟩
    · exact e
    · rw [F.loc] at k
      rcases k with k | k <;> cases k
  obtain ⟨t1, ho⟩ := exo_at I.hok ea
  obtain ⟨oD, hD1, hD2⟩ : ∃ oD, s.heap.get? C = some oD ∧ ∃ cdD, oD.data = .cls cdD := ⟨_, KX _ _ hC, _, rfl⟩
  obtain ⟨cdD, hD2⟩ := hD2
  have subC : PySem.W.mroIn X.K C (.ref C) = some true := by
    unfold PySem.W.mroIn
    have hcl2 : PySem.W.clsIn X.K C = some { name := nm, bases := bs, mro := .ref C :: bm, ns := N, qualname := q, hasDict := true, slotNames := sn, subclasses := sub, abstract := ab, collection := col, hasDel := false } := by unfold PySem.W.clsIn; rw [hC] <;> rfl
    rw [hcl2, Option.bind_some]
    simp
  refine ks_wpAt_super_base F.ks F.kc (by decide +kernel) F.fn (KX _ _ hf) rfl hp F.code (KX _ _ hcode) rfl hvs hfile F.top ?_
  rw [har]
  refine PySem.W.ks_loadName_global I.ok.kind F.ks (Calls.loadGlobal_builtin (by rw [I.ok.glob]; exact I.ok.mod.glob.keeps I.bk) F.mg (by rw [I.ok.blt]; exact b1.keeps I.bk) ((b2 "super" (by decide)).trans boot_super) ⟨rfl, ?_⟩)
  refine wpAny_loadName_free I.ok.kind F.kc F.cell ⟨_, KX _ _ hcell, rfl⟩ ?_
  refine wpAny_loadName_local I.ok.kind F.loc hns hm ?_
  have neC : a ≠ C := fun z => by
    rw [z, KX _ _ hC] at ho
    have z2 := Option.some.inj ho
    have z3 := congrArg Obj.data z2
    cases z3
  obtain ⟨hp, g, d, t, os⟩ := s
  refine ks_wpAny_isType_cls hD1 hD2 ⟨rfl, ?_⟩
  refine ks_wpAny_call_super hD1 hD2 ho rfl (fun c e => by cases e) (PySem.W.looks_mroIn KX subC) (fun h1 e1 k1 => ?_)
  have KX1 : X.K.In h1 := KX.keeps k1
  have ho1 := k1 _ _ ho
  have LT : PySem.W.Looks (model X.prog X.w) h1 (typeOf (.ref a)) (.ref C) := fun A Q E s k q => wpAny_typeOf_ref (k _ _ ho1) q
  have sup : PySem.W.alongIn X.K "__init__" ((cd.mro.dropWhile (· != .ref C)).drop 1) = some (some (.builtin "Exception.__init__")) := by
    have := F.sup
    unfold PySem.W.ks_superIn at this
    rw [hcl] at this
    exact this
  refine PySem.W.kxs_getMethod PySem.W.kxs_Exception e1 (PySem.W.looks_opaque KX1 F.opq) (l₀ := cd.mro) (fun A Q E s k q => wpAny_bind ((PySem.W.looks_clsIn KX1 hcl) A _ E s k (wpAny_pure q))) rfl KX1 sup (LT.andThen (PySem.W.looks_subIn KX1 T.exE)) neC (by decide +kernel) ?_
  have k2 : ∀ b o, h1.get? b = some o → (h1.push (PySem.W.kxs_mw "Exception.__init__" a)).get? b = some o := fun b o e => Heap.get?_push_of_some _ e
  have I1 : Inv X pins σ H ⟨h1, g, d, t, os⟩ := I.kept (t' := t) k1
  have I2 : Inv X pins σ H ⟨h1.push (PySem.W.kxs_mw "Exception.__init__" a), g, d, t + 1, os⟩ := I.kept (t' := t + 1) fun b o e => k2 b o (k1 b o e)
  have gu : (h1.push (PySem.W.kxs_mw "Exception.__init__" a)).get? h1.objs.size = some (PySem.W.kxs_mw "Exception.__init__" a) := Heap.get?_push_at rfl rfl
  have I3 : Inv X (pins ++ [(h1.objs.size, PySem.W.kxs_mw "Exception.__init__" a)]) σ H ⟨h1.push (PySem.W.kxs_mw "Exception.__init__" a), g, d, t + 1, os⟩ := I2.pins_of fun p hp => by
    rcases List.mem_append.mp hp with h | h
    · exact I2.pin p (List.mem_append_right _ h)
    · rw [List.mem_singleton] at h
      subst h
      exact ⟨gu, I1.hok.fresh (Nat.le_refl _), Nat.ne_of_gt I1.lt, I1.nofs (Nat.le_refl _), fun v z => by cases z⟩
  refine PySem.ESX.callWith_bound (x := a) ?_ (by rw [hst]; rfl) rfl
  refine thn ((pa_cons he pa_nil (by rw [hst]; rfl)).run pos _ _ σ H _ I3 hq') fun us s1 ⟨ws, H1, J, rv, q1⟩ => ?_
  have pu := J.pin (h1.objs.size, PySem.W.kxs_mw "Exception.__init__" a) (List.mem_append_right _ (List.mem_append_right _ (List.mem_singleton.mpr rfl)))
  have J' : Inv X pins σ H1 s1 := J.unpinned
  obtain ⟨ea1, hw, q1⟩ := q1
  obtain ⟨t2, ho2⟩ := exo_at J'.hok ea1
  obtain ⟨hp2, g2, d2, tk2, os2⟩ := s1
  refine ⟨pu.1, PySem.ESX.call_bw (J'.kIn _ _ hC) ho2 pu.1 (by show us.length ≤ _; rw [← rv.length]; exact hw) fun h' t3 k hx => ?_⟩
  have J2 := J'.write (t' := tk2) (x := a) (e := a) (o := exo a C none) (by rw [ea1]; exact True.intro) (.inl rfl) k ⟨_, hx⟩ (exo_ok hx)
  have eu : upd H1 a (exo a C none) = H1 := by
    funext b
    by_cases hb : b = a
    · rw [hb, upd_same, ea1]
    · rw [upd_ne hb]
  rw [eu] at J2
  exact q1 _ J2
end
end DIX

/-! DI.J4: the message, the fields -/
namespace DIX
open PySem PySem.Spec PyProof.Rows L2
/-- values that a message may hold -/
def fmtB : V → Bool
  | .int i => decide (i.natAbs.log2 < 1900)
  | .str y => decide (y.length ≤ 1000)
  | .bl _ => true
  | .non => true
  | _ => false
def tFmX (te : TE) : TE := fun σ H Q => te σ H fun x H1 => fmtB x = true ∧ ∀ y : Str, y.length ≤ 2000 → Q (.str y) H1
section
variable {X : Cx} {e : Expr} {te : TE} {pos : Pos}
theorem len_of (y : String) : (Str.ofString y).length = y.length := by
  exact PySem.ofString_length y
theorem pe_fmX (he : PE X e te) : PE X (.FormattedValue e (-1) none pos) (tFmX te) := by
  refine ⟨fun pins s σ H Q I h => ?_⟩
  refine wpAny_FormattedValue_plain (thn (he.run pins s σ H _ I h) fun v s1 ⟨x, H1, I1, r1, hb, q⟩ => ?_)
  cases x with
  | int i =>
    obtain ⟨t, rfl⟩ := r1
    have hz : i.natAbs.log2 < 1900 := of_decide_eq_true hb
    exact wpAny_formatField_int (Nat.lt_trans hz (by decide)) ⟨.str (toString i), H1, I1.tok _, ⟨_, rfl⟩, q _ (by
      have := int_text_length_le (k := 1900) (by decide) hz
      rw [len_of]
      omega)⟩
  | str y =>
    obtain ⟨t, rfl⟩ := r1
    have hz : y.length ≤ 1000 := of_decide_eq_true hb
    exact wpAny_formatField_str ⟨.str y, H1, I1, ⟨t, rfl⟩, q y (by omega)⟩ ⟨.str y, H1, I1.tok _, ⟨_, rfl⟩, q y (by omega)⟩ (Nat.le_trans hz (by decide))
  | bl b =>
    obtain rfl : v = Value.bool b := r1
    exact wpAny_formatField_bool ⟨.str (if b then "True" else "False"), H1, I1.tok _, by cases b <;> exact ⟨_, rfl⟩, q _ (by cases b <;> decide)⟩
  | non =>
    obtain rfl : v = Value.none := r1
    exact wpAny_formatField_none ⟨.str "None", H1, I1.tok _, ⟨_, rfl⟩, q _ (by decide)⟩
  | _ => cases hb
end
/-- the parts of a message -/
def fsB1 (fs : List Str) : Expr → Bool
  | .Constant (.str c) _ _ => decide (c.length ≤ 1000)
  | .FormattedValue (.Name x _) (-1) none _ => fs.contains x
  | _ => false
def fsB (fs : List Str) : List Expr → Bool
  | [] => true
  | e :: es => fsB1 fs e && fsB fs es
theorem fs_parts {X : Cx} {fs : List Str} (hv : ∀ x, x ∈ fs → Vis X.env.scope x ∧ (x == ("__debug__" : Str)) = false ∧ (x == ("__classdict__" : Str)) = false ∧ ∃ j, X.N[j + 1]? = some x ∧ j < fs.length) :
    ∀ (es : List Expr), fsB fs es = true → ∃ ts, PJ X es ts ∧ ∀ (acc : Str) (σ : L2.St) (H : Hp) (Q : Str → Hp → Prop), (∀ j, j < fs.length → ∃ v, σ[j + 1]? = some (some v) ∧ fmtB v = true) → acc.length + 2000 * es.length ≤ sizeLine → (∀ out, Q out H) → tJs ts acc σ H Q
  | [], _ => ⟨[], .nil, fun acc σ H Q _ _ q => q acc⟩
  | e :: es, h => by
    obtain ⟨h1, h2⟩ := Bool.and_eq_true_iff.mp (show (fsB1 fs e && fsB fs es) = true from h)
    obtain ⟨ts, pj, ok⟩ := fs_parts hv es h2
    have al : ∀ (a y : Str), (a ++ y).length = a.length + y.length := fun a y => by
      show (a.cps ++ y.cps).size = _
      exact Array.size_append
    unfold fsB1 at h1
    split at h1
    · rename_i c _ _
      have hc : c.length ≤ 1000 := of_decide_eq_true h1
      refine ⟨_ :: ts, .cons pe_str pj, fun acc σ H Q hs hz q => ⟨c, rfl, ?_, ok _ σ H Q hs ?_ q⟩⟩
      · rw [al]; simp only [List.length_cons] at hz; omega
      · rw [al]; simp only [List.length_cons] at hz; omega
    · rename_i x _ _
      obtain ⟨v1, v2, v3, j, hj, hl⟩ := hv x (List.contains_iff_mem.mp h1)
      refine ⟨_ :: ts, .cons (pe_fmX (pe_var hj v1 v2 v3)) pj, fun acc σ H Q hs hz q => ?_⟩
      obtain ⟨v, e1, e2⟩ := hs j hl
      refine ⟨v, e1, e2, fun y hy => ⟨y, rfl, ?_, ok _ σ H Q hs ?_ q⟩⟩
      · rw [al]; simp only [List.length_cons] at hz; omega
      · rw [al]; simp only [List.length_cons] at hz; omega
    · cases h1
/-- self.f = f, one behind the other -/
def asgB1 (me f : Str) : Stmt → Bool
  | .Assign [.Attribute (.Name x _) g _] (.Name y _) _ => decide (x = me) && decide (g = f) && decide (y = f)
  | _ => false
def asgB (me : Str) : List Str → List Stmt → Bool
  | [], [] => true
  | f :: fs, st :: sts => asgB1 me f st && asgB me fs sts
  | _, _ => false
def tFl (K : PySem.W.Frag) : Nat → List Str → TS
  | _, [] => tNext
  | j, f :: fs => tSeq (tXst K f (tVar 0) (tVar j)) (tFl K (j + 1) fs)
theorem pss_fl {X : Cx} {me : Str} (h0 : X.N[0]? = some me) (v0 : Vis X.env.scope me ∧ (me == ("__debug__" : Str)) = false ∧ (me == ("__classdict__" : Str)) = false) :
    ∀ (fs : List Str) (j : Nat) {sts : List Stmt}, (∀ k x, fs[k]? = some x → X.N[j + k]? = some x ∧ Vis X.env.scope x ∧ (x == ("__debug__" : Str)) = false ∧ (x == ("__classdict__" : Str)) = false) → asgB me fs sts = true → PSs X sts (tFl X.K j fs)
  | [], j, [], _, _ => pss_nil
  | [], j, _ :: _, _, h => by cases h
  | f :: fs, j, [], _, h => by cases h
  | f :: fs, j, st :: sts, hv, h => by
    obtain ⟨h1, h2⟩ := Bool.and_eq_true_iff.mp (show (asgB1 me f st && asgB me fs sts) = true from h)
    unfold asgB1 at h1
    split at h1
    · simp only [Bool.and_eq_true, decide_eq_true_eq] at h1
      obtain ⟨⟨e1, e2⟩, e3⟩ := h1
      subst e1 e2 e3
      obtain ⟨n1, n2, n3, n4⟩ := hv 0 _ rfl
      exact pss_cons (ps_xst (pe_var h0 v0.1 v0.2.1 v0.2.2) (pe_var n1 n2 n3 n4) rfl) (pss_fl h0 v0 fs (j + 1) (fun k x e => by
        have := hv (k + 1) x (by simpa using e)
        rw [Nat.add_assoc, Nat.add_comm 1 k]
        exact this) h2)
    · cases h1
/-- behind the first -/
theorem tFl_old {K : PySem.W.Frag} {C a dx : Addr} {σ : L2.St} (T : OexX K C) (h0 : σ[0]? = some (some (.ref a))) {D : Ends} : ∀ (fs : List Str) (j : Nat) (vs : List V) (acc : List (Str × V)) (H : Hp), (∀ k f, fs[k]? = some f → PySem.W.findIn K (.ref C) f = some none ∧ ∃ v, vs[k]? = some v ∧ σ[j + k]? = some (some v)) → vs.length = fs.length →
    H a = some (exo a C (some dx)) → H dx = some (exd dx acc) → a ≠ dx → acc.length + fs.length ≤ 900 → (∀ H', (∀ b, b ≠ dx → H' b = H b) → H' dx = some (exd dx ((fs.zip vs).reverse ++ acc)) → D.nx σ H') → tFl K j fs D σ H
  | [], j, vs, acc, H, _, _, _, hd, _, _, q => q H (fun _ _ => rfl) hd
  | f :: fs, j, [], acc, H, _, e, _, _, _, _, _ => by cases e
  | f :: fs, j, v :: vs, acc, H, hv, hl, ha, hd, hne, hz, q => by
    obtain ⟨n1, w, e1, e2⟩ := hv 0 f rfl
    have e1 : v = w := Option.some.inj e1
    subst e1
    simp only [List.length_cons] at hz hl
    refine ⟨v, e2, _, h0, a, C, rfl, T, n1, .inr ⟨dx, acc, ha, hd, by omega, ?_⟩⟩
    refine tFl_old T h0 fs (j + 1) vs ((f, v) :: acc) _ (fun k g e => ?_) (by omega) (by rw [upd_ne hne]; exact ha) upd_same hne (by simp only [List.length_cons]; omega) fun H' k hd' => ?_
    · obtain ⟨n2, u, e3, e4⟩ := hv (k + 1) g (by simpa using e)
      exact ⟨n2, u, by simpa using e3, by rw [Nat.add_assoc, Nat.add_comm 1 k]; exact e4⟩
    · refine q H' (fun b hb => by rw [k b hb, upd_ne hb]) ?_
      rw [hd']
      simp
end DIX

/-! DI.J5: the __init__ of such a class run; the class called -/
namespace DIX
open PySem PySem.Spec PyProof.Rows L2
/-- the whole body: super().__init__(f'..'), then the fields -/
def bodyB (me : Str) (fs : List Str) : List Stmt → Bool
  | .Expr (.Call (.Attribute (.Call (.Name s _) [] [] _) i apos) [.JoinedStr (v1 :: v2 :: vs) _] [] pos) _ :: sts =>
    decide (s = "super") && decide (i = "__init__") && (apos.endLine == pos.line) && fsB fs (v1 :: v2 :: vs) && decide (vs.length ≤ 100) && asgB me fs sts
  | _ => false
/-- the names that no word of these may be -/
def nameB (x : Str) : Bool := !(x == ("__debug__" : Str)) && !(x == ("__classdict__" : Str))
structure InitF (P : Program) (K : PySem.W.Frag) (mg : Str → Option Value) (C fI cda cc : Addr) (me : Str) (fs : List Str) (name qual : Str) (params : Arguments) (body : List Stmt) (scope : Scope) (oc : Value) (od : Option Addr) (osl : Array (Option Value)) (kV doc pm : Value) (an : Option Addr) (ct : Value) : Prop where
  lk : K.lookup fI = some ⟨oc, od, .func (PySem.W.fnX name qual params body scope [("__class__", cc)] .none kV doc pm an (.ref cda) ct), osl⟩
  cd : PySem.W.codeIn K (.ref cda) qual = true
  par : DI.plainPar params = true
  ps : params.args.map (·.arg) = me :: fs
  sc : NdefX.NScope (me :: fs ++ [("__class__" : Str)]) (me :: fs) [("__class__" : Str)] scope
  nm : (me :: fs).all nameB = true
  bd : bodyB me fs body = true
  ks : scope.names.lookup ("super" : Str) = some .globalImplicit
  cell : ∃ oc od osl, K.lookup cc = some ⟨oc, od, .cell (some (.ref C)), osl⟩
  file : ∃ oc od osl vs file tf, K.lookup cda = some ⟨oc, od, .fields vs, osl⟩ ∧ vs[2]? = some (.str file tf) ∧ ((P.main.file : Str) == file) = true
  top : (P.main.scope.names.lookup ("super" : Str)).isSome = false
  mg : mg "super" = none
  sup : PySem.W.ks_superIn K C C "__init__" = some (some (.builtin "Exception.__init__"))
  opq : PySem.W.nsIn K PySem.cStatics "thirdparty.any" = some none
  cls : OexX K C
  flds : ∀ f ∈ fs, PySem.W.findIn K (.ref C) f = some none
  fz : fs.length ≤ 100
  some_ : fs ≠ []
section
variable {P : Program} {w : World} {K : PySem.W.Frag} {mg : Str → Option Value} {base : Heap} {CX : CXT} {k : Nat} {C fI cda cc : Addr} {me : Str} {fs : List Str} {name qual : Str} {params : Arguments} {body : List Stmt} {scope : Scope} {oc : Value} {od : Option Addr} {osl : Array (Option Value)} {kV doc pm : Value} {an : Option Addr} {ct : Value}
theorem init_run (F : InitF P K mg C fI cda cc me fs name qual params body scope oc od osl kV doc pm an ct) {A : Around} {outer : List Env} {s : Shared} {H : Hp} {us : List Value} {vs : List V} {Q : VK} {E : XK} {a : Addr} (hr : Room (k + 1) A) (e0 : Env0 P w K mg base A outer s H)
    (ha : H a = some (exo a C none)) (r : Vals vs us) (hl : vs.length = fs.length) (hf : ∀ v ∈ vs, fmtB v = true)
    (hq : ∀ dx H', H dx = none → dx ≠ a → (∀ b, b ≠ dx → b ≠ a → H' b = H b) → H' a = some (exo a C (some dx)) → H' dx = some (exd dx (fs.zip vs).reverse) → Q .non H') :
    codeAny (model P w) A (.call (.ref fI) ⟨.ref a :: us, []⟩) (CR CX outer P w H s Q E) s := by
  have kin : K.In s.heap := e0.mod.kin.keeps fun b o e => (e0.bs b o e).1
  have lim : s.heap.NoLimit := e0.mod.nolimit.keeps fun b o e => (e0.bs b o e).1
  have S := F.sc
  have nd : (me :: fs).Nodup := by
    have := S.nd
    exact (List.nodup_append.mp this).1
  refine codeAny_call_function hr.depth (kin _ _ F.lk) rfl S.co S.gen rfl (PySem.W.codeRec_of kin F.cd) ?_
  have hl2 : (Value.ref a :: us).length = (me :: fs).length := by
    simp only [List.length_cons]; rw [← r.length, hl]
  obtain ⟨kk, b1, b2⟩ := DI.bind_gen (fd := PySem.W.fnX name qual params body scope [("__class__", cc)] .none kV doc pm an (.ref cda) ct) (us := .ref a :: us) F.par F.ps nd (Nat.le_of_eq hl2)
  have b3 := b2 none #[] rfl (Nat.zero_le _) (by show _ ≤ _ + 0; omega)
  have b4 : bindArgs (PySem.W.fnX name qual params body scope [("__class__", cc)] .none kV doc pm an (.ref cda) ct) ⟨.ref a :: us, []⟩ = pure ((me :: fs).zip (.ref a :: us)) := by
    rw [b1]
    show kk none = _
    rw [b3]
    simp
  rw [b4]
  let NF : NdefX.NF := ⟨name, qual, params, body, scope, [("__class__", cc)], cda⟩
  refine wpAny_pure (wpAny_newFunctionEnv S.nocell (fun ⟨n, _⟩ hy => S.par n (List.of_mem_zip hy).1) (fun h₁ hns hsb => ⟨lim.fresh _ hsb, ?_⟩) S.kind)
  show codeAny _ _ (.func NF.body (NdefX.envF NF fI s.heap.objs.size)) _ _
  refine ks_codeAny_funcAt ?_
  have kp : ∀ b o, s.heap.get? b = some o → h₁.get? b = some o := fun b o e => hsb.extBut b o (Nat.ne_of_lt (Heap.lt_size e)) (Heap.get?_push_of_some _ e)
  obtain ⟨oc3, od3, osl3, hcell⟩ := F.cell
  have rv : Vals (V.ref a :: vs) (Value.ref a :: us) := .cons rfl r
  have CA : NdefX.CellsAt NF.cl [("__class__" : Str)] [none] s.heap H := by
    have key : ∀ y c, NF.cl.lookup y = some c → y = ("__class__" : Str) ∧ c = cc := fun y c e => by
      have e : (match y == ("__class__" : Str) with | true => some cc | false => (none : Option Addr)) = some c := e
      cases q : (y == ("__class__" : Str)) with
      | true => rw [q] at e; exact ⟨beq_iff_eq.mp q, (Option.some.inj e).symm⟩
      | false => rw [q] at e; cases e
    refine ⟨rfl, fun y c e => ?_, fun x y c e1 e2 => (key x c e1).1.trans (key y c e2).1.symm, fun i y e => ?_⟩
    · obtain ⟨_, rfl⟩ := key y c e
      exact ⟨(e0.bs _ _ (e0.mod.kin _ _ hcell)).2, _, _, kin _ _ hcell, rfl⟩
    · cases i with
      | zero =>
        cases e
        exact ⟨cc, by simp [NF, List.lookup], fun v e => by cases e⟩
      | succ i => cases e
  have I := NdefX.inv_startN (CX := CX) (P := P) (w := w) (K := K) (mg := mg) (base := base) (F := NF) (f := fI) (E := E) (tk := s.toks + ((me :: fs).zip (Value.ref a :: us)).length) S hr.hd e0 (by simp only [List.length_cons]; rw [hl]) rv CA hns kp
  -- names
  have nmB : ∀ x, x ∈ me :: fs → (x == ("__debug__" : Str)) = false ∧ (x == ("__classdict__" : Str)) = false := fun x hx => by
    have := List.all_eq_true.mp F.nm x hx
    unfold nameB at this
    simp only [Bool.and_eq_true, Bool.not_eq_true'] at this
    exact this
  have visN : ∀ x, x ∈ me :: fs → Vis scope x := fun x hx => .inl (S.par x hx)
  have nAt : ∀ j x, fs[j]? = some x → (me :: fs ++ [("__class__" : Str)])[j + 1]? = some x := fun j x e => by
    show (fs ++ [_])[j]? = some x
    rw [List.getElem?_append_left (List.getElem?_eq_some_iff.mp e).1]; exact e
  have sAt : ∀ j v, vs[j]? = some v → (NdefX.startF (me :: fs ++ [("__class__" : Str)]) (V.ref a :: vs) [none])[j + 1]? = some (some v) := fun j v e => by
    show (vs.map some ++ _)[j]? = _
    rw [List.getElem?_append_left (by rw [List.length_map]; exact (List.getElem?_eq_some_iff.mp e).1), List.getElem?_map, e]; rfl
  have s0 : (NdefX.startF (me :: fs ++ [("__class__" : Str)]) (V.ref a :: vs) [none])[0]? = some (some (.ref a)) := rfl
  -- the body
  have hbd := F.bd
  cases hb : body with
  | nil => rw [hb] at hbd; cases hbd
  | cons st0 sts =>
    rw [hb] at hbd
    unfold bodyB at hbd
    split at hbd
    · rename_i sN sp sp2 iN apos v1 v2 vr jp cpos ep sts' hst
      cases hst
      simp only [Bool.and_eq_true, decide_eq_true_eq] at hbd
      obtain ⟨⟨⟨⟨⟨c1, c2⟩, c3⟩, c4⟩, c5⟩, c6⟩ := hbd
      subst c1 c2
      have ebody : NF.body = .Expr (.Call (.Attribute (.Call (.Name "super" sp) [] [] sp2) "__init__" apos) [.JoinedStr (v1 :: v2 :: vr) jp] [] cpos) ep :: sts := hb
      let X : Cx := NdefX.ncx CX P w K mg base (me :: fs ++ [("__class__" : Str)]) NF fI A outer s H E
      have hv : ∀ x, x ∈ fs → Vis X.env.scope x ∧ (x == ("__debug__" : Str)) = false ∧ (x == ("__classdict__" : Str)) = false ∧ ∃ j, X.N[j + 1]? = some x ∧ j < fs.length := fun x hx => by
        obtain ⟨j, hj, e⟩ := List.getElem_of_mem hx
        have e' : fs[j]? = some x := by rw [List.getElem?_eq_getElem hj, e]
        exact ⟨visN x (List.mem_cons_of_mem _ hx), (nmB x (List.mem_cons_of_mem _ hx)).1, (nmB x (List.mem_cons_of_mem _ hx)).2, j, nAt j x e', hj⟩
      obtain ⟨ts, pj, okp⟩ := fs_parts (X := X) hv (v1 :: v2 :: vr) c4
      have SF : SupF X C fI cda cc 0 me := ⟨rfl, rfl, F.ks, S.frk _ (List.mem_singleton.mpr rfl), by simp [X, NdefX.ncx, NdefX.envF, NF, List.lookup], by
          have e : params.posonlyargs = [] := by
            have := F.par
            unfold DI.plainPar at this
            simp only [Bool.and_eq_true, List.isEmpty_iff] at this
            exact this.1.1.1
          cases q : params.args with
          | nil => have := F.ps; rw [q] at this; cases this
          | cons ar rest =>
            refine ⟨oc, od, osl, _, ar, F.lk, by show (params.posonlyargs ++ params.args).head? = _; rw [e, q]; rfl, ?_⟩
            have := F.ps
            rw [q] at this
            exact (List.cons.inj this).1, rfl, S.par me (List.mem_cons_self ..), F.file, F.top, F.cell, F.mg, F.sup, F.opq⟩
      have hvs : ∀ j, j < fs.length → ∃ v, (NdefX.startF (me :: fs ++ [("__class__" : Str)]) (V.ref a :: vs) [none])[j + 1]? = some (some v) ∧ fmtB v = true := fun j hj => by
        have hj' : j < vs.length := by omega
        exact ⟨vs[j], sAt j _ (List.getElem?_eq_getElem hj'), hf _ (List.getElem_mem hj')⟩
      rw [ebody]
      refine ks_wpAt_execs_cons (ks_wpAt_Expr_any ?_ (I.quiet) rfl)
      refine super_init (X := X) SF F.cls I ha s0 (pe_joined pj) rfl c3 ?_
      refine okp _ _ _ _ hvs ?_ fun out => ⟨ha, by decide, fun s1 I1 => ?_⟩
      · have : (Str.empty).length = 0 := rfl
        rw [this, sizeLine_eq]
        simp only [List.length_cons]
        omega
      · refine _root_.PySem.wpAt_of_wpAny ?_
        have hfl := pss_fl (X := X) (me := me) rfl ⟨visN me (List.mem_cons_self ..), (nmB me (List.mem_cons_self ..)).1, (nmB me (List.mem_cons_self ..)).2⟩ fs 1 (fun j x e => by
          refine ⟨by rw [Nat.add_comm 1 j]; exact nAt j x e, visN x (List.mem_cons_of_mem _ (List.mem_of_getElem? e)), nmB x (List.mem_cons_of_mem _ (List.mem_of_getElem? e))⟩) c6
        have rd : tFl K 1 fs { nx := fun _ H' => Q .non H', rt := Q } (NdefX.startF (me :: fs ++ [("__class__" : Str)]) (V.ref a :: vs) [none]) H := by
          cases hfs : fs with
          | nil => exact absurd hfs F.some_
          | cons f0 fr =>
            cases hvv : vs with
            | nil => rw [hfs, hvv] at hl; cases hl
            | cons v0 vr =>
              have w0 := sAt 0 v0 (by rw [hvv]; rfl)
              rw [hfs, hvv] at w0
              refine ⟨v0, w0, _, rfl, a, C, rfl, F.cls, F.flds f0 (by rw [hfs]; exact List.mem_cons_self ..), .inl ⟨ha, fun dx hn hne => ?_⟩⟩
              refine tFl_old F.cls rfl fr 2 vr [(f0, v0)] _ (fun j g e => ?_) ?_ upd_same (by rw [upd_ne hne]; exact upd_same) (Ne.symm hne) ?_ fun H' k hd => ?_
              · refine ⟨F.flds g (by rw [hfs]; exact List.mem_cons_of_mem _ (List.mem_of_getElem? e)), ?_⟩
                have hlt : j < vr.length := by
                  have := (List.getElem?_eq_some_iff.mp e).1
                  rw [hfs, hvv] at hl
                  simp only [List.length_cons] at hl
                  omega
                refine ⟨vr[j], List.getElem?_eq_getElem hlt, ?_⟩
                have := sAt (j + 1) vr[j] (by rw [hvv]; simp)
                rw [hfs, hvv] at this
                rw [Nat.add_comm 2 j]
                exact this
              · rw [hfs, hvv] at hl
                simp only [List.length_cons] at hl
                omega
              · have := F.fz
                rw [hfs] at this
                simp only [List.length_cons] at this ⊢
                simp only [List.length_nil]
                omega
              · refine hq dx H' hn hne (fun b h1 h2 => by rw [k b h1, upd_ne h2, upd_ne h1]) (by rw [k a (Ne.symm hne)]; exact upd_same) ?_
                rw [hd, hfs, hvv]
                simp
        refine thn (hfl.run [] s1 _ H _ I1 rd) fun fl s' hs => ?_
        have fin : ∀ {σ' : L2.St} {H' : Hp} {v : V} {u : Value}, Inv X [] σ' H' s' → RelV v u → Q v H' → CE outer P w H s Q u s' := fun {σ' H' v u} J rv q => ⟨v, H', J.os, J.bare, J.base, J.hok, rv, q⟩
        cases fl with
        | ret u =>
          obtain ⟨v, σ', H', J, rv, q⟩ := hs
          exact fin J rv q
        | next =>
          obtain ⟨σ', H', J, q⟩ := hs
          exact fin (v := V.non) (u := Value.none) J rfl q
        | brk => obtain ⟨_, _, _, q⟩ := hs; exact False.elim q
        | cont => obtain ⟨_, _, _, q⟩ := hs; exact False.elim q
    · cases hbd
end
end DIX

/-! DI.J6: the class called, as what is raised -/
namespace DIX
open PySem PySem.Spec PyProof.Rows L2
section
variable {X : Cx} {k : Nat} {C fI cda cc : Addr} {me : Str} {fs : List Str} {name qual : Str} {params : Arguments} {body : List Stmt} {scope : Scope} {oc : Value} {od : Option Addr} {osl : Array (Option Value)} {kV doc pm : Value} {an : Option Addr} {ct : Value} {x : Str} {p pos : Pos} {e : Expr} {es : List Expr} {ta : TA}
def tMkX (C : Addr) (fs : List Str) (ta : TA) : L2.St → Hp → XK → Prop := fun σ H Q => ta σ H fun vs H1 => vs.length = fs.length ∧ (∀ v ∈ vs, fmtB v = true) ∧ ∀ dx, H1 dx = none → Q (.ref C) (some dx) (upd H1 dx (.xd (fs.zip vs).reverse))
theorem pmk_x (F : InitF X.prog X.K X.mg C fI cda cc me fs name qual params body scope oc od osl kV doc pm an ct) (iC : PySem.W.findIn X.K (.ref C) "__init__" = some (some (.ref fI))) (tI : PySem.W.typeIn X.K (.ref fI) = some (.type "function"))
    (hr : Room (k + 2) X.A) (hg : Gl X x) (hm : X.mg x = some (.ref C)) (hdb : (x == ("__debug__" : Str)) = false) (ha : PA X (e :: es) ta) (he : starEach (e :: es) X.env = (false, eval e X.env) :: starEach es X.env) (hpl : (backTo pos (starEach es X.env)).any (·.1) = false) :
    PMk X (.Call (.Name x p) (e :: es) [] pos) (tMkX C fs ta) := by
  intro pins s σ H Q I h
  have T := F.cls
  obtain ⟨nm, q, N, bs, bm, sn, sub, ab, col, dd, k0, k1, k2, k3, k5, hC, hbm⟩ := T.cls
  refine wpAny_Call_Name_kw (ld_glob I hg hm ?_ hdb)
  refine PySem.W.callWith_K (h₀ := X.base) I.ok.mod.kin T.kC (thn (ha.run pos pins s σ H _ I h) fun us s1 ⟨vs, H1, I1, r1, hl, hf, q1⟩ => ⟨I1.kIn, ?_⟩) he hpl
  show wpAny _ _ (call (.ref C) us) _ _ _
  obtain ⟨hp, g, dr, tk, os⟩ := s1
  have hsz : hp.objs.size ≤ hp.objs.size + 1 := Nat.le_succ _
  have hn : H1 (hp.objs.size + 1) = none := I1.hok.fresh hsz
  have kk : ∀ b o, hp.get? b = some o → ((hp.push (PySem.W.kdv_tup us)).push (PySem.HandSPX.excO C hp.objs.size)).get? b = some o := fun b o e => Heap.get?_push_of_some _ (Heap.get?_push_of_some _ e)
  have hget : ((hp.push (PySem.W.kdv_tup us)).push (PySem.HandSPX.excO C hp.objs.size)).get? (hp.objs.size + 1) = some (PySem.HandSPX.excO C hp.objs.size) := by heap_get
  have I2 : Inv X pins σ (upd H1 (hp.objs.size + 1) (exo (hp.objs.size + 1) C none)) ⟨(hp.push (PySem.W.kdv_tup us)).push (PySem.HandSPX.excO C hp.objs.size), g, dr, tk, os⟩ :=
    I1.laid (t' := tk) (a := hp.objs.size + 1) (o := exo (hp.objs.size + 1) C none) (h' := (hp.push (PySem.W.kdv_tup us)).push (PySem.HandSPX.excO C hp.objs.size)) kk hsz (exo_ok hget)
  have hus : us.length ≤ sizeLine := by
    rw [← r1.length, hl]
    exact Nat.le_trans F.fz (by decide)
  have run := init_run (w := X.w) (base := X.base) (CX := CX0) (k := k) F (A := X.A.under (.builtin "type.__call__" ⟨.ref C :: us, []⟩)) (outer := X.stack) (s := ⟨(hp.push (PySem.W.kdv_tup us)).push (PySem.HandSPX.excO C hp.objs.size), g, dr, tk, os⟩)
    (H := upd H1 (hp.objs.size + 1) (exo (hp.objs.size + 1) C none)) (us := us) (vs := vs) (a := hp.objs.size + 1) (E := fun _ _ _ => False)
    (Q := fun v H2 => v = .non ∧ ∃ (d : Addr) (fz : List (Str × V)), H2 (hp.objs.size + 1) = some (exo (hp.objs.size + 1) C (some d)) ∧ H2 d = some (exd d fz) ∧ H1 d = none ∧ Q (.ref C) (some d) (upd (del H2 (hp.objs.size + 1)) d (.xd fz)))
    (hr.make C us []) (I2.env0.make C us []) upd_same r1 hl hf fun dx H' h1 h2 h3 h4 h5 => by
      have hd : H1 dx = none := by rw [upd_ne h2] at h1; exact h1
      refine ⟨rfl, dx, _, h4, h5, hd, ?_⟩
      have e : upd (del H' (hp.objs.size + 1)) dx (.xd (fs.zip vs).reverse) = upd H1 dx (.xd (fs.zip vs).reverse) := by
        funext b
        by_cases hb : b = dx
        · rw [hb, upd_same, upd_same]
        · rw [upd_ne hb, upd_ne hb]
          by_cases hb2 : b = hp.objs.size + 1
          · rw [hb2, del_same, hn]
          · rw [del_ne hb2, h3 b hb hb2, upd_ne hb2]
      rw [e]
      exact q1 dx hd
  refine wpAny_call (PySem.HandSPX.call_own PySem.F.excBase_Exception (fun Y => refsEx_has Y bm hbm) (I1.kIn _ _ hC) (PySem.W.looks_findIn I1.kIn iC) (fun self => PySem.W.bind_fn I1.kIn self tI) hus (codeAny_mono run fun r s' hq' => ?_))
  cases r with
  | error er => exact pass0 pins σ _ _ er s' I2 hq'
  | ok fl =>
    cases fl with
    | ret u =>
      obtain ⟨v, H2, os2, bare2, un2, hok2, rv, ev, d, fz, ea, ed, hd1, q2⟩ := hq'
      subst ev
      obtain ⟨h2, g2, d2, t2, os'⟩ := s'
      exact ⟨rv, mk_end (raises_own T.exC T.tyC) I1 hsz kk un2 hok2 os2 bare2 ea ed hd1 q2⟩
    | next => exact False.elim hq'
    | brk => exact False.elim hq'
    | cont => exact False.elim hq'
end
end DIX

/-! DI.B: how data stand in the abstract heap -/
namespace DI
open PySem PySem.Spec PyProof.Rows L2

/-- what data lean on besides the heap: the written part, the classes' addresses -/
structure Gx where
  K : PySem.W.Frag
  ca : Nat → Addr
  xa : Nat → Addr
section
variable (g : Gx) (H : Hp) (Z : Addr → Prop)
mutual
/-- the data d stand as v; Z: the things that may change -/
inductive RD : D → V → Prop
  | non : RD .non .non
  | bl (b : Bool) : RD (.bl b) (.bl b)
  | int (i : Int) : RD (.int i) (.int i)
  | str (x : Str) : RD (.str x) (.str x)
  | tup {a : Addr} {vs : List V} {xs : List D} (h : H a = some (.tup vs)) (z : ¬ Z a) (r : RDs xs vs) : RD (.tup xs) (.ref a)
  | ktup {a : Addr} {vs : List V} {xs : List D} (h : ∃ (o : Obj) (its : Array Value) (n : Nat), g.K.lookup a = some o ∧ o.cls = .type "tuple" ∧ o.data = .seq its n ∧ its.size ≤ sizeLine ∧ Vals vs its.toList) (r : RDs xs vs) : RD (.tup xs) (.ref a)
  | lst {a : Addr} {vs : List V} {xs : List D} (h : H a = some (.lst vs)) (z : ¬ Z a) (r : RDs xs vs) : RD (.lst xs) (.ref a)
  | ins {a dx : Addr} {c : Nat} {vs : List (Str × V)} {fs : List (Str × D)} (h : H a = some (.ins (g.ca c) dx vs)) (z : ¬ Z a) (r : RDf fs vs) : RD (.ins c fs) (.ref a)
  | scr {a : Addr} {ns : List Int} {o : Obj} (h : H a = some (.frz o (.lst (ns.map V.int)))) (z : ¬ Z a) : RD (.scr ns) (.ref a)
  | kscr {a : Addr} {ns : List Int} (h : ∃ (o : Obj) (its : Array Value) (n : Nat), g.K.lookup a = some o ∧ o.cls = .type "list" ∧ o.dict = none ∧ o.data = .seq its n ∧ its.size ≤ sizeLine ∧ Vals (ns.map V.int) its.toList) : RD (.scr ns) (.ref a)
  | cls (c : Nat) : RD (.cls c) (.ref (g.ca c))
inductive RDs : List D → List V → Prop
  | nil : RDs [] []
  | cons {d : D} {v : V} {ds : List D} {vs : List V} (h : RD d v) (r : RDs ds vs) : RDs (d :: ds) (v :: vs)
inductive RDf : List (Str × D) → List (Str × V) → Prop
  | nil : RDf [] []
  | cons {f : Str} {d : D} {v : V} {ds : List (Str × D)} {vs : List (Str × V)} (h : RD d v) (r : RDf ds vs) : RDf ((f, d) :: ds) ((f, v) :: vs)
end
end

section
variable {g : Gx} {H H' : Hp} {Z Z' : Addr → Prop}
mutual
theorem RD.mono (k : ∀ a o, H a = some o → ¬ Z a → H' a = some o) (z : ∀ a o, H a = some o → ¬ Z a → ¬ Z' a) : ∀ {d : D} {v : V}, RD g H Z d v → RD g H' Z' d v
  | _, _, .non => .non
  | _, _, .bl b => .bl b
  | _, _, .int i => .int i
  | _, _, .str x => .str x
  | _, _, .tup h n r => .tup (k _ _ h n) (z _ _ h n) (RDs.mono k z r)
  | _, _, .ktup h r => .ktup h (RDs.mono k z r)
  | _, _, .lst h n r => .lst (k _ _ h n) (z _ _ h n) (RDs.mono k z r)
  | _, _, .ins h n r => .ins (k _ _ h n) (z _ _ h n) (RDf.mono k z r)
  | _, _, .scr h n => .scr (k _ _ h n) (z _ _ h n)
  | _, _, .kscr h => .kscr h
  | _, _, .cls c => .cls c
theorem RDs.mono (k : ∀ a o, H a = some o → ¬ Z a → H' a = some o) (z : ∀ a o, H a = some o → ¬ Z a → ¬ Z' a) : ∀ {ds : List D} {vs : List V}, RDs g H Z ds vs → RDs g H' Z' ds vs
  | _, _, .nil => .nil
  | _, _, .cons h r => .cons (RD.mono k z h) (RDs.mono k z r)
theorem RDf.mono (k : ∀ a o, H a = some o → ¬ Z a → H' a = some o) (z : ∀ a o, H a = some o → ¬ Z a → ¬ Z' a) : ∀ {ds : List (Str × D)} {vs : List (Str × V)}, RDf g H Z ds vs → RDf g H' Z' ds vs
  | _, _, .nil => .nil
  | _, _, .cons h r => .cons (RD.mono k z h) (RDf.mono k z r)
end
theorem RDs.length : ∀ {ds : List D} {vs : List V}, RDs g H Z ds vs → ds.length = vs.length
  | _, _, .nil => rfl
  | _, _, .cons _ r => congrArg Nat.succ r.length
theorem RDs.append : ∀ {ds es : List D} {vs ws : List V}, RDs g H Z ds vs → RDs g H Z es ws → RDs g H Z (ds ++ es) (vs ++ ws)
  | _, _, _, _, .nil, s => s
  | _, _, _, _, .cons h r, s => .cons h (r.append s)
theorem RDs.get : ∀ {ds : List D} {vs : List V} {i : Nat} {d : D}, RDs g H Z ds vs → ds[i]? = some d → ∃ v, vs[i]? = some v ∧ RD g H Z d v
  | _, _, _, _, .nil, e => by simp at e
  | _, _, 0, _, .cons h _, e => by simp at e; subst e; exact ⟨_, rfl, h⟩
  | _, _, i + 1, _, .cons _ r, e => by
    obtain ⟨v, h1, h2⟩ := r.get (i := i) (by simpa using e)
    exact ⟨v, by simpa using h1, h2⟩
theorem RDs.getV : ∀ {ds : List D} {vs : List V} {i : Nat} {v : V}, RDs g H Z ds vs → vs[i]? = some v → ∃ d, ds[i]? = some d ∧ RD g H Z d v
  | _, _, _, _, .nil, e => by simp at e
  | _, _, 0, _, .cons h _, e => by simp at e; subst e; exact ⟨_, rfl, h⟩
  | _, _, i + 1, _, .cons _ r, e => by
    obtain ⟨v, h1, h2⟩ := r.getV (i := i) (by simpa using e)
    exact ⟨v, by simpa using h1, h2⟩
theorem RDs.set {d : D} {v : V} (h : RD g H Z d v) : ∀ {ds : List D} {vs : List V} (i : Nat), RDs g H Z ds vs → RDs g H Z (ds.set i d) (vs.set i v)
  | _, _, _, .nil => .nil
  | _, _, 0, .cons _ r => .cons h r
  | _, _, i + 1, .cons q r => .cons q (RDs.set h i r)
theorem RDs.dropLast : ∀ {ds : List D} {vs : List V}, RDs g H Z ds vs → RDs g H Z ds.dropLast vs.dropLast
  | _, _, .nil => .nil
  | _, _, .cons _ .nil => .nil
  | _, _, .cons h (.cons q r) => .cons h (RDs.dropLast (.cons q r))
theorem RDs.rev {ds : List D} {vs : List V} (h : RDs g H Z ds vs) : RDs g H Z ds.reverse vs.reverse := by
  induction h using RDs.rec (motive_1 := fun _ _ _ => True) (motive_3 := fun _ _ _ => True) with
  | nil => exact .nil
  | cons h r _ ih => rw [List.reverse_cons, List.reverse_cons]; exact ih.append (.cons h .nil)
  | _ => trivial
theorem RDs.drop : ∀ {ds : List D} {vs : List V} (n : Nat), RDs g H Z ds vs → RDs g H Z (ds.drop n) (vs.drop n)
  | _, _, 0, r => r
  | _, _, _ + 1, .nil => .nil
  | _, _, n + 1, .cons _ r => RDs.drop n r
theorem RDs.take : ∀ {ds : List D} {vs : List V} (n : Nat), RDs g H Z ds vs → RDs g H Z (ds.take n) (vs.take n)
  | _, _, 0, _ => .nil
  | _, _, _ + 1, .nil => .nil
  | _, _, n + 1, .cons h r => .cons h (RDs.take n r)
theorem RDs.rep {ds : List D} {vs : List V} (h : RDs g H Z ds vs) : ∀ n : Nat, RDs g H Z (List.replicate n ds).flatten (List.replicate n vs).flatten
  | 0 => .nil
  | n + 1 => by rw [List.replicate_succ, List.replicate_succ, List.flatten_cons, List.flatten_cons]; exact h.append (h.rep n)
theorem RDs.cut {ds : List D} {vs : List V} (h : RDs g H Z ds vs) (lo hi : Option Int) : RDs g H Z (cutD ds lo hi) (L2.cutV vs lo hi) := by
  unfold cutD L2.cutV
  rw [h.length]
  exact (h.drop _).take _
theorem RDs.atI {ds : List D} {vs : List V} {i : Int} {d : D} (h : RDs g H Z ds vs) (e : L2.atI ds i = some d) : ∃ v, L2.atI vs i = some v ∧ RD g H Z d v := by
  unfold L2.atI at e ⊢
  rw [h.length] at e
  cases q : L2.ixN vs.length i with
  | none => rw [q] at e; cases e
  | some j =>
    rw [q] at e
    obtain ⟨v, h1, h2⟩ := h.get (i := j) e
    exact ⟨v, h1, h2⟩
theorem RDf.keys : ∀ {fs : List (Str × D)} {vs : List (Str × V)}, RDf g H Z fs vs → fs.length = vs.length
  | _, _, .nil => rfl
  | _, _, .cons _ r => congrArg Nat.succ r.keys
theorem RDf.look {f : Str} : ∀ {fs : List (Str × D)} {vs : List (Str × V)} {d : D}, RDf g H Z fs vs → fs.lookup f = some d → ∃ v, vs.lookup f = some v ∧ RD g H Z d v
  | _, _, _, .nil, e => by cases e
  | (x, d) :: fs, (_, v) :: vs, d', .cons h r, e => by
    rw [List.lookup_cons] at e ⊢
    cases q : (f == x) with
    | true => rw [q] at e; cases e; exact ⟨_, rfl, h⟩
    | false => rw [q] at e; exact r.look e
theorem RDf.look_none {f : Str} : ∀ {fs : List (Str × D)} {vs : List (Str × V)}, RDf g H Z fs vs → fs.lookup f = none → vs.lookup f = none
  | _, _, .nil, _ => rfl
  | (x, d) :: fs, (_, v) :: vs, .cons h r, e => by
    rw [List.lookup_cons] at e ⊢
    cases q : (f == x) with
    | true => rw [q] at e; cases e
    | false => rw [q] at e; exact r.look_none e
theorem RDf.put {f : Str} {d : D} {v : V} (h : RD g H Z d v) : ∀ {fs : List (Str × D)} {vs : List (Str × V)}, RDf g H Z fs vs → RDf g H Z (putD f d fs) (L2.putF f v vs)
  | _, _, .nil => .cons h .nil
  | (x, _) :: fs, (_, _) :: vs, .cons q r => by
    unfold putD L2.putF
    by_cases e : x = f
    · rw [if_pos e, if_pos e]; exact .cons h r
    · rw [if_neg e, if_neg e]; exact .cons q (RDf.put h r)
end

/-! ### the store -/
def Live (M : Sto) (μ : List Addr) (a : Addr) : Prop := ∃ (k : Nat) (d : D), M[k]? = some (.live d) ∧ μ[k]? = some a
def Zof (Z0 : Addr → Prop) (M : Sto) (μ : List Addr) : Addr → Prop := fun a => Live M μ a ∨ Z0 a
/-- a thing under change -/
inductive RO (g : Gx) (H : Hp) (Z : Addr → Prop) : D → HO → Prop
  | lst {xs : List D} {vs : List V} (r : RDs g H Z xs vs) : RO g H Z (.lst xs) (.lst vs)
  | ins {c : Nat} {dx : Addr} {fs : List (Str × D)} {vs : List (Str × V)} (r : RDf g H Z fs vs) : RO g H Z (.ins c fs) (.ins (g.ca c) dx vs)
structure RM (g : Gx) (Z0 : Addr → Prop) (M : Sto) (μ : List Addr) (H : Hp) : Prop where
  len : μ.length = M.length
  inj : ∀ (i j : Nat) (d e : D) (a : Addr), M[i]? = some (.live d) → M[j]? = some (.live e) → μ[i]? = some a → μ[j]? = some a → i = j
  live : ∀ (k : Nat) (d : D) (a : Addr), M[k]? = some (.live d) → μ[k]? = some a → ¬ Z0 a ∧ ∃ o, H a = some o ∧ RO g H (Zof Z0 M μ) d o
  dead : ∀ (k : Nat) (d : D) (a : Addr), M[k]? = some (.dead d) → μ[k]? = some a → ¬ Zof Z0 M μ a ∧ ∃ o, H a = some o ∧ RO g H (Zof Z0 M μ) d o
  z0 : ∀ a, Z0 a → H a ≠ none
structure Stp (M : Sto) (μ : List Addr) (H : Hp) (M' : Sto) (μ' : List Addr) (H' : Hp) : Prop where
  pre : ∃ ν, μ' = μ ++ ν
  len : M.length ≤ M'.length
  keep : ∀ a o, H a = some o → ¬ Live M μ a → H' a = some o
  dom : ∀ a, H a ≠ none → H' a ≠ none
  new : ∀ a, Live M' μ' a → Live M μ a ∨ H a = none
  dead : ∀ (k : Nat) (d : D), M[k]? = some (.dead d) → M'[k]? = some (.dead d)
section
variable {g : Gx} {Z0 : Addr → Prop} {M M1 M2 M' : Sto} {μ μ1 μ2 μ' : List Addr} {H H1 H2 H' : Hp}
theorem RO.rd {Z : Addr → Prop} {a : Addr} {d : D} {o : HO} (r : RO g H Z d o) (h : H a = some o) (n : ¬ Z a) : RD g H Z d (.ref a) := by
  cases r with
  | lst q => exact .lst h n q
  | ins q => exact .ins h n q
theorem RO.mono {Z Z' : Addr → Prop} {d : D} {o : HO} (k : ∀ a o, H a = some o → ¬ Z a → H' a = some o) (z : ∀ a o, H a = some o → ¬ Z a → ¬ Z' a) (r : RO g H Z d o) : RO g H' Z' d o := by
  cases r with
  | lst q => exact .lst (q.mono k z)
  | ins q => exact .ins (q.mono k z)
theorem RM.deadD (r : RM g Z0 M μ H) {k : Nat} {d : D} {a : Addr} (e : M[k]? = some (.dead d)) (ea : μ[k]? = some a) : RD g H (Zof Z0 M μ) d (.ref a) := by
  obtain ⟨n, o, h, q⟩ := r.dead k d a e ea
  exact q.rd h n
theorem RM.zdom (r : RM g Z0 M μ H) {a : Addr} (z : Zof Z0 M μ a) : H a ≠ none := by
  rcases z with ⟨k, d, e1, e2⟩ | z
  · obtain ⟨_, o, h, _⟩ := r.live k d a e1 e2
    rw [h]; exact fun q => nomatch q
  · exact r.z0 a z
theorem Stp.refl : Stp M μ H M μ H := ⟨⟨[], by simp⟩, Nat.le_refl _, fun _ _ h _ => h, fun _ h => h, fun _ h => .inl h, fun _ _ h => h⟩
theorem Stp.trans (a : Stp M μ H M1 μ1 H1) (b : Stp M1 μ1 H1 M2 μ2 H2) : Stp M μ H M2 μ2 H2 where
  pre := by
    obtain ⟨x, rfl⟩ := a.pre
    obtain ⟨y, rfl⟩ := b.pre
    exact ⟨x ++ y, by simp⟩
  len := Nat.le_trans a.len b.len
  keep := fun c o h n => by
    refine b.keep c o (a.keep c o h n) fun z => ?_
    rcases a.new c z with q | q
    · exact n q
    · rw [h] at q; cases q
  dom := fun c h => b.dom c (a.dom c h)
  new := fun c z => by
    rcases b.new c z with q | q
    · exact a.new c q
    · by_cases e : H c = none
      · exact .inr e
      · exact absurd q (a.dom c e)
  dead := fun k d h => b.dead k d (a.dead k d h)
theorem Stp.rd (s : Stp M μ H M' μ' H') {d : D} {v : V} (h : RD g H (Zof Z0 M μ) d v) : RD g H' (Zof Z0 M' μ') d v := by
  refine h.mono (fun a o e n => s.keep a o e fun z => n (.inl z)) fun a o e n z => ?_
  rcases z with z | z
  · rcases s.new a z with q | q
    · exact n (.inl q)
    · rw [e] at q; cases q
  · exact n (.inr z)
theorem Stp.rds (s : Stp M μ H M' μ' H') {d : List D} {v : List V} (h : RDs g H (Zof Z0 M μ) d v) : RDs g H' (Zof Z0 M' μ') d v := by
  refine h.mono (fun a o e n => s.keep a o e fun z => n (.inl z)) fun a o e n z => ?_
  rcases z with z | z
  · rcases s.new a z with q | q
    · exact n (.inl q)
    · rw [e] at q; cases q
  · exact n (.inr z)
theorem Stp.rdf (s : Stp M μ H M' μ' H') {d : List (Str × D)} {v : List (Str × V)} (h : RDf g H (Zof Z0 M μ) d v) : RDf g H' (Zof Z0 M' μ') d v := by
  refine h.mono (fun a o e n => s.keep a o e fun z => n (.inl z)) fun a o e n z => ?_
  rcases z with z | z
  · rcases s.new a z with q | q
    · exact n (.inl q)
    · rw [e] at q; cases q
  · exact n (.inr z)
theorem Stp.at_ (s : Stp M μ H M' μ' H') {k : Nat} {a : Addr} (h : μ[k]? = some a) : μ'[k]? = some a := by
  obtain ⟨ν, rfl⟩ := s.pre
  rw [List.getElem?_append_left (List.getElem?_eq_some_iff.mp h).1]; exact h
/-- only new things -/
def Grow (H H' : Hp) : Prop := ∀ a o, H a = some o → H' a = some o
theorem Grow.refl : Grow H H := fun _ _ h => h
theorem Grow.trans (a : Grow H H1) (b : Grow H1 H2) : Grow H H2 := fun c o h => b c o (a c o h)
theorem Grow.new {p : Addr} {o : HO} (h : H p = none) : Grow H (upd H p o) := fun a u e => by rw [upd_ne (ne_of_none e h)]; exact e
theorem Grow.dom (s : Grow H H') {a : Addr} (h : H a ≠ none) : H' a ≠ none := by
  cases e : H a with
  | none => exact absurd e h
  | some o => rw [s a o e]; exact fun q => nomatch q
theorem Grow.stp (s : Grow H H') (r : RM g Z0 M μ H) : Stp M μ H M μ H' :=
  ⟨⟨[], by simp⟩, Nat.le_refl _, fun a o h _ => s a o h, fun _ h => s.dom h, fun _ h => .inl h, fun _ _ h => h⟩
theorem Grow.rd {Z : Addr → Prop} (s : Grow H H') {d : D} {v : V} (h : RD g H Z d v) : RD g H' Z d v := h.mono (fun a o e _ => s a o e) fun _ _ _ n => n
theorem Grow.rds {Z : Addr → Prop} (s : Grow H H') {d : List D} {v : List V} (h : RDs g H Z d v) : RDs g H' Z d v := h.mono (fun a o e _ => s a o e) fun _ _ _ n => n
theorem Grow.rdf {Z : Addr → Prop} (s : Grow H H') {d : List (Str × D)} {v : List (Str × V)} (h : RDf g H Z d v) : RDf g H' Z d v := h.mono (fun a o e _ => s a o e) fun _ _ _ n => n
theorem Grow.ro {Z : Addr → Prop} (s : Grow H H') {d : D} {o : HO} (h : RO g H Z d o) : RO g H' Z d o := by
  cases h with
  | lst r => exact .lst (s.rds r)
  | ins r => exact .ins (s.rdf r)
theorem Grow.rm (s : Grow H H') (r : RM g Z0 M μ H) : RM g Z0 M μ H' :=
  ⟨r.len, r.inj, fun k d a h1 h2 => by
    obtain ⟨z, o, h, q⟩ := r.live k d a h1 h2
    exact ⟨z, o, s a o h, s.ro q⟩, fun k d a h1 h2 => by
    obtain ⟨z, o, h, q⟩ := r.dead k d a h1 h2
    exact ⟨z, o, s a o h, s.ro q⟩, fun a z => s.dom (r.z0 a z)⟩
theorem Stp.ro (s : Stp M μ H M' μ' H') {d : D} {o : HO} (h : RO g H (Zof Z0 M μ) d o) : RO g H' (Zof Z0 M' μ') d o := by
  cases h with
  | lst r => exact .lst (s.rds r)
  | ins r => exact .ins (s.rdf r)
end

/-! ### results, slots -/
/-- what stands for a result -/
inductive RR (g : Gx) (Z0 : Addr → Prop) (M : Sto) (μ : List Addr) (H : Hp) : RV → V → Prop
  | p {fr : Bool} {d : D} {v : V} (h : RD g H (Zof Z0 M μ) d v) : RR g Z0 M μ H (.p fr d) v
  | own {k : Nat} {a : Addr} (h : μ[k]? = some a) : RR g Z0 M μ H (.own k) (.ref a)
inductive RRs (g : Gx) (Z0 : Addr → Prop) (M : Sto) (μ : List Addr) (H : Hp) : List RV → List V → Prop
  | nil : RRs g Z0 M μ H [] []
  | cons {a : RV} {v : V} {as : List RV} {vs : List V} (h : RR g Z0 M μ H a v) (r : RRs g Z0 M μ H as vs) : RRs g Z0 M μ H (a :: as) (v :: vs)
def Zand (Z0 : Addr → Prop) (b : Addr) : Addr → Prop := fun a => Z0 a ∨ a = b
/-- the object of d at b, its parts known without b -/
def FO (g : Gx) (Z0 : Addr → Prop) (M : Sto) (μ : List Addr) (H : Hp) (b : Addr) (d : D) : Prop := (∀ xs, d ≠ .tup xs) → ∃ o, H b = some o ∧ RO g H (Zof (Zand Z0 b) M μ) d o
/-- a new thing, known to nothing else; Hs: the heap at the start -/
def Fr (g : Gx) (Z0 : Addr → Prop) (M : Sto) (μ : List Addr) (Hs H : Hp) (a : RV) (v : V) : Prop := ∀ d, a = .p true d → ∀ b, v = .ref b → Hs b = none ∧ RM g (Zand Z0 b) M μ H ∧ FO g Z0 M μ H b d
/-- an exception: its own dict at dx -/
def RX (g : Gx) (Z0 : Addr → Prop) (M : Sto) (μ : List Addr) (H : Hp) (x : Ex) (dx : Addr) : Prop := ∃ vs, H dx = some (.xd vs) ∧ ¬ Zof Z0 M μ dx ∧ RDf g H (Zof Z0 M μ) x.fs vs
/-- what a name holds; pn: the pins (a caught exception's object) -/
inductive RN (g : Gx) (pn : List (Addr × Obj)) (Z0 : Addr → Prop) (M : Sto) (μ : List Addr) (H : Hp) : DV → V → Prop
  | p {d : D} {v : V} (h : RD g H (Zof Z0 M μ) d v) : RN g pn Z0 M μ H (.p d) v
  | own {k : Nat} {a : Addr} (h : μ[k]? = some a) : RN g pn Z0 M μ H (.own k) (.ref a)
  | exc {x : Ex} {a dx : Addr} {oe : Obj} (hp : (a, oe) ∈ pn) (hz : Zc (.ref (g.xa x.c)) (some dx) oe) (hd : ∃ vs, oe.data = .fields vs) (r : RX g Z0 M μ H x dx) : RN g pn Z0 M μ H (.exc x) (.ref a)
structure RSl (g : Gx) (pn : List (Addr × Obj)) (Z0 : Addr → Prop) (M : Sto) (μ : List Addr) (H : Hp) (sl : Slots) (σ : L2.St) : Prop where
  len : sl.length = σ.length
  at_ : ∀ (i : Nat) (x : DV), sl[i]? = some (some x) → ∃ v, σ[i]? = some (some v) ∧ RN g pn Z0 M μ H x v
section
variable {g : Gx} {pn : List (Addr × Obj)} {Z0 : Addr → Prop} {M M1 M2 M' : Sto} {μ μ1 μ2 μ' : List Addr} {H H1 H2 H' Hs Hs' : Hp} {sl : Slots} {σ : L2.St}
theorem Stp.rx (s : Stp M μ H M' μ' H') {x : Ex} {dx : Addr} (h : RX g Z0 M μ H x dx) : RX g Z0 M' μ' H' x dx := by
  obtain ⟨vs, h1, h2, h3⟩ := h
  refine ⟨vs, s.keep _ _ h1 fun z => h2 (.inl z), fun z => ?_, s.rdf h3⟩
  rcases z with z | z
  · rcases s.new _ z with q | q
    · exact h2 (.inl q)
    · rw [h1] at q; cases q
  · exact h2 (.inr z)
theorem Stp.rn (s : Stp M μ H M' μ' H') {x : DV} {v : V} (h : RN g pn Z0 M μ H x v) : RN g pn Z0 M' μ' H' x v := by
  cases h with
  | p h => exact .p (s.rd h)
  | own h => exact .own (s.at_ h)
  | exc hp hz hd r => exact .exc hp hz hd (s.rx r)
theorem Stp.slots (s : Stp M μ H M' μ' H') (h : RSl g pn Z0 M μ H sl σ) : RSl g pn Z0 M' μ' H' sl σ :=
  ⟨h.len, fun i x e => by obtain ⟨v, h1, h2⟩ := h.at_ i x e; exact ⟨v, h1, s.rn h2⟩⟩
theorem Stp.rr (s : Stp M μ H M' μ' H') {a : RV} {v : V} (h : RR g Z0 M μ H a v) : RR g Z0 M' μ' H' a v := by
  cases h with
  | p h => exact .p (s.rd h)
  | own h => exact .own (s.at_ h)
theorem Stp.rrs (s : Stp M μ H M' μ' H') : ∀ {as : List RV} {vs : List V}, RRs g Z0 M μ H as vs → RRs g Z0 M' μ' H' as vs
  | _, _, .nil => .nil
  | _, _, .cons h r => .cons (s.rr h) (s.rrs r)
theorem RRs.append : ∀ {as bs : List RV} {vs ws : List V}, RRs g Z0 M μ H as vs → RRs g Z0 M μ H bs ws → RRs g Z0 M μ H (as ++ bs) (vs ++ ws)
  | _, _, _, _, .nil, s => s
  | _, _, _, _, .cons h r, s => .cons h (r.append s)
theorem RRs.ofD : ∀ {ds : List D} {vs : List V}, RDs g H (Zof Z0 M μ) ds vs → RRs g Z0 M μ H (ds.map (.p false)) vs
  | _, _, .nil => .nil
  | _, _, .cons h r => .cons (.p h) (RRs.ofD r)
theorem RR.rn {a : RV} {v : V} (h : RR g Z0 M μ H a v) : RN g pn Z0 M μ H a.dv v := by
  cases h with
  | p h => exact .p h
  | own h => exact .own h
theorem Fr.start (s : ∀ a, Hs' a ≠ none → Hs a ≠ none) {a : RV} {v : V} (h : Fr g Z0 M μ Hs H a v) : Fr g Z0 M μ Hs' H a v := fun d e b eb => by
  obtain ⟨h1, h2⟩ := h d e b eb
  refine ⟨?_, h2⟩
  cases q : Hs' b with
  | none => rfl
  | some o => exact absurd h1 (s b (by rw [q]; exact fun z => nomatch z))
theorem Fr.not {fr : Bool} {d : D} {v : V} (h : fr = false) : Fr g Z0 M μ Hs H (.p fr d) v := fun e q => by cases q; cases h
theorem Fr.flat {a : RV} {v : V} (h : ∀ b, v ≠ .ref b) : Fr g Z0 M μ Hs H a v := fun _ _ b q => absurd q (h b)
theorem Fr.own {k : Nat} {v : V} : Fr g Z0 M μ Hs H (.own k) v := fun _ q => nomatch q
/-- readable: what stands now, whether it may change or not -/
inductive Rdb (g : Gx) (H : Hp) (Z : Addr → Prop) : D → V → Prop
  | d {d : D} {v : V} (h : RD g H Z d v) : Rdb g H Z d v
  | o {d : D} {a : Addr} {o : HO} (h : H a = some o) (r : RO g H Z d o) : Rdb g H Z d (.ref a)
theorem RR.read (r : RM g Z0 M μ H) {a : RV} {v : V} {d : D} (h : RR g Z0 M μ H a v) (e : a.get M = some d) : Rdb g H (Zof Z0 M μ) d v := by
  cases h with
  | p h => cases e; exact .d h
  | @own k a h =>
    have e : (M[k]?).map Cell.d = some d := e
    cases q : M[k]? with
    | none => rw [q] at e; cases e
    | some x =>
      rw [q] at e; cases e
      cases x with
      | live d => obtain ⟨_, o, h1, h2⟩ := r.live k d a q h; exact .o h1 h2
      | dead d => exact .d (r.deadD q h)
/-- a store's cell, changed or not, with no new things -/
theorem Live.set_dead {k : Nat} {d : D} {a : Addr} (h : Live (M.set k (.dead d)) μ a) : Live M μ a := by
  obtain ⟨j, e, h1, h2⟩ := h
  by_cases q : k = j
  · subst q
    by_cases l : k < M.length
    · rw [List.getElem?_set_self l] at h1; cases h1
    · rw [List.getElem?_eq_none (by simp; omega)] at h1; cases h1
  · rw [List.getElem?_set_ne q] at h1
    exact ⟨j, e, h1, h2⟩
/-- the thing k is put into another: it changes no more -/
theorem RM.freeze (r : RM g Z0 M μ H) {k : Nat} {x : Cell} {a : Addr} (e : M[k]? = some x) (ea : μ[k]? = some a) : RM g Z0 (M.set k (.dead x.d)) μ H ∧ Stp M μ H (M.set k (.dead x.d)) μ H ∧ RD g H (Zof Z0 (M.set k (.dead x.d)) μ) x.d (.ref a) := by
  have lk : k < M.length := (List.getElem?_eq_some_iff.mp e).1
  have zs : ∀ b, Zof Z0 (M.set k (.dead x.d)) μ b → Zof Z0 M μ b := fun b z => z.elim (fun z => .inl z.set_dead) .inr
  have nk : ∀ b, b = a → ¬ Zof Z0 M μ a → ¬ Zof Z0 (M.set k (.dead x.d)) μ b := fun b q n z => n (q ▸ zs b z)
  have s : Stp M μ H (M.set k (.dead x.d)) μ H := by
    refine ⟨⟨[], by simp⟩, by simp, fun _ _ h _ => h, fun _ h => h, fun b z => .inl z.set_dead, fun j d h => ?_⟩
    by_cases q : k = j
    · subst q
      rw [List.getElem?_set_self lk]
      rw [e] at h; cases h; rfl
    · rw [List.getElem?_set_ne q]; exact h
  have rdo : ¬ Zof Z0 (M.set k (.dead x.d)) μ a ∧ ∃ o, H a = some o ∧ RO g H (Zof Z0 (M.set k (.dead x.d)) μ) x.d o := by
    cases x with
    | dead d => obtain ⟨n, o, h1, h2⟩ := r.dead k d a e ea; exact ⟨fun z => n (zs a z), o, h1, s.ro h2⟩
    | live d =>
      obtain ⟨z, o, h1, h2⟩ := r.live k d a e ea
      have na : ¬ Zof Z0 (M.set k (.dead d)) μ a := by
        rintro (⟨j, f, h3, h4⟩ | z')
        · by_cases q : k = j
          · subst q; rw [List.getElem?_set_self lk] at h3; cases h3
          · rw [List.getElem?_set_ne q] at h3
            exact q (r.inj k j d f a e h3 ea h4)
        · exact z z'
      exact ⟨na, o, h1, s.ro h2⟩
  have rda : RD g H (Zof Z0 (M.set k (.dead x.d)) μ) x.d (.ref a) := by
    obtain ⟨n, o, h1, h2⟩ := rdo
    exact h2.rd h1 n
  refine ⟨⟨by simp [r.len], fun i j d f b h1 h2 h3 h4 => ?_, fun j d b h1 h2 => ?_, fun j d b h1 h2 => ?_, r.z0⟩, s, rda⟩
  · by_cases q1 : k = i
    · subst q1; rw [List.getElem?_set_self lk] at h1; cases h1
    · by_cases q2 : k = j
      · subst q2; rw [List.getElem?_set_self lk] at h2; cases h2
      · rw [List.getElem?_set_ne q1] at h1
        rw [List.getElem?_set_ne q2] at h2
        exact r.inj i j d f b h1 h2 h3 h4
  · by_cases q : k = j
    · subst q; rw [List.getElem?_set_self lk] at h1; cases h1
    · rw [List.getElem?_set_ne q] at h1
      obtain ⟨z, o, h3, h4⟩ := r.live j d b h1 h2
      exact ⟨z, o, h3, s.ro h4⟩
  · by_cases q : k = j
    · subst q
      rw [List.getElem?_set_self lk] at h1; cases h1
      rw [ea] at h2; cases h2
      exact rdo
    · rw [List.getElem?_set_ne q] at h1
      obtain ⟨n, o, h3, h4⟩ := r.dead j d b h1 h2
      exact ⟨fun z => n (zs b z), o, h3, s.ro h4⟩
theorem RR.frz (r : RM g Z0 M μ H) {a : RV} {v : V} {d : D} (h : RR g Z0 M μ H a v) (e : a.frz M = some (d, M')) : RM g Z0 M' μ H ∧ Stp M μ H M' μ H ∧ RD g H (Zof Z0 M' μ) d v := by
  cases h with
  | p h => cases e; exact ⟨r, .refl, h⟩
  | @own k a h =>
    unfold RV.frz at e
    cases q : M[k]? with
    | none => simp [q] at e
    | some x =>
      simp only [q, Option.some.injEq, Prod.mk.injEq] at e
      obtain ⟨rfl, rfl⟩ := e
      exact r.freeze q h
theorem RRs.frz : ∀ {as : List RV} {vs : List V} {ds : List D} {M M' : Sto}, RM g Z0 M μ H → RRs g Z0 M μ H as vs → frzs as M = some (ds, M') → RM g Z0 M' μ H ∧ Stp M μ H M' μ H ∧ RDs g H (Zof Z0 M' μ) ds vs
  | _, _, _, _, _, r, .nil, e => by cases e; exact ⟨r, .refl, .nil⟩
  | a :: as, v :: vs, ds, M, M', r, .cons h q, e => by
    unfold frzs at e
    cases e1 : a.frz M with
    | none => simp [e1] at e
    | some p =>
      obtain ⟨d, M1⟩ := p
      simp only [e1] at e
      cases e2 : frzs as M1 with
      | none => simp [e2] at e
      | some p2 =>
        obtain ⟨ds2, M2⟩ := p2
        simp only [e2, Option.some.injEq, Prod.mk.injEq] at e
        obtain ⟨rfl, rfl⟩ := e
        obtain ⟨r1, s1, h1⟩ := h.frz r e1
        obtain ⟨r2, s2, h2⟩ := RRs.frz r1 (s1.rrs q) e2
        exact ⟨r2, s1.trans s2, .cons (s2.rd h1) h2⟩
/-- the thing k takes a new content -/
theorem RM.store (r : RM g Z0 M μ H) {k : Nat} {d d' : D} {a : Addr} {o : HO} (e : M[k]? = some (.live d)) (ea : μ[k]? = some a) (h : RO g H (Zof Z0 M μ) d' o) : RM g Z0 (M.set k (.live d')) μ (upd H a o) ∧ Stp M μ H (M.set k (.live d')) μ (upd H a o) := by
  have lk : k < M.length := (List.getElem?_eq_some_iff.mp e).1
  obtain ⟨z, o0, h1, h2⟩ := r.live k d a e ea
  have lv : ∀ b, Live (M.set k (.live d')) μ b ↔ Live M μ b := fun b => by
    constructor
    · rintro ⟨j, f, h3, h4⟩
      by_cases q : k = j
      · subst q; exact ⟨k, d, e, h4⟩
      · rw [List.getElem?_set_ne q] at h3; exact ⟨j, f, h3, h4⟩
    · rintro ⟨j, f, h3, h4⟩
      by_cases q : k = j
      · subst q; exact ⟨k, d', List.getElem?_set_self lk, h4⟩
      · exact ⟨j, f, by rw [List.getElem?_set_ne q]; exact h3, h4⟩
  have s : Stp M μ H (M.set k (.live d')) μ (upd H a o) := by
    refine ⟨⟨[], by simp⟩, by simp, fun b u hb n => ?_, fun b hb => ?_, fun b z => .inl ((lv b).mp z), fun j f h => ?_⟩
    · rw [upd_ne fun q => n (by rw [q]; exact ⟨k, d, e, ea⟩)]; exact hb
    · by_cases q : b = a
      · subst q; rw [upd_same]; exact fun z => nomatch z
      · rw [upd_ne q]; exact hb
    · by_cases q : k = j
      · subst q; rw [e] at h; cases h
      · rw [List.getElem?_set_ne q]; exact h
  refine ⟨⟨by simp [r.len], fun i j f f' b h1 h2 h3 h4 => ?_, fun j f b h3 h4 => ?_, fun j f b h3 h4 => ?_, fun b hb => s.dom b (r.z0 b hb)⟩, s⟩
  · have g1 : ∃ f, M[i]? = some (.live f) := by
      by_cases q : k = i
      · subst q; exact ⟨d, e⟩
      · rw [List.getElem?_set_ne q] at h1; exact ⟨f, h1⟩
    have g2 : ∃ f, M[j]? = some (.live f) := by
      by_cases q : k = j
      · subst q; exact ⟨d, e⟩
      · rw [List.getElem?_set_ne q] at h2; exact ⟨f', h2⟩
    obtain ⟨f1, g1⟩ := g1
    obtain ⟨f2, g2⟩ := g2
    exact r.inj i j f1 f2 b g1 g2 h3 h4
  · by_cases q : k = j
    · subst q
      rw [List.getElem?_set_self lk] at h3; cases h3
      rw [ea] at h4; cases h4
      exact ⟨z, o, upd_same, s.ro h⟩
    · rw [List.getElem?_set_ne q] at h3
      obtain ⟨z', o', h5, h6⟩ := r.live j f b h3 h4
      refine ⟨z', o', ?_, s.ro h6⟩
      rw [upd_ne fun w => ?_]; exact h5
      subst w
      exact q (r.inj k j d f b e h3 ea h4)
  · by_cases q : k = j
    · subst q; rw [List.getElem?_set_self lk] at h3; cases h3
    · rw [List.getElem?_set_ne q] at h3
      obtain ⟨n, o', h5, h6⟩ := r.dead j f b h3 h4
      have nb : ¬ Live M μ b := fun q => n (.inl q)
      exact ⟨fun z => n (z.elim (fun z => .inl ((lv b).mp z)) .inr), o', s.keep b o' h5 nb, s.ro h6⟩
theorem RM.weak {Z1 : Addr → Prop} (r : RM g Z1 M μ H) (h : ∀ a, Z0 a → Z1 a) : RM g Z0 M μ H := by
  have m : ∀ a, Zof Z0 M μ a → Zof Z1 M μ a := fun a z => z.elim .inl fun z => .inr (h a z)
  refine ⟨r.len, r.inj, fun k d a e1 e2 => ?_, fun k d a e1 e2 => ?_, fun a z => r.z0 a (h a z)⟩
  · obtain ⟨z, o, h1, h2⟩ := r.live k d a e1 e2
    refine ⟨fun q => z (h a q), o, h1, ?_⟩
    cases h2 with
    | lst q => exact .lst (q.mono (fun _ _ e _ => e) fun b _ _ n z => n (m b z))
    | ins q => exact .ins (q.mono (fun _ _ e _ => e) fun b _ _ n z => n (m b z))
  · obtain ⟨n, o, h1, h2⟩ := r.dead k d a e1 e2
    exact ⟨fun z => n (m a z), o, h1, h2.mono (fun _ _ e _ => e) fun b _ _ n z => n (m b z)⟩
/-- a new object: known to nothing -/
theorem RM.fresh (r : RM g Z0 M μ H) {p : Addr} {o : HO} (h : H p = none) : RM g (Zand Z0 p) M μ (upd H p o) := by
  have gr : Grow H (upd H p o) := .new h
  have nz : ∀ a u, H a = some u → ¬ Zof Z0 M μ a → ¬ Zof (Zand Z0 p) M μ a := fun a u e n z => by
    rcases z with z | z | z
    · exact n (.inl z)
    · exact n (.inr z)
    · subst z; rw [h] at e; cases e
  refine ⟨r.len, r.inj, fun k d a e1 e2 => ?_, fun k d a e1 e2 => ?_, fun a z => ?_⟩
  · obtain ⟨z, u, h1, h2⟩ := r.live k d a e1 e2
    refine ⟨fun q => q.elim z fun q => ?_, u, gr a u h1, ?_⟩
    · subst q; rw [h] at h1; cases h1
    · cases h2 with
      | lst q => exact .lst (q.mono (fun a u e _ => gr a u e) nz)
      | ins q => exact .ins (q.mono (fun a u e _ => gr a u e) nz)
  · obtain ⟨n, u, h1, h2⟩ := r.dead k d a e1 e2
    exact ⟨nz a u h1 n, u, gr a u h1, h2.mono (fun a u e _ => gr a u e) nz⟩
  · rcases z with z | z
    · exact gr.dom (r.z0 a z)
    · subst z; rw [upd_same]; exact fun q => nomatch q
/-- a new thing comes into the store -/
theorem RM.alloc (r : RM g Z0 M μ H) {d : D} {a : Addr} {o : HO} (ra : RM g (Zand Z0 a) M μ H) (ha : H a = some o) (hz : ¬ Zof Z0 M μ a) (h : RO g H (Zof (Zand Z0 a) M μ) d o) : RM g Z0 (M ++ [.live d]) (μ ++ [a]) H := by
  have lk : μ.length = M.length := r.len
  have zz : ∀ b, Zof Z0 (M ++ [.live d]) (μ ++ [a]) b → Zof (Zand Z0 a) M μ b := fun b z => by
    rcases z with ⟨k, e, h1, h2⟩ | z
    · by_cases q : k < M.length
      · rw [List.getElem?_append_left q] at h1
        rw [List.getElem?_append_left (by omega)] at h2
        exact .inl ⟨k, e, h1, h2⟩
      · rw [List.getElem?_append_right (by omega), lk] at h2
        have : k - M.length = 0 := by
          cases e : k - M.length with
          | zero => rfl
          | succ n => rw [e] at h2; simp at h2
        rw [this] at h2
        exact .inr (.inr (by simpa using h2.symm))
    · exact .inr (.inl z)
  have mo : ∀ {e : D} {w : V}, RD g H (Zof (Zand Z0 a) M μ) e w → RD g H (Zof Z0 (M ++ [.live d]) (μ ++ [a])) e w := fun h => h.mono (fun _ _ e _ => e) fun b _ _ n z => n (zz b z)
  have mos : ∀ {e : List D} {w : List V}, RDs g H (Zof (Zand Z0 a) M μ) e w → RDs g H (Zof Z0 (M ++ [.live d]) (μ ++ [a])) e w := fun h => h.mono (fun _ _ e _ => e) fun b _ _ n z => n (zz b z)
  have mof : ∀ {e : List (Str × D)} {w : List (Str × V)}, RDf g H (Zof (Zand Z0 a) M μ) e w → RDf g H (Zof Z0 (M ++ [.live d]) (μ ++ [a])) e w := fun h => h.mono (fun _ _ e _ => e) fun b _ _ n z => n (zz b z)
  have moo : ∀ {e : D} {w : HO}, RO g H (Zof (Zand Z0 a) M μ) e w → RO g H (Zof Z0 (M ++ [.live d]) (μ ++ [a])) e w := fun h => by
    cases h with
    | lst q => exact .lst (mos q)
    | ins q => exact .ins (mof q)
  have at_ : ∀ (k : Nat) (x : Cell) (b : Addr), (M ++ [.live d])[k]? = some x → (μ ++ [a])[k]? = some b → (M[k]? = some x ∧ μ[k]? = some b) ∨ (k = M.length ∧ x = .live d ∧ b = a) := fun k x b h1 h2 => by
    by_cases q : k < M.length
    · rw [List.getElem?_append_left q] at h1
      rw [List.getElem?_append_left (by omega)] at h2
      exact .inl ⟨h1, h2⟩
    · rw [List.getElem?_append_right (by omega)] at h1 h2
      rw [lk] at h2
      cases e : k - M.length with
      | zero => rw [e] at h1 h2; simp at h1 h2; exact .inr ⟨by omega, h1.symm, h2.symm⟩
      | succ n => rw [e] at h1; simp at h1
  refine ⟨by simp [lk], fun i j e f b h1 h2 h3 h4 => ?_, fun k e b h1 h2 => ?_, fun k e b h1 h2 => ?_, r.z0⟩
  · rcases at_ i _ b h1 h3 with ⟨g1, g3⟩ | ⟨e1, _, e3⟩ <;> rcases at_ j _ b h2 h4 with ⟨g2, g4⟩ | ⟨f1, _, f3⟩
    · exact r.inj i j e f b g1 g2 g3 g4
    · subst f3; exact absurd (Or.inl ⟨i, e, g1, g3⟩) hz
    · subst e3; exact absurd (Or.inl ⟨j, f, g2, g4⟩) hz
    · omega
  · rcases at_ k _ b h1 h2 with ⟨h1, h2⟩ | ⟨_, e2, e3⟩
    · obtain ⟨z, u, h3, h4⟩ := ra.live k e b h1 h2
      exact ⟨fun q => z (.inl q), u, h3, moo h4⟩
    · cases e2; subst e3
      exact ⟨fun q => hz (.inr q), o, ha, moo h⟩
  · rcases at_ k _ b h1 h2 with ⟨h1, h2⟩ | ⟨_, e2, _⟩
    · obtain ⟨n, u, h3, h4⟩ := ra.dead k e b h1 h2
      exact ⟨fun z => n (zz b z), u, h3, moo h4⟩
    · cases e2
end
end DI

/-! DI.C: operations by values, read off the data -/
namespace DI
open PySem PySem.Spec PyProof.Rows L2

theorem sz_eq : SZ = sizeLine := by rw [sizeLine_eq]; rfl
section
variable {g : Gx} {H H' : Hp} {Z : Addr → Prop}
theorem Rdb.int {i : Int} {v : V} (h : Rdb g H Z (.int i) v) : v = .int i := by
  cases h with
  | d h => cases h; rfl
  | o h r => cases r
theorem Rdb.bl {i : Bool} {v : V} (h : Rdb g H Z (.bl i) v) : v = .bl i := by
  cases h with
  | d h => cases h; rfl
  | o h r => cases r
theorem Rdb.str {i : Str} {v : V} (h : Rdb g H Z (.str i) v) : v = .str i := by
  cases h with
  | d h => cases h; rfl
  | o h r => cases r
theorem Rdb.non {v : V} (h : Rdb g H Z .non v) : v = .non := by
  cases h with
  | d h => cases h; rfl
  | o h r => cases r
theorem Rdb.lst {xs : List D} {v : V} (h : Rdb g H Z (.lst xs) v) : ∃ a vs, v = .ref a ∧ H a = some (.lst vs) ∧ RDs g H Z xs vs := by
  cases h with
  | d h => cases h with | lst h _ r => exact ⟨_, _, rfl, h, r⟩
  | o h r => cases r with | lst r => exact ⟨_, _, rfl, h, r⟩
theorem Rdb.tup {xs : List D} {v : V} (h : Rdb g H Z (.tup xs) v) : ∃ a vs, v = .ref a ∧ SqT g.K H a vs ∧ RDs g H Z xs vs := by
  cases h with
  | d h => cases h with
    | tup h _ r => exact ⟨_, _, rfl, .inl (.inl h), r⟩
    | ktup h r => exact ⟨_, _, rfl, .inr h, r⟩
  | o h r => cases r
theorem Rdb.scr {ns : List Int} {v : V} (h : Rdb g H Z (.scr ns) v) : ∃ a, v = .ref a ∧ SqL g.K H a (ns.map V.int) := by
  cases h with
  | d h => cases h with
    | scr h _ => exact ⟨_, rfl, .inl (.inr ⟨_, h⟩)⟩
    | kscr h => exact ⟨_, rfl, .inr h⟩
  | o h r => cases r
theorem Rdb.ins {c : Nat} {fs : List (Str × D)} {v : V} (h : Rdb g H Z (.ins c fs) v) : ∃ a dx vs, v = .ref a ∧ H a = some (.ins (g.ca c) dx vs) ∧ RDf g H Z fs vs := by
  cases h with
  | d h => cases h with | ins h _ r => exact ⟨_, _, _, rfl, h, r⟩
  | o h r => cases r with | ins r => exact ⟨_, _, _, rfl, h, r⟩
mutual
theorem RD.dp : ∀ {d : D} {v : V} {p : PyData}, RD g H Z d v → d.py = some p → Dp g.K H v p
  | _, _, _, .non, e => by cases e; exact .non
  | _, _, _, .bl b, e => by cases e; exact .bl b
  | _, _, _, .int i, e => by cases e; exact .int i
  | _, _, _, .str x, e => by cases e; exact .str x
  | _, _, _, @RD.tup _ _ _ a vs xs h _ r, e => by
    have e : (D.pys xs).map PyData.tuple = some _ := e
    cases q : D.pys xs with
    | none => rw [q] at e; cases e
    | some ps => rw [q] at e; cases e; exact .tup (.inl (.inl h)) (RDs.dp r q)
  | _, _, _, @RD.ktup _ _ _ a vs xs h r, e => by
    have e : (D.pys xs).map PyData.tuple = some _ := e
    cases q : D.pys xs with
    | none => rw [q] at e; cases e
    | some ps => rw [q] at e; cases e; exact .tup (.inr h) (RDs.dp r q)
  | _, _, _, @RD.lst _ _ _ a vs xs h _ r, e => by
    have e : (D.pys xs).map PyData.list = some _ := e
    cases q : D.pys xs with
    | none => rw [q] at e; cases e
    | some ps => rw [q] at e; cases e; exact .lst (.inl (.inl h)) (RDs.dp r q)
  | _, _, _, .ins _ _ _, e => by cases e
  | _, _, _, .scr _ _, e => by cases e
  | _, _, _, .kscr _, e => by cases e
  | _, _, _, .cls _, e => by cases e
theorem RDs.dp : ∀ {ds : List D} {vs : List V} {ps : List PyData}, RDs g H Z ds vs → D.pys ds = some ps → DpAll g.K H vs ps
  | _, _, _, .nil, e => by cases e; exact .nil
  | _, _, _, @RDs.cons _ _ _ d v ds vs h r, e => by
    unfold D.pys at e
    cases q1 : d.py with
    | none => simp [q1] at e
    | some p =>
      cases q2 : D.pys ds with
      | none => simp [q1, q2] at e
      | some ps =>
        simp only [q1, q2, Option.some.injEq] at e
        subst e
        exact .cons (RD.dp h q1) (RDs.dp r q2)
end
theorem Rdb.dp {d : D} {v : V} {p : PyData} (h : Rdb g H Z d v) (e : d.py = some p) : Dp g.K H v p := by
  cases h with
  | d h => exact h.dp e
  | o h r => cases r with
    | @lst xs vs r =>
      have e : (D.pys xs).map PyData.list = some _ := e
      cases q : D.pys xs with
      | none => rw [q] at e; cases e
      | some ps => rw [q] at e; cases e; exact .lst (.inl (.inl h)) (r.dp q)
    | ins r => cases e
theorem Rdb.isN {d : D} {v : V} (h : Rdb g H Z d v) : decide (v = .non) = isNon d := by
  cases h with
  | d h => cases h <;> rfl
  | o h r => cases r <;> rfl
end

/-- a new value at H': it stands there, its object (if any) is the one new thing -/
def NewV (g : Gx) (Z : Addr → Prop) (H H' : Hp) (d : D) (v : V) : Prop := Grow H H' ∧ RD g H' Z d v ∧ ∀ b, v = .ref b → H b = none ∧ ∃ o, H' = upd H b o ∧ ((∀ xs, d ≠ .tup xs) → RO g H Z d o)
def rOp (g : Gx) (op : Operator) : R2 := fun x y H Q => ∃ (Z : Addr → Prop) (dx dy dz : D), (∀ a, Z a → H a ≠ none) ∧ Rdb g H Z dx x ∧ Rdb g H Z dy y ∧ opD op dx dy = some dz ∧ ∀ v H', NewV g Z H H' dz v → Q v H'
def rCm (g : Gx) (op : CmpOp) : R2 := fun x y H Q => ∃ (Z : Addr → Prop) (dx dy : D) (b : Bool), Rdb g H Z dx x ∧ Rdb g H Z dy y ∧ cmpD op dx dy = some b ∧ Q (.bl b) H
def rUn (g : Gx) (op : UnaryOp) : V → Hp → VK → Prop := fun x H Q => ∃ (Z : Addr → Prop) (dx dz : D), Rdb g H Z dx x ∧ unD op dx = some dz ∧ ∀ v, RD g H Z dz v → (∀ b, v ≠ .ref b) → Q v H
section
variable {g : Gx} {X : Cx} {Z : Addr → Prop} {H H' : Hp}
theorem NewV.flat {d : D} {v : V} (h : RD g H Z d v) (n : ∀ b, v ≠ .ref b) : NewV g Z H H d v := ⟨.refl, h, fun b e => absurd e (n b)⟩
theorem NewV.int {i : Int} : NewV g Z H H (.int i) (.int i) := .flat (.int i) fun b e => nomatch e
theorem NewV.lst {xs : List D} {vs : List V} {p : Addr} (z : ∀ a, Z a → H a ≠ none) (n : H p = none) (r : RDs g H Z xs vs) : NewV g Z H (upd H p (.lst vs)) (.lst xs) (.ref p) :=
  ⟨.new n, .lst upd_same (fun q => z p q n) (Grow.rds (.new n) r), fun b e => by cases e; exact ⟨n, _, rfl, fun _ => .lst r⟩⟩
theorem NewV.tup {xs : List D} {vs : List V} {p : Addr} (z : ∀ a, Z a → H a ≠ none) (n : H p = none) (r : RDs g H Z xs vs) : NewV g Z H (upd H p (.tup vs)) (.tup xs) (.ref p) :=
  ⟨.new n, .tup upd_same (fun q => z p q n) (Grow.rds (.new n) r), fun b e => by cases e; exact ⟨n, _, rfl, fun q => absurd rfl (q _)⟩⟩
theorem band3 {a b c : Bool} (h : (a && b && c) = true) : a = true ∧ b = true ∧ c = true := by
  obtain ⟨h1, h2⟩ := Bool.and_eq_true_iff.mp h
  obtain ⟨h3, h4⟩ := Bool.and_eq_true_iff.mp h1
  exact ⟨h3, h4, h2⟩
theorem cpow_of {i j : Int} (h : CPowB i j = true) : CPow i j := by
  obtain ⟨a, b, c⟩ := band3 h
  exact ⟨of_decide_eq_true a, of_decide_eq_true b, of_decide_eq_true c⟩
theorem cmul_of {i j : Int} (h : CMulB i j = true) : CMul i j := by
  rcases Bool.or_eq_true_iff.mp h with h | h <;> obtain ⟨a, b⟩ := Bool.and_eq_true_iff.mp h
  · exact .inl ⟨of_decide_eq_true a, of_decide_eq_true b⟩
  · exact .inr ⟨of_decide_eq_true a, of_decide_eq_true b⟩
theorem op_ok (hK : g.K = X.K) (op : Operator) : OpR X (binaryOp op) (rOp g op) := by
  intro pins s σ H x y v u Q I rx ry h
  obtain ⟨Z, dx, dy, dz, hz, hx, hy, e, q⟩ := h
  unfold opD at e
  split at e
  · cases e; cases hx.int; cases hy.int
    exact op_add pins s σ H _ _ v u Q I rx ry ⟨_, _, rfl, rfl, q _ _ .int⟩
  · split at e
    · rename_i hl
      cases e
      obtain ⟨a, vs, rfl, ha, ra⟩ := hx.lst
      obtain ⟨b, ws, rfl, hb, rb⟩ := hy.lst
      refine op_cat pins s σ H _ _ v u Q I rx ry ⟨a, b, vs, ws, rfl, rfl, ha, hb, ?_, fun p n => q _ _ (.lst hz n (ra.append rb))⟩
      rw [← ra.length, ← rb.length, ← sz_eq]; exact hl
    · cases e
  · cases e; cases hx.int; cases hy.int
    exact op_sub pins s σ H _ _ v u Q I rx ry ⟨_, _, rfl, rfl, q _ _ .int⟩
  · split at e
    · rename_i hc
      cases e; cases hx.int; cases hy.int
      exact op_mul pins s σ H _ _ v u Q I rx ry ⟨_, _, rfl, rfl, cmul_of hc, q _ _ .int⟩
    · cases e
  · split at e
    · rename_i hc
      cases e; cases hy.int
      obtain ⟨a, vs, rfl, ha, ra⟩ := hx.lst
      obtain ⟨h1, h2, h3⟩ := band3 hc
      refine op_rep pins s σ H _ _ v u Q I rx ry ⟨a, _, vs, rfl, rfl, ha, of_decide_eq_true h1, of_decide_eq_true h2, ?_, fun p n => q _ _ (.lst hz n (ra.rep _))⟩
      rw [← ra.length, ← sz_eq]; exact of_decide_eq_true h3
    · cases e
  · split at e
    · rename_i hc
      cases e; cases hx.int; cases hy.int
      obtain ⟨h1, h2⟩ := Bool.and_eq_true_iff.mp hc
      exact op_fdiv pins s σ H _ _ v u Q I rx ry ⟨_, _, rfl, rfl, ⟨of_decide_eq_true h1, of_decide_eq_true h2⟩, q _ _ .int⟩
    · cases e
  · split at e
    · rename_i hc
      cases e; cases hx.int; cases hy.int
      exact op_mod pins s σ H _ _ v u Q I rx ry ⟨_, _, rfl, rfl, of_decide_eq_true hc, q _ _ .int⟩
    · cases e
  · split at e
    · rename_i hc
      cases e; cases hx.int; cases hy.int
      exact op_pow pins s σ H _ _ v u Q I rx ry ⟨_, _, rfl, rfl, cpow_of hc, q _ _ .int⟩
    · cases e
  · split at e
    · rename_i hc
      cases e; cases hx.int; cases hy.int
      exact op_shl pins s σ H _ _ v u Q I rx ry ⟨_, _, rfl, rfl, cpow_of hc, q _ _ .int⟩
    · cases e
  · split at e
    · rename_i hc
      cases e; cases hx.int; cases hy.int
      exact op_shr pins s σ H _ _ v u Q I rx ry ⟨_, _, rfl, rfl, of_decide_eq_true hc, q _ _ .int⟩
    · cases e
  · cases e; cases hx.int; cases hy.int
    exact op_and pins s σ H _ _ v u Q I rx ry ⟨_, _, rfl, rfl, q _ _ .int⟩
  · cases e; cases hx.int; cases hy.int
    exact op_or pins s σ H _ _ v u Q I rx ry ⟨_, _, rfl, rfl, q _ _ .int⟩
  · cases e; cases hx.int; cases hy.int
    exact op_xor pins s σ H _ _ v u Q I rx ry ⟨_, _, rfl, rfl, q _ _ .int⟩
  · cases e
theorem un_ok (op : UnaryOp) : UnR X (unaryOp op) (rUn g op) := by
  intro pins s σ H x v Q I rx h
  obtain ⟨Z, dx, dz, hx, e, q⟩ := h
  unfold unD at e
  split at e
  · cases e; cases hx.int
    exact un_neg pins s σ H _ v Q I rx ⟨_, rfl, q _ (.int _) fun b e => nomatch e⟩
  · cases e; cases hx.int
    exact un_inv pins s σ H _ v Q I rx ⟨_, rfl, q _ (.int _) fun b e => nomatch e⟩
  · cases e
theorem deq_of {x y : D} {b : Bool} (e : deq x y = some b) : ∃ p q, x.py = some p ∧ y.py = some q ∧ SeqAt.shaped p = true ∧ SeqAt.shaped q = true ∧ b = PyData.eqv p q := by
  unfold deq at e
  cases h1 : x.py with
  | none => simp [h1] at e
  | some p =>
    cases h2 : y.py with
    | none => simp [h1, h2] at e
    | some q =>
      simp only [h1, h2] at e
      split at e
      · rename_i hc
        obtain ⟨a, c⟩ := Bool.and_eq_true_iff.mp hc
        cases e
        exact ⟨p, q, rfl, rfl, a, c, rfl⟩
      · cases e
theorem din_of {x : D} {ys : List D} {b : Bool} (e : din x ys = some b) : ∃ p qs, x.py = some p ∧ D.pys ys = some qs ∧ SeqAt.shaped p = true ∧ SeqAt.shaped (.list qs) = true ∧ b = qs.any fun z => PyData.eqv z p := by
  unfold din at e
  cases h1 : x.py with
  | none => simp [h1] at e
  | some p =>
    cases h2 : D.pys ys with
    | none => simp [h1, h2] at e
    | some q =>
      simp only [h1, h2] at e
      split at e
      · rename_i hc
        obtain ⟨a, c⟩ := Bool.and_eq_true_iff.mp hc
        cases e
        exact ⟨p, q, rfl, rfl, a, c, rfl⟩
      · cases e
theorem op_inT {X : Cx} (hu : X.A.units + 65 < cLine) : OpR X (compareOp .In) (fun x y H Q => ∃ d ds, Dp X.K H x d ∧ Dp X.K H y (.tuple ds) ∧ SeqAt.shaped d = true ∧ SeqAt.shaped (.list ds) = true ∧ Q (.bl (ds.any fun z => PyData.eqv z d)) H) := by
  intro pins s σ H x y v u Q I rx ry h
  obtain ⟨d, ds, hd, he, sd, se, q⟩ := h
  obtain ⟨as, r1⟩ := Dp.reads I d x v hd rx
  obtain ⟨bs, r2⟩ := Dp.reads I (.tuple ds) y u he ry
  exact SeqAt.in_tuple_reads r2 r1 (SeqAt.canLay_of_shaped se) (SeqAt.canLay_of_shaped sd) (room_in_shaped sd hu) ⟨.bl _, H, I, rfl, q⟩
theorem op_notInT {X : Cx} (hu : X.A.units + 65 < cLine) : OpR X (compareOp .NotIn) (fun x y H Q => ∃ d ds, Dp X.K H x d ∧ Dp X.K H y (.tuple ds) ∧ SeqAt.shaped d = true ∧ SeqAt.shaped (.list ds) = true ∧ Q (.bl (!ds.any fun z => PyData.eqv z d)) H) := by
  intro pins s σ H x y v u Q I rx ry h
  obtain ⟨d, ds, hd, he, sd, se, q⟩ := h
  obtain ⟨as, r1⟩ := Dp.reads I d x v hd rx
  obtain ⟨bs, r2⟩ := Dp.reads I (.tuple ds) y u he ry
  exact SeqAt.notIn_tuple_reads r2 r1 (SeqAt.canLay_of_shaped se) (SeqAt.canLay_of_shaped sd) (room_in_shaped sd hu) ⟨.bl _, H, I, rfl, q⟩
theorem cm_ok (hK : g.K = X.K) (hu : X.A.units + 65 < cLine) (op : CmpOp) : OpR X (compareOp op) (rCm g op) := by
  intro pins s σ H x y v u Q I rx ry h
  obtain ⟨Z, dx, dy, b, hx, hy, e, q⟩ := h
  unfold cmpD at e
  split at e
  · cases e; cases hx.int; cases hy.int
    exact op_lt pins s σ H _ _ v u Q I rx ry ⟨_, _, rfl, rfl, q⟩
  · cases e; cases hx.int; cases hy.int
    exact op_le pins s σ H _ _ v u Q I rx ry ⟨_, _, rfl, rfl, q⟩
  · cases e; cases hx.int; cases hy.int
    exact op_gt pins s σ H _ _ v u Q I rx ry ⟨_, _, rfl, rfl, q⟩
  · cases e; cases hx.int; cases hy.int
    exact op_ge pins s σ H _ _ v u Q I rx ry ⟨_, _, rfl, rfl, q⟩
  · cases e; cases hy.non
    exact op_isN pins s σ H _ _ v u Q I rx ry ⟨rfl, by rw [hx.isN]; exact q⟩
  · cases e; cases hy.non
    exact op_notN pins s σ H _ _ v u Q I rx ry ⟨rfl, by rw [hx.isN]; exact q⟩
  · obtain ⟨p, r, h1, h2, h3, h4, rfl⟩ := deq_of e
    exact op_eqD (by omega) pins s σ H _ _ v u Q I rx ry ⟨p, r, hK ▸ hx.dp h1, hK ▸ hy.dp h2, h3, h4, q⟩
  · cases e1 : deq dx dy with
    | none => rw [e1] at e; cases e
    | some b' =>
      rw [e1] at e; cases e
      obtain ⟨p, r, h1, h2, h3, h4, rfl⟩ := deq_of e1
      exact op_neD (by omega) pins s σ H _ _ v u Q I rx ry ⟨p, r, hK ▸ hx.dp h1, hK ▸ hy.dp h2, h3, h4, q⟩
  · rename_i ys
    obtain ⟨p, r, h1, h2, h3, h4, rfl⟩ := din_of e
    refine op_inD hu pins s σ H _ _ v u Q I rx ry ⟨p, r, hK ▸ hx.dp h1, hK ▸ hy.dp (p := .list r) ?_, h3, h4, q⟩
    show (D.pys ys).map PyData.list = _
    rw [h2]; rfl
  · rename_i ys
    cases e1 : din dx ys with
    | none => rw [e1] at e; cases e
    | some b' =>
      rw [e1] at e; cases e
      obtain ⟨p, r, h1, h2, h3, h4, rfl⟩ := din_of e1
      refine op_notInD hu pins s σ H _ _ v u Q I rx ry ⟨p, r, hK ▸ hx.dp h1, hK ▸ hy.dp (p := .list r) ?_, h3, h4, q⟩
      show (D.pys ys).map PyData.list = _
      rw [h2]; rfl
  · rename_i ys
    obtain ⟨p, r, h1, h2, h3, h4, rfl⟩ := din_of e
    refine op_inT hu pins s σ H _ _ v u Q I rx ry ⟨p, r, hK ▸ hx.dp h1, hK ▸ hy.dp (p := .tuple r) ?_, h3, h4, q⟩
    show (D.pys ys).map PyData.tuple = _
    rw [h2]; rfl
  · rename_i ys
    cases e1 : din dx ys with
    | none => rw [e1] at e; cases e
    | some b' =>
      rw [e1] at e; cases e
      obtain ⟨p, r, h1, h2, h3, h4, rfl⟩ := din_of e1
      refine op_notInT hu pins s σ H _ _ v u Q I rx ry ⟨p, r, hK ▸ hx.dp h1, hK ▸ hy.dp (p := .tuple r) ?_, h3, h4, q⟩
      show (D.pys ys).map PyData.tuple = _
      rw [h2]; rfl
  · cases e
/-- truth -/
theorem tru_of (hK : g.K = X.K) {d : D} {v : V} {b : Bool} (h : Rdb g H Z d v) (e : truD d = some b) : TruV X.K v H b := by
  cases d with
  | non => cases e; cases h.non; rfl
  | bl c => cases e; cases h.bl; rfl
  | int i => cases e; cases h.int; rfl
  | lst xs =>
    cases e
    obtain ⟨a, vs, rfl, ha, r⟩ := h.lst
    refine .inl ⟨vs, .inl (.inl ha), ?_⟩
    cases r <;> rfl
  | tup xs =>
    cases e
    obtain ⟨a, vs, rfl, ha, r⟩ := h.tup
    refine .inr (.inl ⟨vs, hK ▸ ha, ?_⟩)
    cases r <;> rfl
  | _ => cases e
end
end DI

/-! DI.N4: sorted of ints, of tuples of ints -/
namespace DI
open PySem PySem.Spec PyProof.Rows L2
theorem tup_enc {d : D} (h : isTupD d = true) : ∃ xs i is, d = .tup xs ∧ intsO xs = some (i :: is) ∧ encD d = .tuple ((i :: is).map .int) := by
  unfold isTupD at h
  split at h
  · rename_i x xs
    obtain ⟨is, e⟩ := Option.isSome_iff_exists.mp h
    cases is with
    | nil =>
      exfalso
      unfold intsO at e
      cases x with
      | int i => cases q : intsO xs <;> simp [q] at e
      | _ => cases e
    | cons i is => exact ⟨_, i, is, rfl, e, by unfold encD; simp only [e]⟩
  · cases h
theorem lst_enc {d : D} (h : isLstD d = true) : ∃ xs is, d = .lst xs ∧ intsO xs = some is ∧ encD d = .list (is.map .int) := by
  unfold isLstD at h
  split at h
  · rename_i xs
    obtain ⟨is, e⟩ := Option.isSome_iff_exists.mp h
    exact ⟨_, is, rfl, e, by unfold encD; simp only [e]⟩
  · cases h
theorem sortB_or {xs : List D} (h : sortB xs = true) : xs.all isIntD = true ∨ xs.all isTupD = true ∨ xs.all isLstD = true := by
  unfold sortB at h
  rw [Bool.or_eq_true, Bool.or_eq_true] at h
  rcases h with (h | h) | h
  · exact .inl h
  · exact .inr (.inl h)
  · exact .inr (.inr h)
theorem enc_alike {xs : List D} (h : sortB xs = true) : PySem.W.AllAlike (xs.map encD) := by
  intro d hd d' hd'
  obtain ⟨x, hx, rfl⟩ := List.mem_map.mp hd
  obtain ⟨y, hy, rfl⟩ := List.mem_map.mp hd'
  rcases sortB_or h with h | h | h
  · have h1 := List.all_eq_true.mp h x hx
    have h2 := List.all_eq_true.mp h y hy
    cases x <;> first | cases h1 | skip
    cases y <;> first | cases h2 | skip
    rfl
  · obtain ⟨_, i, is, _, _, e1⟩ := tup_enc (List.all_eq_true.mp h x hx)
    obtain ⟨_, j, js, _, _, e2⟩ := tup_enc (List.all_eq_true.mp h y hy)
    rw [e1, e2]
    exact PySem.W.alike_ints _ _
  · obtain ⟨_, is, _, _, e1⟩ := lst_enc (List.all_eq_true.mp h x hx)
    obtain ⟨_, js, _, _, e2⟩ := lst_enc (List.all_eq_true.mp h y hy)
    rw [e1, e2]
    exact PySem.W.alike_ints _ _
theorem enc_sortable {xs : List D} (h : sortB xs = true) : PySem.W.Sortable (xs.map encD) := by
  rcases sortB_or h with h | h | h
  · refine .inr fun d hd => ?_
    obtain ⟨x, hx, rfl⟩ := List.mem_map.mp hd
    have h1 := List.all_eq_true.mp h x hx
    cases x <;> first | cases h1 | skip
    exact ⟨(fun q => PyData.noConfusion q), (fun _ q => PyData.noConfusion q)⟩
  · refine .inl fun d hd => ?_
    obtain ⟨x, hx, rfl⟩ := List.mem_map.mp hd
    obtain ⟨_, i, is, _, _, e1⟩ := tup_enc (List.all_eq_true.mp h x hx)
    exact ⟨_, _, e1⟩
  · refine .inr fun d hd => ?_
    obtain ⟨x, hx, rfl⟩ := List.mem_map.mp hd
    obtain ⟨_, is, _, _, e1⟩ := lst_enc (List.all_eq_true.mp h x hx)
    rw [e1]
    exact ⟨(fun q => PyData.noConfusion q), (fun _ q => PyData.noConfusion q)⟩
theorem enc_depth {xs : List D} (h : sortB xs = true) {d : D} (hd : d ∈ xs) : (encD d).depth ≤ 1 := by
  rcases sortB_or h with h | h | h
  · have h1 := List.all_eq_true.mp h d hd
    cases d <;> first | cases h1 | skip
    exact Nat.zero_le _
  · obtain ⟨_, i, is, _, _, e1⟩ := tup_enc (List.all_eq_true.mp h d hd)
    rw [e1]
    show PyData.depthAll ((i :: is).map .int) + 1 ≤ 1
    rw [PySem.W.depth_ints]
    exact Nat.le_refl _
  · obtain ⟨_, is, _, _, e1⟩ := lst_enc (List.all_eq_true.mp h d hd)
    rw [e1]
    show PyData.depthAll (is.map .int) + 1 ≤ 1
    rw [PySem.W.depth_ints]
    exact Nat.le_refl _
section
variable {g : Gx} {X : Cx} {Z : Addr → Prop} {H : Hp}
theorem ints_reads {h : Heap} : ∀ {xs : List D} {is : List Int} {vs : List V} {us : List Value}, intsO xs = some is → RDs g H Z xs vs → Vals vs us → ReadsAll h us (is.map .int) []
  | [], is, _, _, e, .nil, .nil => by cases e; exact .nil
  | x :: xs, is, _, _, e, .cons hx r, .cons hv rv => by
    cases x with
    | int i =>
      have e : (intsO xs).map (i :: ·) = some is := e
      cases q : intsO xs with
      | none => rw [q] at e; cases e
      | some js =>
        rw [q] at e
        cases e
        cases hx
        obtain ⟨t, rfl⟩ := hv
        exact .cons (.int i t) (ints_reads q r rv)
    | _ => cases e
theorem one_reads {pins : List (Addr × Obj)} {σ : L2.St} {s : Shared} (I : Inv X pins σ H s) (hK : g.K = X.K) {d : D} {v : V} {u : Value} (hd : isIntD d = true ∨ isTupD d = true ∨ isLstD d = true) (r : RD g H Z d v) (ru : RelV v u) : ∃ as, Reads s.heap u (encD d) as := by
  rcases hd with h | h | h
  · cases d <;> first | cases h | skip
    cases r
    obtain ⟨t, rfl⟩ := ru
    exact ⟨[], .int _ t⟩
  · obtain ⟨xs, i, is, rfl, e1, e2⟩ := tup_enc h
    rw [e2]
    obtain ⟨a, vs, rfl, hq, rs⟩ := (Rdb.d r).tup
    obtain rfl : u = Value.ref a := ru
    obtain ⟨its, rv, ⟨o, h1, h2, n, h3⟩, _⟩ := I.tuple (hK ▸ hq)
    exact ⟨[], .tuple h1 h2 h3 (by simpa using ints_reads e1 rs rv)⟩
  · obtain ⟨xs, is, rfl, e1, e2⟩ := lst_enc h
    rw [e2]
    obtain ⟨a, vs, rfl, hq, rs⟩ := (Rdb.d r).lst
    obtain rfl : u = Value.ref a := ru
    obtain ⟨its, n, rv, ho, hz⟩ := I.lst hq
    exact ⟨[a], .list ho rfl rfl (by simpa using ints_reads e1 rs rv)⟩
theorem each_of {P : D → Value → V → Prop} : ∀ {xs : List D} {vs : List V} {us : List Value}, RDs g H Z xs vs → Vals vs us → PySem.W.EachIs (fun u d => ∃ w, RelV w u ∧ RD g H Z d w) us xs
  | _, _, _, .nil, .nil => .nil
  | _, _, _, .cons h r, .cons hv rv => .cons ⟨_, hv, h⟩ (each_of (P := P) r rv)
theorem each_back : ∀ {xs : List D} {us : List Value}, PySem.W.EachIs (fun u d => ∃ w, RelV w u ∧ RD g H Z d w) us xs → ∃ ws, Vals ws us ∧ RDs g H Z xs ws
  | _, _, .nil => ⟨[], .nil, .nil⟩
  | _, _, .cons ⟨w, h1, h2⟩ r => by
    obtain ⟨ws, r1, r2⟩ := each_back r
    exact ⟨w :: ws, .cons h1 r1, .cons h2 r2⟩
theorem each_reads {pins : List (Addr × Obj)} {σ : L2.St} {s : Shared} (I : Inv X pins σ H s) (hK : g.K = X.K) : ∀ {xs : List D} {us : List Value}, (∀ d ∈ xs, isIntD d = true ∨ isTupD d = true ∨ isLstD d = true) → PySem.W.EachIs (fun u d => ∃ w, RelV w u ∧ RD g H Z d w) us xs → PySem.W.EachIs (fun u d => ∃ as, Reads s.heap u (encD d) as) us xs
  | _, _, _, .nil => .nil
  | d :: ds, _, hd, .cons ⟨w, h1, h2⟩ r => .cons (one_reads I hK (hd d List.mem_cons_self) h2 h1) (each_reads I hK (fun e he => hd e (List.mem_cons_of_mem _ he)) r)
/-- sorted(a list of data): its promise -/
theorem call_sortD (hK : g.K = X.K) (hu : X.A.units + 65 < cLine) : CallR X (.builtin "sorted") (fun vs H Q => ∃ (Z : Addr → Prop) (b : Addr) (xs : List D) (ws : List V), vs = [.ref b] ∧ H b = some (.lst ws) ∧ RDs g H Z xs ws ∧ sortB xs = true ∧ ∀ D' ws', H D' = none → RDs g H Z (sortD xs) ws' → Q (.ref D') (upd H D' (.lst ws'))) := by
  intro pins s σ H vs us Q I r ⟨Z, b, xs, ws, e, hb, rd, hs, q⟩
  subst e
  obtain ⟨u, rfl, ru⟩ := vals1 r
  obtain rfl : u = Value.ref b := ru
  obtain ⟨its, n, rv, ho, hz⟩ := I.lst hb
  have hx : ∀ d ∈ xs, isIntD d = true ∨ isTupD d = true ∨ isLstD d = true := fun d hd => by
    rcases sortB_or hs with h | h | h
    · exact .inl (List.all_eq_true.mp h d hd)
    · exact .inr (.inl (List.all_eq_true.mp h d hd))
    · exact .inr (.inr (List.all_eq_true.mp h d hd))
  have ee := each_of (P := fun _ _ _ => True) rd rv
  have lx : xs.length ≤ sizeLine := by rw [rd.length]; exact hz
  refine PySem.W.sorted_data (vs := its) (bs := xs) (enc := encD) ⟨_, ho, rfl, n, rfl⟩ ee (each_reads I hK hx ee) (enc_alike hs) (enc_sortable hs) lx (fun d hd => ?_) fun out hl he => ?_
  · have := enc_depth hs hd
    omega
  · obtain ⟨ws', r1, r2⟩ := each_back he
    obtain ⟨m, fr⟩ := I.fr
    obtain ⟨c, _, N', _, k⟩ := PySem.W.sorted_news (s := s) (news := []) fr (fun p hp => by cases hp) its out
    have hd := (N' _ (List.mem_cons_self ..)).1
    refine ⟨.ref (s.heap.objs.size + 1), upd H (s.heap.objs.size + 1) (.lst ws'), I.laid (t' := s.toks) k (Nat.le_succ _) ⟨?_, out, c, r1, hd⟩, rfl, q _ _ (I.hok.fresh (Nat.le_succ _)) r2⟩
    rw [r1.length, hl]
    exact lx
end
end DI

/-! DI.E: the checker of the small language against the text; what expressions do -/
namespace DI
open PySem PySem.Spec PyProof.Rows L2

/-! ### shapes of expressions -/
def asName : Expr → Option (Str × Pos)
  | .Name x p => some (x, p)
  | _ => none
def asConst : Expr → Option (Const × Nat × Pos)
  | .Constant c k p => some (c, k, p)
  | _ => none
def asBin : Expr → Option (Expr × Operator × Expr × Pos)
  | .BinOp a o b p => some (a, o, b, p)
  | _ => none
def asUn : Expr → Option (UnaryOp × Expr × Pos)
  | .UnaryOp o a p => some (o, a, p)
  | _ => none
def asBool : Expr → Option (BoolOp × List Expr × Pos)
  | .BoolOp o l p => some (o, l, p)
  | _ => none
def asCmp : Expr → Option (Expr × List CmpOp × List Expr × Pos)
  | .Compare a o b p => some (a, o, b, p)
  | _ => none
def asIf : Expr → Option (Expr × Expr × Expr × Pos)
  | .IfExp a b c p => some (a, b, c, p)
  | _ => none
def asTup : Expr → Option (List Expr × Nat × Pos)
  | .Tuple l k p => some (l, k, p)
  | _ => none
def asLst : Expr → Option (List Expr × Pos)
  | .List l p => some (l, p)
  | _ => none
def asCall : Expr → Option (Expr × List Expr × List Keyword × Pos)
  | .Call f a k p => some (f, a, k, p)
  | _ => none
def asAttr : Expr → Option (Expr × Str × Pos)
  | .Attribute e f p => some (e, f, p)
  | _ => none
def asSub : Expr → Option (Expr × Expr × Pos)
  | .Subscript a b p => some (a, b, p)
  | _ => none
def asSlice : Expr → Option (Option Expr × Option Expr × Option Expr × Pos)
  | .Slice a b c p => some (a, b, c, p)
  | _ => none
def asLc : Expr → Option (Expr × List Comprehension × Scope × Pos)
  | .ListComp e l s p => some (e, l, s, p)
  | _ => none
def asStar : Expr → Option (Expr × Pos)
  | .Starred e p => some (e, p)
  | _ => none
section
variable {e : Expr}
theorem asName_eq {x p} (h : asName e = some (x, p)) : e = .Name x p := by cases e <;> first | (cases h; rfl) | cases h
theorem asConst_eq {x k p} (h : asConst e = some (x, k, p)) : e = .Constant x k p := by cases e <;> first | (cases h; rfl) | cases h
theorem asBin_eq {a o b p} (h : asBin e = some (a, o, b, p)) : e = .BinOp a o b p := by cases e <;> first | (cases h; rfl) | cases h
theorem asUn_eq {o a p} (h : asUn e = some (o, a, p)) : e = .UnaryOp o a p := by cases e <;> first | (cases h; rfl) | cases h
theorem asBool_eq {o a p} (h : asBool e = some (o, a, p)) : e = .BoolOp o a p := by cases e <;> first | (cases h; rfl) | cases h
theorem asCmp_eq {a o b p} (h : asCmp e = some (a, o, b, p)) : e = .Compare a o b p := by cases e <;> first | (cases h; rfl) | cases h
theorem asIf_eq {a b c p} (h : asIf e = some (a, b, c, p)) : e = .IfExp a b c p := by cases e <;> first | (cases h; rfl) | cases h
theorem asTup_eq {a k p} (h : asTup e = some (a, k, p)) : e = .Tuple a k p := by cases e <;> first | (cases h; rfl) | cases h
theorem asLst_eq {a p} (h : asLst e = some (a, p)) : e = .List a p := by cases e <;> first | (cases h; rfl) | cases h
theorem asCall_eq {f a k p} (h : asCall e = some (f, a, k, p)) : e = .Call f a k p := by cases e <;> first | (cases h; rfl) | cases h
theorem asAttr_eq {a f p} (h : asAttr e = some (a, f, p)) : e = .Attribute a f p := by cases e <;> first | (cases h; rfl) | cases h
theorem asSub_eq {a b p} (h : asSub e = some (a, b, p)) : e = .Subscript a b p := by cases e <;> first | (cases h; rfl) | cases h
theorem asSlice_eq {a b c p} (h : asSlice e = some (a, b, c, p)) : e = .Slice a b c p := by cases e <;> first | (cases h; rfl) | cases h
theorem asLc_eq {a b c p} (h : asLc e = some (a, b, c, p)) : e = .ListComp a b c p := by cases e <;> first | (cases h; rfl) | cases h
theorem asStar_eq {a p} (h : asStar e = some (a, p)) : e = .Starred a p := by cases e <;> first | (cases h; rfl) | cases h
end
/-- o.f is read off o's value: o is no super() -/
def noSup : Expr → Bool
  | .Call (.Name _ _) [] [] _ => false
  | _ => true
theorem noSup_base {o : Expr} (h : noSup o = true) (f : Str) (env : Env) (w : Sem Value) : attributeBase o f env w = w := by
  cases o with
  | Call g as ks p =>
    cases g with
    | Name x q => cases as with
      | nil => cases ks with
        | nil => cases h
        | cons _ _ => rfl
      | cons _ _ => rfl
    | _ => rfl
  | _ => rfl
def noStar : List Expr → Bool
  | [] => true
  | e :: es => (match e with | .Starred _ _ => false | _ => true) && noStar es
theorem star_plain {e : Expr} {es : List Expr} (h : noStar (e :: es) = true) (env : Env) : starEach (e :: es) env = (false, eval e env) :: starEach es env := by
  cases e <;> first | rfl | cases h
theorem noStar_tl {e : Expr} {es : List Expr} (h : noStar (e :: es) = true) : noStar es = true := (Bool.and_eq_true_iff.mp h).2
theorem plain_any {pos : Pos} {env : Env} : ∀ {es : List Expr}, noStar es = true → (backTo pos (starEach es env)).any (·.1) = false
  | [], _ => rfl
  | e :: es, h => by
    rw [star_plain h]
    show (false || (backTo pos (starEach es env)).any (·.1)) = false
    rw [plain_any (noStar_tl h)]; rfl
theorem plain_all {pos : Pos} {env : Env} : ∀ {es : List Expr}, noStar es = true → (backTo pos (starEach es env)).all (fun x => !x.1) = true
  | [], _ => rfl
  | e :: es, h => by
    rw [star_plain h]
    show (true && (backTo pos (starEach es env)).all (fun x => !x.1)) = true
    rw [plain_all (noStar_tl h)]; rfl
/-- a subscript that is no slice -/
def noSl : Expr → Bool
  | .Slice _ _ _ _ => false
  | _ => true
theorem noSl_ix {b : Expr} (h : noSl b = true) : PlainIx b := by
  intro o i
  cases b <;> first | rfl | cases h

/-! ### the table and the context -/
structure Tab where
  P : Prg
  fnm : List (Str × Nat)
  clm : List (Str × Nat)
  xcm : List (Str × Nat)
  free : List Str
structure SCx where
  N : List Str
  sc : Scope
  calm : Bool
  /-- names of cells that may be stored -/
  cel : List Str
def SCx.vis (s : SCx) (x : Str) : Bool := (match s.sc.names.lookup x with | some .local => true | some .cell => true | some .free => true | _ => false) && !(x == ("__debug__" : Str)) && !(x == ("__classdict__" : Str))
def SCx.loc (s : SCx) (x : Str) : Bool := match s.sc.names.lookup x with | some .local => true | _ => false
def SCx.glo (s : SCx) (x : Str) : Bool := (match s.sc.names.lookup x with | some .globalImplicit => true | _ => false) && !(x == ("__debug__" : Str))
/-- the promise of a def by what the evaluator says of it -/
def spF (g : Gx) (np : Nat) (o : List DV → Sto → Res RV) : Sp := fun vs H Q E => vs.length = np ∧ ∃ (as : List DV) (M : Sto) (μ : List Addr) (Z0 : Addr → Prop),
  Paired (RN g [] Z0 M μ H) as vs ∧ RM g Z0 M μ H ∧ match o as M with
    | .ok a M' => ∀ H' v, RM g Z0 M' μ H' → Stp M μ H M' μ H' → RR g Z0 M' μ H' a v → Fr g Z0 M' μ H H' a v → Q v H'
    | .exc x M' => ∀ dx H', RM g Z0 M' μ H' → Stp M μ H M' μ H' → RX g Z0 M' μ H' x dx → E (.ref (g.xa x.c)) (some dx) H'
    | .bad => False
end DI

/-! DI.F: each construct of expressions, by what its parts do -/
namespace DI
open PySem PySem.Spec PyProof.Rows L2

/-- what is wanted of a result -/
def Pst (g : Gx) (W : WX) (σ : L2.St) (Z0 : Addr → Prop) (M : Sto) (μ : List Addr) (H : Hp) {α : Type} (r : Res α) (k : α → Sto → Hp → Prop) : Prop := match r with
  | .ok a M' => ∀ H', RM g Z0 M' μ H' → Stp M μ H M' μ H' → k a M' H'
  | .exc x M' => ∀ dx H', RM g Z0 M' μ H' → Stp M μ H M' μ H' → RX g Z0 M' μ H' x dx → W (.ref (g.xa x.c)) (some dx) σ H'
  | .bad => False
section
variable {g : Gx} {pn : List (Addr × Obj)} {W : WX} {σ : L2.St} {Z0 : Addr → Prop} {M M1 M2 : Sto} {μ : List Addr} {H H1 H2 : Hp} {α β : Type}
theorem Pst.bind {r : Res α} {f : α → Sto → Res β} {k : β → Sto → Hp → Prop} (h : Pst g W σ Z0 M μ H (r.bind f) k) : Pst g W σ Z0 M μ H r fun a M1 H1 => Pst g W σ Z0 M1 μ H1 (f a M1) k := by
  cases r with
  | ok a M1 =>
    intro H1 m1 s1
    have h : Pst g W σ Z0 M μ H (f a M1) k := h
    show Pst g W σ Z0 M1 μ H1 (f a M1) k
    cases e : f a M1 with
    | ok b M2 => rw [e] at h; exact fun H2 m2 s2 => h H2 m2 (s1.trans s2)
    | exc x M2 => rw [e] at h; exact fun dx H2 m2 s2 rx => h dx H2 m2 (s1.trans s2) rx
    | bad => rw [e] at h; exact h
  | exc x M1 => exact h
  | bad => exact h
theorem Pst.imp {r : Res α} {k k' : α → Sto → Hp → Prop} (h : Pst g W σ Z0 M μ H r k) (f : ∀ a M' H', Stp M μ H M' μ H' → k a M' H' → k' a M' H') : Pst g W σ Z0 M μ H r k' := by
  cases r with
  | ok a M' => exact fun H' m s => f a M' H' s (h H' m s)
  | exc x M' => exact h
  | bad => exact h
theorem Pst.ok {a : α} {k : α → Sto → Hp → Prop} (h : Pst g W σ Z0 M μ H (.ok a M1) k) (m : RM g Z0 M1 μ H1) (s : Stp M μ H M1 μ H1) : k a M1 H1 := h H1 m s
end
def tR (g : Gx) (pn : List (Addr × Obj)) (W : WX) (ev : Slots → Sto → Res RV) : TE := fun σ H Q => ∃ sl M μ Z0, RSl g pn Z0 M μ H sl σ ∧ RM g Z0 M μ H ∧ Pst g W σ Z0 M μ H (ev sl M) fun a M' H' => ∀ v, RR g Z0 M' μ H' a v → Fr g Z0 M' μ H H' a v → Q v H'
def tRs (g : Gx) (pn : List (Addr × Obj)) (W : WX) (ev : Slots → Sto → Res (List RV)) : TA := fun σ H Q => ∃ sl M μ Z0, RSl g pn Z0 M μ H sl σ ∧ RM g Z0 M μ H ∧ Pst g W σ Z0 M μ H (ev sl M) fun as M' H' => ∀ vs, RRs g Z0 M' μ H' as vs → Q vs H'
def tB (g : Gx) (pn : List (Addr × Obj)) (W : WX) (ev : Slots → Sto → Res Bool) : TT := fun σ H Q => ∃ sl M μ Z0, RSl g pn Z0 M μ H sl σ ∧ RM g Z0 M μ H ∧ Pst g W σ Z0 M μ H (ev sl M) fun b _ H' => Q b H'
def tOi (g : Gx) (pn : List (Addr × Obj)) (W : WX) (ev : Slots → Sto → Res (Option Int)) : TO := fun σ H Q => ∃ sl M μ Z0, RSl g pn Z0 M μ H sl σ ∧ RM g Z0 M μ H ∧ Pst g W σ Z0 M μ H (ev sl M) fun b _ H' => Q b H'
section
variable {g : Gx} {pn : List (Addr × Obj)} {W : WX} {σ : L2.St} {Z0 : Addr → Prop} {sl : Slots} {M M1 M2 : Sto} {μ : List Addr} {H H1 H2 : Hp} {α β : Type}
/-- a part, then what follows it -/
theorem tR.then {ev : Slots → Sto → Res RV} {f : RV → Sto → Res α} {k : α → Sto → Hp → Prop} {Q : VK} (hs : RSl g pn Z0 M μ H sl σ) (hm : RM g Z0 M μ H) (h : Pst g W σ Z0 M μ H ((ev sl M).bind f) k)
    (K : ∀ a M1 v H1, RM g Z0 M1 μ H1 → Stp M μ H M1 μ H1 → RSl g pn Z0 M1 μ H1 sl σ → RR g Z0 M1 μ H1 a v → Pst g W σ Z0 M1 μ H1 (f a M1) k → Q v H1) : tR g pn W ev σ H Q := by
  refine ⟨sl, M, μ, Z0, hs, hm, ?_⟩
  have h := h.bind
  cases e : ev sl M with
  | ok a M1 => rw [e] at h; exact fun H1 m1 s1 v ra _ => K a M1 v H1 m1 s1 (s1.slots hs) ra (h H1 m1 s1)
  | exc x M1 => rw [e] at h; exact h
  | bad => rw [e] at h; exact h
theorem tRs.then {ev : Slots → Sto → Res (List RV)} {f : List RV → Sto → Res α} {k : α → Sto → Hp → Prop} {Q : List V → Hp → Prop} (hs : RSl g pn Z0 M μ H sl σ) (hm : RM g Z0 M μ H) (h : Pst g W σ Z0 M μ H ((ev sl M).bind f) k)
    (K : ∀ as M1 vs H1, RM g Z0 M1 μ H1 → Stp M μ H M1 μ H1 → RSl g pn Z0 M1 μ H1 sl σ → RRs g Z0 M1 μ H1 as vs → Pst g W σ Z0 M1 μ H1 (f as M1) k → Q vs H1) : tRs g pn W ev σ H Q := by
  refine ⟨sl, M, μ, Z0, hs, hm, ?_⟩
  have h := h.bind
  cases e : ev sl M with
  | ok a M1 => rw [e] at h; exact fun H1 m1 s1 v ra => K a M1 v H1 m1 s1 (s1.slots hs) ra (h H1 m1 s1)
  | exc x M1 => rw [e] at h; exact h
  | bad => rw [e] at h; exact h
theorem tB.then {ev : Slots → Sto → Res Bool} {f : Bool → Sto → Res α} {k : α → Sto → Hp → Prop} {Q : Bool → Hp → Prop} (hs : RSl g pn Z0 M μ H sl σ) (hm : RM g Z0 M μ H) (h : Pst g W σ Z0 M μ H ((ev sl M).bind f) k)
    (K : ∀ b M1 H1, RM g Z0 M1 μ H1 → Stp M μ H M1 μ H1 → RSl g pn Z0 M1 μ H1 sl σ → Pst g W σ Z0 M1 μ H1 (f b M1) k → Q b H1) : tB g pn W ev σ H Q := by
  refine ⟨sl, M, μ, Z0, hs, hm, ?_⟩
  have h := h.bind
  cases e : ev sl M with
  | ok a M1 => rw [e] at h; exact fun H1 m1 s1 => K a M1 H1 m1 s1 (s1.slots hs) (h H1 m1 s1)
  | exc x M1 => rw [e] at h; exact h
  | bad => rw [e] at h; exact h
theorem tOi.then {ev : Slots → Sto → Res (Option Int)} {f : Option Int → Sto → Res α} {k : α → Sto → Hp → Prop} {Q : Option Int → Hp → Prop} (hs : RSl g pn Z0 M μ H sl σ) (hm : RM g Z0 M μ H) (h : Pst g W σ Z0 M μ H ((ev sl M).bind f) k)
    (K : ∀ b M1 H1, RM g Z0 M1 μ H1 → Stp M μ H M1 μ H1 → RSl g pn Z0 M1 μ H1 sl σ → Pst g W σ Z0 M1 μ H1 (f b M1) k → Q b H1) : tOi g pn W ev σ H Q := by
  refine ⟨sl, M, μ, Z0, hs, hm, ?_⟩
  have h := h.bind
  cases e : ev sl M with
  | ok a M1 => rw [e] at h; exact fun H1 m1 s1 => K a M1 H1 m1 s1 (s1.slots hs) (h H1 m1 s1)
  | exc x M1 => rw [e] at h; exact h
  | bad => rw [e] at h; exact h
/-- the last part, of a later start -/
theorem tR.last {ev : Slots → Sto → Res RV} {k : RV → Sto → Hp → Prop} {Q : VK} (hs : RSl g pn Z0 M μ H sl σ) (hm : RM g Z0 M μ H) (h : Pst g W σ Z0 M μ H (ev sl M) k) (K : ∀ a M1 H1, Stp M μ H M1 μ H1 → k a M1 H1 → ∀ v, RR g Z0 M1 μ H1 a v → Fr g Z0 M1 μ H H1 a v → Q v H1) : tR g pn W ev σ H Q :=
  ⟨sl, M, μ, Z0, hs, hm, h.imp fun a M' H' s q => K a M' H' s q⟩
end
theorem pe_imp {X : Cx} {e : Expr} {t t' : TE} (h : PE X e t) (i : ∀ σ H Q, t' σ H Q → t σ H Q) : PE X e t' := ⟨fun pins s σ H Q I q => h.run pins s σ H Q I (i σ H Q q)⟩
theorem pt_imp {X : Cx} {e : Expr} {t t' : TT} (h : PT X e t) (i : ∀ σ H Q, t' σ H Q → t σ H Q) : PT X e t' := ⟨fun pins s σ H Q I q => h.run pins s σ H Q I (i σ H Q q)⟩
theorem pw_imp {X : Cx} {e : Expr} {t t' : TT} (h : PW X e t) (i : ∀ σ H Q, t' σ H Q → t σ H Q) : PW X e t' := ⟨fun w pins s σ H Q I q => h.run w pins s σ H Q I (i σ H Q q)⟩
theorem pa_imp {X : Cx} {es : List Expr} {t t' : TA} (h : PA X es t) (i : ∀ σ H Q, t' σ H Q → t σ H Q) : PA X es t' := ⟨fun pos pins s σ H Q I q => h.run pos pins s σ H Q I (i σ H Q q)⟩

section
variable {g : Gx} {pn : List (Addr × Obj)} {W : WX} {X : Cx} {pos : Pos}
theorem e_var {i : Nat} {x : Str} (hN : X.N[i]? = some x) (hv : Vis X.env.scope x) (hd : (x == ("__debug__" : Str)) = false) (hc : (x == ("__classdict__" : Str)) = false) :
    PE X (.Name x pos) (tR g pn W fun sl M => match sl[i]? with | some (some v) => ofO v.rv M | _ => .bad) := by
  refine pe_imp (pe_var hN hv hd hc) fun σ H Q ⟨sl, M, μ, Z0, hs, hm, h⟩ => ?_
  cases e : sl[i]? with
  | none => simp only [e] at h; exact h.elim
  | some o => cases o with
    | none => simp only [e] at h; exact h.elim
    | some dv =>
      simp only [e] at h
      obtain ⟨v, h1, h2⟩ := hs.at_ i dv e
      refine ⟨v, h1, ?_⟩
      cases h2 with
      | p q => exact h.ok hm .refl v (.p q) (Fr.not rfl)
      | own q => exact h.ok hm .refl _ (.own q) Fr.own
      | exc _ _ _ _ => exact h.elim
theorem e_lit {d : D} {v : V} {e : Expr} (he : PE X e (tC v)) (hd : ∀ H Z, RD g H Z d v) : PE X e (tR g pn W fun _ M => .ok (.p false d) M) :=
  pe_imp he fun σ H Q ⟨sl, M, μ, Z0, hs, hm, h⟩ => h.ok hm .refl v (.p (hd _ _)) (Fr.not rfl)
variable {a b c : Expr} {eva evb evc : Slots → Sto → Res RV}
theorem newV_end {Z0 : Addr → Prop} {M : Sto} {μ : List Addr} {H H' Hs : Hp} {d : D} {v : V} (hm : RM g Z0 M μ H) (n : NewV g (Zof Z0 M μ) H H' d v) (hh : ∀ a, Hs a ≠ none → H a ≠ none) : RM g Z0 M μ H' ∧ Stp M μ H M μ H' ∧ RR g Z0 M μ H' (.p true d) v ∧ Fr g Z0 M μ Hs H' (.p true d) v := by
  refine ⟨n.1.rm hm, n.1.stp hm, .p n.2.1, fun e q b eb => ?_⟩
  obtain ⟨h1, o, h2, h3⟩ := n.2.2 b eb
  have q : d = e := by cases q; rfl
  subst q
  refine ⟨?_, ?_, fun nt => ⟨o, by rw [h2]; exact upd_same, ?_⟩⟩
  · cases z : Hs b with
    | none => rfl
    | some u => exact absurd h1 (hh b (by rw [z]; exact fun q => nomatch q))
  · rw [h2]; exact hm.fresh h1
  · rw [h2]
    exact (h3 nt).mono (fun a u e _ => by rw [upd_ne fun q => by subst q; rw [h1] at e; cases e]; exact e) fun a u e z q => q.elim (fun q => z (.inl q)) fun q => q.elim (fun q => z (.inr q)) fun q => by subst q; rw [h1] at e; cases e
theorem e_bin {op : Operator} (hK : g.K = X.K) (ha : PE X a (tR g pn W eva)) (hb : PE X b (tR g pn W evb)) :
    PE X (.BinOp a op b pos) (tR g pn W fun sl M => (eva sl M).bind fun x M1 => (evb sl M1).bind fun y M2 => ofO (bin1 (opD op) x y M2) M2) := by
  refine pe_imp (pe_op (op_ok hK op) ha hb) fun σ H Q ⟨sl, M, μ, Z0, hs, hm, h⟩ => ?_
  refine tR.then hs hm h fun x M1 v H1 m1 s1 hs1 rx h1 => tR.then hs1 m1 h1 fun y M2 u H2 m2 s2 hs2 ry h2 => ?_
  unfold bin1 at h2
  cases ex : x.get M2 with
  | none => simp only [ex] at h2; exact h2.elim
  | some dx => cases ey : y.get M2 with
    | none => simp only [ex, ey] at h2; exact h2.elim
    | some dy => cases ez : opD op dx dy with
      | none => simp only [ex, ey, ez, Option.map_none] at h2; exact h2.elim
      | some dz =>
        simp only [ex, ey, ez, Option.map_some] at h2
        refine ⟨Zof Z0 M2 μ, dx, dy, dz, fun a z => m2.zdom z, (s2.rr rx).read m2 ex, ry.read m2 ey, ez, fun v H' nv => ?_⟩
        obtain ⟨q1, q2, q3, q4⟩ := newV_end (Hs := H) m2 nv (fun a q => s2.dom a (s1.dom a q))
        exact h2 H' q1 q2 v q3 q4
theorem e_un {op : UnaryOp} (ha : PE X a (tR g pn W eva)) :
    PE X (.UnaryOp op a pos) (tR g pn W fun sl M => (eva sl M).bind fun x M1 => match x.get M1 with | some d => ofO ((unD op d).map (.p false)) M1 | none => .bad) := by
  refine pe_imp (pe_un (un_ok (g := g) op) ha) fun σ H Q ⟨sl, M, μ, Z0, hs, hm, h⟩ => ?_
  refine tR.then hs hm h fun x M1 v H1 m1 s1 hs1 rx h1 => ?_
  cases ex : x.get M1 with
  | none => simp only [ex] at h1; exact h1.elim
  | some dx => cases ez : unD op dx with
    | none => simp only [ex, ez, Option.map_none] at h1; exact h1.elim
    | some dz =>
      simp only [ex, ez, Option.map_some] at h1
      exact ⟨Zof Z0 M1 μ, dx, dz, rx.read m1 ex, ez, fun v hv nv => h1.ok m1 .refl v (.p hv) (Fr.not rfl)⟩
theorem RR.isB {Z0 : Addr → Prop} {M : Sto} {μ : List Addr} {H : Hp} {x : RV} {v : V} {k : Bool} (r : RR g Z0 M μ H x v) (e : isB x = some k) : v = .bl k := by
  cases r with
  | @p fr d v h =>
    cases d <;> cases e
    cases h; rfl
  | own h => cases e
theorem RR.ofB {Z0 : Addr → Prop} {M : Sto} {μ : List Addr} {H : Hp} {k : Bool} : RR g Z0 M μ H (boolV k) (.bl k) := .p (.bl k)
theorem e_notv (ha : PE X a (tR g pn W eva)) : PE X (.UnaryOp .Not a pos) (tR g pn W fun sl M => (eva sl M).bind fun x M1 => match isB x with | some b => .ok (boolV !b) M1 | none => .bad) := by
  refine pe_imp (pe_not ha) fun σ H Q ⟨sl, M, μ, Z0, hs, hm, h⟩ => ?_
  refine tR.then hs hm h fun x M1 v H1 m1 s1 hs1 rx h1 => ?_
  cases ex : isB x with
  | none => simp only [ex] at h1; exact h1.elim
  | some k =>
    simp only [ex] at h1
    exact ⟨k, rx.isB ex, h1.ok m1 .refl _ .ofB (Fr.not rfl)⟩
theorem e_and {rest : List Expr} (ha : PE X a (tR g pn W eva)) (hb : PE X (.BoolOp .And (b :: rest) pos) (tR g pn W evb)) :
    PE X (.BoolOp .And (a :: b :: rest) pos) (tR g pn W fun sl M => (eva sl M).bind fun x M1 => match isB x with | some true => evb sl M1 | some false => .ok (boolV false) M1 | none => .bad) := by
  refine pe_imp (pe_and ha hb) fun σ H Q ⟨sl, M, μ, Z0, hs, hm, h⟩ => ?_
  refine tR.then hs hm h fun x M1 v H1 m1 s1 hs1 rx h1 => ?_
  cases ex : isB x with
  | none => simp only [ex] at h1; exact h1.elim
  | some k =>
    refine ⟨k, rx.isB ex, ?_⟩
    cases k with
    | true => simp only [ex] at h1; rw [if_pos rfl]; exact tR.last hs1 m1 h1 fun a M2 H2 s2 q v r f => q v r (f.start fun c q => s1.dom c q)
    | false => simp only [ex] at h1; rw [if_neg Bool.false_ne_true]; exact h1.ok m1 .refl _ .ofB (Fr.not rfl)
theorem e_or {rest : List Expr} (ha : PE X a (tR g pn W eva)) (hb : PE X (.BoolOp .Or (b :: rest) pos) (tR g pn W evb)) :
    PE X (.BoolOp .Or (a :: b :: rest) pos) (tR g pn W fun sl M => (eva sl M).bind fun x M1 => match isB x with | some false => evb sl M1 | some true => .ok (boolV true) M1 | none => .bad) := by
  refine pe_imp (pe_or ha hb) fun σ H Q ⟨sl, M, μ, Z0, hs, hm, h⟩ => ?_
  refine tR.then hs hm h fun x M1 v H1 m1 s1 hs1 rx h1 => ?_
  cases ex : isB x with
  | none => simp only [ex] at h1; exact h1.elim
  | some k =>
    refine ⟨k, rx.isB ex, ?_⟩
    cases k with
    | true => simp only [ex] at h1; rw [if_pos rfl]; exact h1.ok m1 .refl _ .ofB (Fr.not rfl)
    | false => simp only [ex] at h1; rw [if_neg Bool.false_ne_true]; exact tR.last hs1 m1 h1 fun a M2 H2 s2 q v r f => q v r (f.start fun c q => s1.dom c q)
theorem cmp1_of {op : CmpOp} {Z0 : Addr → Prop} {M : Sto} {μ : List Addr} {H : Hp} {x y : RV} {v u : V} {k : Bool} (m : RM g Z0 M μ H) (rx : RR g Z0 M μ H x v) (ry : RR g Z0 M μ H y u) (e : cmp1 op x y M = some k) {Q : VK} (q : Q (.bl k) H) : rCm g op v u H Q := by
  unfold cmp1 at e
  cases ex : x.get M with
  | none => simp [ex] at e
  | some dx => cases ey : y.get M with
    | none => simp [ex, ey] at e
    | some dy =>
      simp only [ex, ey] at e
      exact ⟨Zof Z0 M μ, dx, dy, k, rx.read m ex, ry.read m ey, e, q⟩
theorem e_cmp {op : CmpOp} (hK : g.K = X.K) (hu : X.A.units + 65 < cLine) (hm : behindInMarks op b = false) (ha : PE X a (tR g pn W eva)) (hb : PE X b (tR g pn W evb)) :
    PE X (.Compare a [op] [b] pos) (tR g pn W fun sl M => (eva sl M).bind fun x M1 => (evb sl M1).bind fun y M2 => ofO ((cmp1 op x y M2).map boolV) M2) := by
  refine pe_imp (pe_cmpR (cm_ok hK hu op) ha hb hm) fun σ H Q ⟨sl, M, μ, Z0, hs, hm, h⟩ => ?_
  refine tR.then hs hm h fun x M1 v H1 m1 s1 hs1 rx h1 => tR.then hs1 m1 h1 fun y M2 u H2 m2 s2 hs2 ry h2 => ?_
  cases e : cmp1 op x y M2 with
  | none => simp only [e, Option.map_none] at h2; exact h2.elim
  | some k =>
    simp only [e, Option.map_some] at h2
    exact cmp1_of m2 (s2.rr rx) ry e (h2.ok m2 .refl _ .ofB (Fr.not rfl))
/-- a comparison as a test -/
theorem t_cmp {op : CmpOp} (hK : g.K = X.K) (hu : X.A.units + 65 < cLine) (hm : behindInMarks op b = false) (ha : PE X a (tR g pn W eva)) (hb : PE X b (tR g pn W evb)) :
    PT X (.Compare a [op] [b] pos) (tB g pn W fun sl M => ((eva sl M).bind fun x M1 => (evb sl M1).bind fun y M2 => ofO ((cmp1 op x y M2).map boolV) M2).bind fun x M1 => ofO (isB x) M1) := by
  refine pt_imp (pt_cmpR (cm_ok hK hu op) ha hb hm) fun σ H Q ⟨sl, M, μ, Z0, hs, hm, h⟩ => ?_
  have e0 : ((eva sl M).bind fun x M1 => (evb sl M1).bind fun y M2 => ofO ((cmp1 op x y M2).map boolV) M2).bind (fun x M1 => ofO (isB x) M1) = (eva sl M).bind fun x M1 => (evb sl M1).bind fun y M2 => ofO (cmp1 op x y M2) M2 := by
    cases eva sl M with
    | ok x M1 =>
      show ((evb sl M1).bind _).bind _ = (evb sl M1).bind _
      cases evb sl M1 with
      | ok y M2 =>
        show (ofO ((cmp1 op x y M2).map boolV) M2).bind _ = ofO (cmp1 op x y M2) M2
        cases cmp1 op x y M2 <;> rfl
      | _ => rfl
    | _ => rfl
  have h : Pst g W σ Z0 M μ H (((eva sl M).bind fun x M1 => (evb sl M1).bind fun y M2 => ofO ((cmp1 op x y M2).map boolV) M2).bind (fun x M1 => ofO (isB x) M1)) _ := h
  rw [e0] at h
  refine tR.then hs hm h fun x M1 v H1 m1 s1 hs1 rx h1 => tR.then hs1 m1 h1 fun y M2 u H2 m2 s2 hs2 ry h2 => ?_
  cases e : cmp1 op x y M2 with
  | none => simp only [e] at h2; exact h2.elim
  | some k =>
    simp only [e] at h2
    exact cmp1_of m2 (s2.rr rx) ry e ⟨k, rfl, h2.ok m2 .refl⟩
end
end DI

/-! DI.J7: a field of a caught exception -/
namespace DI
open PySem PySem.Spec PyProof.Rows L2
/-- what the head says of an exception class -/
def XcF (P : Program) (K : PySem.W.Frag) (mg : Str → Option Value) (C : Addr) (fs : List Str) : Prop := L2.XfC K C ∧ ∃ fI cda cc me name qual params body scope oc od osl kV doc pm an ct, DIX.InitF P K mg C fI cda cc me fs name qual params body scope oc od osl kV doc pm an ct ∧
  PySem.W.findIn K (.ref C) "__init__" = some (some (.ref fI)) ∧ PySem.W.typeIn K (.ref fI) = some (.type "function")
theorem e_efld {g : Gx} {pn : List (Addr × Obj)} {W : WX} {X : Cx} {P : Prg} {i : Nat} {x f : Str} {p pos : Pos} (hpin : ∀ q ∈ pn, q ∈ X.pn) (hX : ∀ c i, P.xcs[c]? = some i → i.fs ≠ [] → XcF X.prog X.K X.mg (g.xa c) i.fs) (hN : X.N[i]? = some x) (hv : Vis X.env.scope x)
    (hd : (x == ("__debug__" : Str)) = false) (hcd : (x == ("__classdict__" : Str)) = false) :
    PE X (.Attribute (.Name x p) f pos) (tR g pn W fun sl M => match sl[i]? with
      | some (some (.exc x)) => (match P.xcs[x.c]? with
        | some i => if i.fs.contains f then ofO ((x.fs.lookup f).map (.p false)) M else .bad
        | none => .bad)
      | _ => .bad) := by
  refine ⟨fun pins s σ H Q I ⟨sl, M, μ, Z0, hs, hm, h⟩ => ?_⟩
  cases e : sl[i]? with
  | none => simp only [e] at h; exact h.elim
  | some o => cases o with
    | none => simp only [e] at h; exact h.elim
    | some dv => cases dv with
      | p _ => simp only [e] at h; exact h.elim
      | own _ => simp only [e] at h; exact h.elim
      | exc ex =>
        simp only [e] at h
        cases ei : P.xcs[ex.c]? with
        | none => simp only [ei] at h; exact h.elim
        | some xi =>
          simp only [ei] at h
          split at h
          · rename_i hc
            obtain ⟨T, fI, cda, cc, me, name, qual, params, body, scope, oc, od, osl, kV, doc, pm, an, ct, F, _⟩ := hX _ _ ei (fun q => by rw [q] at hc; cases hc)
            obtain ⟨v, e1, e2⟩ := hs.at_ i _ e
            cases e2 with | @exc _ a dx oe hp hz hdat rx =>
            obtain ⟨vs0, ea, nz, rf⟩ := rx
            cases el : ex.fs.lookup f with
            | none => simp only [el, Option.map_none] at h; exact h.elim
            | some d =>
              simp only [el, Option.map_some] at h
              obtain ⟨w, l1, l2⟩ := rf.look el
              refine attr_of (noSup_base rfl f X.env _) (thn ((pe_var hN hv hd hcd).run pins s σ H (fun y H1 => y = .ref a ∧ H1 = H) I ⟨_, e1, rfl, rfl⟩) fun u s1 ⟨y, H1, I1, ru, ey, eh⟩ => ?_)
              subst ey eh
              obtain rfl : u = Value.ref a := ru
              have hp1 := (I1.pin (a, oe) (List.mem_append_left _ (hpin _ hp))).1
              obtain ⟨vs, hd2⟩ := hdat
              obtain ⟨mA, hns, hr⟩ : ObjOk X.prog X.w H1 s1.heap dx (.xd vs0) := I1.hok dx _ ea
              obtain ⟨od2, ho, hl⟩ := lookIn_ns hns
              obtain ⟨u2, hu, ru2⟩ := RelO.some_of (v := w) (o := mA f) (by rw [← l1]; exact hr f)
              have J : PySem.W.InstAt s1.heap a oe (g.xa ex.c) (some od2) := ⟨hp1, hz.1, by unfold PySem.W.notCls; rw [hd2] <;> rfl, by rw [hz.2]; exact ho⟩
              exact HandSPX.exc_get I1.kIn J T.ga T.gg T.exC (PySem.W.findObj_own T.hdC (F.flds f (List.contains_iff_mem.mp hc)) rfl (by rw [hl, hu])) (handed_of ru2) ⟨w, H1, I1.tok _, ru2, h.ok hm .refl w (.p l2) (Fr.not rfl)⟩
          · exact h.elim
end DI

/-! DI.F2: further constructs -/
namespace DI
open PySem PySem.Spec PyProof.Rows L2
section
variable {g : Gx} {pn : List (Addr × Obj)} {W : WX} {X : Cx} {pos : Pos} {a b c : Expr} {eva evb evc : Slots → Sto → Res RV} {tva tvb : Slots → Sto → Res Bool}
theorem e_chn {op op' : CmpOp} (hK : g.K = X.K) (hu : X.A.units + 65 < cLine) (hm : lastMarks [op, op'] [b, c] = false) (ha : PE X a (tR g pn W eva)) (hb : PE X b (tR g pn W evb)) (hc : PE X c (tR g pn W evc)) :
    PE X (.Compare a [op, op'] [b, c] pos) (tR g pn W fun sl M => (eva sl M).bind fun x M1 => (evb sl M1).bind fun y M2 => match cmp1 op x y M2 with
      | some true => (evc sl M2).bind fun z M3 => ofO ((cmp1 op' y z M3).map boolV) M3
      | some false => .ok (boolV false) M2
      | none => .bad) := by
  refine pe_imp (pe_chain (cm_ok hK hu op) (cm_ok hK hu op') ha hb hc hm) fun σ H Q ⟨sl, M, μ, Z0, hs, hm, h⟩ => ?_
  refine tR.then hs hm h fun x M1 v H1 m1 s1 hs1 rx h1 => tR.then hs1 m1 h1 fun y M2 u H2 m2 s2 hs2 ry h2 => ?_
  cases e : cmp1 op x y M2 with
  | none => simp only [e] at h2; exact h2.elim
  | some k =>
    refine cmp1_of m2 (s2.rr rx) ry e ⟨k, rfl, ?_⟩
    cases k with
    | false => simp only [e] at h2; rw [if_neg Bool.false_ne_true]; exact h2.ok m2 .refl _ .ofB (Fr.not rfl)
    | true =>
      simp only [e] at h2
      rw [if_pos rfl]
      refine tR.then hs2 m2 h2 fun z M3 w H3 m3 s3 hs3 rz h3 => ?_
      cases e' : cmp1 op' y z M3 with
      | none => simp only [e', Option.map_none] at h3; exact h3.elim
      | some k' =>
        simp only [e', Option.map_some] at h3
        exact cmp1_of m3 (s3.rr ry) rz e' (h3.ok m3 .refl _ .ofB (Fr.not rfl))
theorem e_chn_t {op op' : CmpOp} (hK : g.K = X.K) (hu : X.A.units + 65 < cLine) (hm : lastMarks [op, op'] [b, c] = false) (ha : PE X a (tR g pn W eva)) (hb : PE X b (tR g pn W evb)) (hc : PE X c (tR g pn W evc)) :
    PT X (.Compare a [op, op'] [b, c] pos) (tB g pn W fun sl M => ((eva sl M).bind fun x M1 => (evb sl M1).bind fun y M2 => match cmp1 op x y M2 with
      | some true => (evc sl M2).bind fun z M3 => ofO ((cmp1 op' y z M3).map boolV) M3
      | some false => .ok (boolV false) M2
      | none => .bad).bind fun x M1 => ofO (isB x) M1) := by
  refine pt_imp (pt_chain (cm_ok hK hu op) (cm_ok hK hu op') ha hb hc hm) fun σ H Q ⟨sl, M, μ, Z0, hs, hm, h⟩ => ?_
  have e0 : ((eva sl M).bind fun x M1 => (evb sl M1).bind fun y M2 => match cmp1 op x y M2 with
      | some true => (evc sl M2).bind fun z M3 => ofO ((cmp1 op' y z M3).map boolV) M3
      | some false => .ok (boolV false) M2
      | none => .bad).bind (fun x M1 => ofO (isB x) M1) = (eva sl M).bind fun x M1 => (evb sl M1).bind fun y M2 => match cmp1 op x y M2 with
      | some true => (evc sl M2).bind fun z M3 => ofO (cmp1 op' y z M3) M3
      | some false => .ok false M2
      | none => .bad := by
    cases eva sl M with
    | ok x M1 =>
      show ((evb sl M1).bind _).bind _ = (evb sl M1).bind _
      cases evb sl M1 with
      | ok y M2 =>
        show Res.bind (match cmp1 op x y M2 with | some true => _ | some false => _ | none => _) _ = (match cmp1 op x y M2 with | some true => _ | some false => _ | none => _)
        cases cmp1 op x y M2 with
        | none => rfl
        | some k => cases k with
          | false => rfl
          | true =>
            show ((evc sl M2).bind _).bind _ = (evc sl M2).bind _
            cases evc sl M2 with
            | ok z M3 =>
              show (ofO ((cmp1 op' y z M3).map boolV) M3).bind _ = ofO (cmp1 op' y z M3) M3
              cases cmp1 op' y z M3 <;> rfl
            | _ => rfl
      | _ => rfl
    | _ => rfl
  simp only [e0] at h
  refine tR.then hs hm h fun x M1 v H1 m1 s1 hs1 rx h1 => tR.then hs1 m1 h1 fun y M2 u H2 m2 s2 hs2 ry h2 => ?_
  cases e : cmp1 op x y M2 with
  | none => simp only [e] at h2; exact h2.elim
  | some k =>
    refine cmp1_of m2 (s2.rr rx) ry e ⟨k, rfl, ?_⟩
    cases k with
    | false => simp only [e] at h2; rw [if_neg Bool.false_ne_true]; exact ⟨_, rfl, h2.ok m2 .refl⟩
    | true =>
      simp only [e] at h2
      rw [if_pos rfl]
      refine tR.then hs2 m2 h2 fun z M3 w H3 m3 s3 hs3 rz h3 => ?_
      cases e' : cmp1 op' y z M3 with
      | none => simp only [e'] at h3; exact h3.elim
      | some k' =>
        simp only [e'] at h3
        exact cmp1_of m3 (s3.rr ry) rz e' ⟨_, rfl, h3.ok m3 .refl⟩
/-! tests -/
theorem t_val (ha : PE X a (tR g pn W eva)) (he : ∀ whole, isTrue a X.env whole = (do let v ← whole; standAt a.pos; holding [v] (truthy v))) :
    PT X a (tB g pn W fun sl M => (eva sl M).bind fun x M1 => ofO (isB x) M1) := by
  refine pt_imp (pt_val ha he) fun σ H Q ⟨sl, M, μ, Z0, hs, hm, h⟩ => ?_
  refine tR.then hs hm h fun x M1 v H1 m1 s1 hs1 rx h1 => ?_
  cases e : isB x with
  | none => simp only [e] at h1; exact h1.elim
  | some k => simp only [e] at h1; exact ⟨k, rx.isB e, h1.ok m1 .refl⟩
theorem t_tru (hK : g.K = X.K) (ha : PE X a (tR g pn W eva)) (he : ∀ whole, isTrue a X.env whole = (do let v ← whole; standAt a.pos; holding [v] (truthy v))) :
    PT X a (tB g pn W fun sl M => (eva sl M).bind fun x M1 => match x.get M1 with | some d => ofO (truD d) M1 | none => .bad) := by
  refine pt_imp (pt_truth ha he) fun σ H Q ⟨sl, M, μ, Z0, hs, hm, h⟩ => ?_
  refine tR.then hs hm h fun x M1 v H1 m1 s1 hs1 rx h1 => ?_
  cases e : x.get M1 with
  | none => simp only [e] at h1; exact h1.elim
  | some d => cases e' : truD d with
    | none => simp only [e, e'] at h1; exact h1.elim
    | some k => simp only [e, e'] at h1; exact ⟨k, tru_of hK (rx.read m1 e) e', h1.ok m1 .refl⟩
theorem t_not (ha : PT X a (tB g pn W tva)) : PT X (.UnaryOp .Not a pos) (tB g pn W fun sl M => (tva sl M).bind fun k M1 => .ok (!k) M1) :=
  pt_imp (pt_not ha) fun σ H Q ⟨sl, M, μ, Z0, hs, hm, h⟩ => tB.then hs hm h fun k M1 H1 m1 s1 hs1 h1 => h1.ok m1 .refl
theorem w_one {op : BoolOp} (ha : PT X a (tB g pn W tva)) : PW X (.BoolOp op [a] pos) (tB g pn W tva) := by
  cases op with
  | And => exact pw_and1 ha
  | Or => exact pw_or1 ha
theorem w_and {rest : List Expr} (ha : PT X a (tB g pn W tva)) (hb : PW X (.BoolOp .And (b :: rest) pos) (tB g pn W tvb)) :
    PW X (.BoolOp .And (a :: b :: rest) pos) (tB g pn W fun sl M => (tva sl M).bind fun k M1 => if k = true then tvb sl M1 else .ok false M1) := by
  refine pw_imp (pw_and ha hb) fun σ H Q ⟨sl, M, μ, Z0, hs, hm, h⟩ => tB.then hs hm h fun k M1 H1 m1 s1 hs1 h1 => ?_
  cases k with
  | true => rw [if_pos rfl] at h1 ⊢; exact ⟨sl, M1, μ, Z0, hs1, m1, h1⟩
  | false => rw [if_neg Bool.false_ne_true] at h1 ⊢; exact h1.ok m1 .refl
theorem w_or {rest : List Expr} (ha : PT X a (tB g pn W tva)) (hb : PW X (.BoolOp .Or (b :: rest) pos) (tB g pn W tvb)) :
    PW X (.BoolOp .Or (a :: b :: rest) pos) (tB g pn W fun sl M => (tva sl M).bind fun k M1 => if k = true then .ok true M1 else tvb sl M1) := by
  refine pw_imp (pw_or ha hb) fun σ H Q ⟨sl, M, μ, Z0, hs, hm, h⟩ => tB.then hs hm h fun k M1 H1 m1 s1 hs1 h1 => ?_
  cases k with
  | true => rw [if_pos rfl] at h1 ⊢; exact h1.ok m1 .refl
  | false => rw [if_neg Bool.false_ne_true] at h1 ⊢; exact ⟨sl, M1, μ, Z0, hs1, m1, h1⟩
theorem e_ife {t : Expr} (ht : PT X t (tB g pn W tva)) (ha : PE X a (tR g pn W eva)) (hb : PE X b (tR g pn W evb)) :
    PE X (.IfExp t a b pos) (tR g pn W fun sl M => (tva sl M).bind fun k M1 => if k = true then eva sl M1 else evb sl M1) := by
  refine pe_imp (pe_ifExp ht ha hb) fun σ H Q ⟨sl, M, μ, Z0, hs, hm, h⟩ => tB.then hs hm h fun k M1 H1 m1 s1 hs1 h1 => ?_
  cases k with
  | true => rw [if_pos rfl] at h1 ⊢; exact tR.last hs1 m1 h1 fun a M2 H2 s2 q v r f => q v r (f.start fun c q => s1.dom c q)
  | false => rw [if_neg Bool.false_ne_true] at h1 ⊢; exact tR.last hs1 m1 h1 fun a M2 H2 s2 q v r f => q v r (f.start fun c q => s1.dom c q)
/-! argument lists -/
theorem a_nil : PA X [] (tRs g pn W fun _ M => .ok [] M) := pa_imp pa_nil fun σ H Q ⟨sl, M, μ, Z0, hs, hm, h⟩ => h.ok hm .refl [] .nil
variable {es : List Expr} {evs : Slots → Sto → Res (List RV)}
theorem a_cons (ha : PE X a (tR g pn W eva)) (hr : PA X es (tRs g pn W evs)) (hn : ∀ env, starEach (a :: es) env = (false, eval a env) :: starEach es env) :
    PA X (a :: es) (tRs g pn W fun sl M => (eva sl M).bind fun x M1 => (evs sl M1).bind fun xs M2 => .ok (x :: xs) M2) :=
  pa_imp (pa_cons ha hr (hn _)) fun σ H Q ⟨sl, M, μ, Z0, hs, hm, h⟩ => tR.then hs hm h fun x M1 v H1 m1 s1 hs1 rx h1 =>
    tRs.then hs1 m1 h1 fun xs M2 vs H2 m2 s2 hs2 rxs h2 => h2.ok m2 .refl _ (.cons (s2.rr rx) rxs)
theorem a_star {p : Pos} (hK : g.K = X.K) (ha : PE X a (tR g pn W eva)) (hr : PA X es (tRs g pn W evs)) :
    PA X (.Starred a p :: es) (tRs g pn W fun sl M => (eva sl M).bind fun x M1 => match x.get M1 with
      | some (.lst xs) => (evs sl M1).bind fun ys M2 => .ok (xs.map (.p false) ++ ys) M2
      | some (.tup xs) => (evs sl M1).bind fun ys M2 => .ok (xs.map (.p false) ++ ys) M2
      | _ => .bad) := by
  refine pa_imp (StX.pa_star ha hr) fun σ H Q ⟨sl, M, μ, Z0, hs, hm, h⟩ => tR.then hs hm h fun x M1 v H1 m1 s1 hs1 rx h1 => ?_
  cases e : x.get M1 with
  | none => simp only [e] at h1; exact h1.elim
  | some d =>
    have rd := rx.read m1 e
    cases d with
    | lst xs =>
      simp only [e] at h1
      obtain ⟨p, vs, rfl, hp, r⟩ := rd.lst
      refine ⟨p, vs, rfl, .inr (.inl (.inl hp)), tRs.then hs1 m1 h1 fun ys M2 ws H2 m2 s2 hs2 rys h2 => h2.ok m2 .refl _ ((RRs.ofD (s2.rds r)).append rys)⟩
    | tup xs =>
      simp only [e] at h1
      obtain ⟨p, vs, rfl, hp, r⟩ := rd.tup
      refine ⟨p, vs, rfl, .inl (hK ▸ hp), tRs.then hs1 m1 h1 fun ys M2 ws H2 m2 s2 hs2 rys h2 => h2.ok m2 .refl _ ((RRs.ofD (s2.rds r)).append rys)⟩
    | _ => simp only [e] at h1; exact h1.elim
theorem RRs.length {Z0 : Addr → Prop} {M : Sto} {μ : List Addr} {H : Hp} : ∀ {as : List RV} {vs : List V}, RRs g Z0 M μ H as vs → as.length = vs.length
  | _, _, .nil => rfl
  | _, _, .cons _ r => congrArg Nat.succ r.length
theorem e_tup {k : Nat} (ha : PA X es (tRs g pn W evs)) : PE X (.Tuple es k pos) (tR g pn W fun sl M => (evs sl M).bind fun as M1 => match frzs as M1 with
    | some (ds, M2) => if ds.length ≤ SZ then .ok (.p false (.tup ds)) M2 else .bad
    | none => .bad) := by
  refine pe_imp (pe_tup ha) fun σ H Q ⟨sl, M, μ, Z0, hs, hm, h⟩ => tRs.then hs hm h fun as M1 vs H1 m1 s1 hs1 rs h1 => ?_
  cases e : frzs as M1 with
  | none => simp only [e] at h1; exact h1.elim
  | some q =>
    obtain ⟨ds, M2⟩ := q
    simp only [e] at h1
    split at h1
    · rename_i hl
      obtain ⟨m2, s2, r2⟩ := rs.frz m1 e
      refine ⟨by rw [← r2.length, ← sz_eq]; exact hl, fun p hp => ?_⟩
      obtain ⟨q1, q2, q3, q4⟩ := newV_end (Hs := H1) m2 (NewV.tup (fun a z => m2.zdom z) hp r2) (fun a q => q)
      cases q3 with | p q3 => exact h1 _ q1 (s2.trans q2) _ (.p q3) (Fr.not rfl)
    · exact h1.elim
theorem e_lst (ha : PA X es (tRs g pn W evs)) : PE X (.List es pos) (tR g pn W fun sl M => (evs sl M).bind fun as M1 => match frzs as M1 with
    | some (ds, M2) => ofO (lstOf ds) M2
    | none => .bad) := by
  refine pe_imp (pe_lst ha) fun σ H Q ⟨sl, M, μ, Z0, hs, hm, h⟩ => tRs.then hs hm h fun as M1 vs H1 m1 s1 hs1 rs h1 => ?_
  cases e : frzs as M1 with
  | none => simp only [e] at h1; exact h1.elim
  | some q =>
    obtain ⟨ds, M2⟩ := q
    simp only [e, lstOf] at h1
    split at h1
    · rename_i hl
      obtain ⟨m2, s2, r2⟩ := rs.frz m1 e
      refine ⟨by rw [← r2.length, ← sz_eq]; exact hl, fun p hp => ?_⟩
      obtain ⟨q1, q2, q3, q4⟩ := newV_end (Hs := H) m2 (NewV.lst (fun a z => m2.zdom z) hp r2) (fun a q => s2.dom a (s1.dom a q))
      exact h1 _ q1 (s2.trans q2) _ q3 q4
    · exact h1.elim
/-! subscripts, slices -/
theorem ix_ok (hK : g.K = X.K) : IxR X (fun x y H Q => ∃ (Z : Addr → Prop) (dx dy dz : D), Rdb g H Z dx x ∧ Rdb g H Z dy y ∧ idxD dx dy = some dz ∧ ∀ v, RD g H Z dz v → Q v H) := by
  intro value slice pins s σ H x y v u Q I rx ry h hsub
  obtain ⟨Z, dx, dy, dz, hx, hy, e, q⟩ := h
  unfold idxD at e
  split at e
  · cases hy.int
    obtain ⟨p, vs, rfl, hp, r⟩ := hx.lst
    obtain ⟨w, h1, h2⟩ := r.atI e
    exact ix_list value slice pins s σ H _ _ v u Q I rx ry ⟨p, vs, _, w, rfl, rfl, .inl (.inl hp), h1, q w h2⟩ hsub
  · cases hy.int
    obtain ⟨p, vs, rfl, hp, r⟩ := hx.tup
    obtain ⟨w, h1, h2⟩ := r.atI e
    exact ix_tup value slice pins s σ H _ _ v u Q I rx ry ⟨p, vs, _, w, rfl, rfl, hK ▸ hp, h1, q w h2⟩ hsub
  · rename_i ns i
    cases hy.int
    obtain ⟨p, rfl, hp⟩ := hx.scr
    cases e1 : L2.atI ns i with
    | none => rw [e1] at e; cases e
    | some n =>
      rw [e1] at e; cases e
      refine ix_list value slice pins s σ H _ _ v u Q I rx ry ⟨p, _, _, .int n, rfl, rfl, hK ▸ hp, ?_, q _ (.int n)⟩ hsub
      unfold L2.atI at e1 ⊢
      rw [List.length_map]
      cases e2 : L2.ixN ns.length i with
      | none => rw [e2] at e1; cases e1
      | some j =>
        rw [e2] at e1
        show (ns.map V.int)[j]? = _
        rw [List.getElem?_map]
        have e1 : ns[j]? = some n := e1
        rw [e1]; rfl
  · cases e
theorem e_idx (hK : g.K = X.K) (hs : noSl b = true) (ha : PE X a (tR g pn W eva)) (hb : PE X b (tR g pn W evb)) :
    PE X (.Subscript a b pos) (tR g pn W fun sl M => (eva sl M).bind fun x M1 => (evb sl M1).bind fun y M2 => ofO (idxR x y M2) M2) := by
  refine pe_imp (pe_ix (ix_ok hK) ha hb (noSl_ix hs)) fun σ H Q ⟨sl, M, μ, Z0, hs, hm, h⟩ => ?_
  refine tR.then hs hm h fun x M1 v H1 m1 s1 hs1 rx h1 => tR.then hs1 m1 h1 fun y M2 u H2 m2 s2 hs2 ry h2 => ?_
  unfold idxR at h2
  cases ex : x.get M2 with
  | none => simp only [ex] at h2; exact h2.elim
  | some dx => cases ey : y.get M2 with
    | none => simp only [ex, ey] at h2; exact h2.elim
    | some dy => cases ez : idxD dx dy with
      | none => simp only [ex, ey, ez, Option.map_none] at h2; exact h2.elim
      | some dz =>
        simp only [ex, ey, ez, Option.map_some] at h2
        exact ⟨Zof Z0 M2 μ, dx, dy, dz, (s2.rr rx).read m2 ex, ry.read m2 ey, ez, fun w hw => h2.ok m2 .refl w (.p hw) (Fr.not rfl)⟩
theorem sl_ok (hK : g.K = X.K) : SlR X (fun x lo hi H Q => ∃ (Z : Addr → Prop) (dx dz : D), (∀ a, Z a → H a ≠ none) ∧ Rdb g H Z dx x ∧ slcD dx lo hi = some dz ∧ ∀ v H', NewV g Z H H' dz v → Q v H') := by
  intro pins s σ H x v vl vu lo hi sl Q I rx hsl pl pu h
  obtain ⟨Z, dx, dz, hz, hx, e, q⟩ := h
  unfold slcD at e
  split at e
  · cases e
    obtain ⟨p, vs, rfl, hp, r⟩ := hx.lst
    exact sl_list pins s σ H _ v vl vu lo hi sl Q I rx hsl pl pu ⟨p, vs, rfl, .inl (.inl hp), fun b hb => q _ _ (.lst hz hb (r.cut lo hi))⟩
  · split at e
    · cases e
    · rename_i hw
      cases e
      obtain ⟨p, vs, rfl, hp, r⟩ := hx.tup
      exact sl_tup pins s σ H _ v vl vu lo hi sl Q I rx hsl pl pu ⟨p, vs, rfl, hK ▸ hp, by rw [← r.length]; exact hw, fun b hb => q _ _ (.tup hz hb (r.cut lo hi))⟩
  · cases e
theorem o_no : PO X none (tOi g pn W fun _ M => .ok none M) := ⟨fun pins s σ H Q I ⟨sl, M, μ, Z0, hs, hm, h⟩ => po_none.run pins s σ H Q I (h.ok hm .refl)⟩
theorem o_some (ha : PE X a (tR g pn W eva)) : PO X (some a) (tOi g pn W fun sl M => (eva sl M).bind fun x M1 => match x with | .p _ (.int i) => .ok (some i) M1 | _ => .bad) := by
  refine ⟨fun pins s σ H Q I ⟨sl, M, μ, Z0, hs, hm, h⟩ => (po_some ha).run pins s σ H Q I (tR.then hs hm h fun x M1 v H1 m1 s1 hs1 rx h1 => ?_)⟩
  cases rx with
  | own _ => exact h1.elim
  | @p fr d v hd => cases d with
    | int i => cases hd; exact ⟨i, rfl, h1.ok m1 .refl⟩
    | _ => exact h1.elim
theorem e_slc {lo hi : Option Expr} {p2 : Pos} {evl evh : Slots → Sto → Res (Option Int)} (hK : g.K = X.K) (ha : PE X a (tR g pn W eva)) (hl : PO X lo (tOi g pn W evl)) (hh : PO X hi (tOi g pn W evh)) :
    PE X (.Subscript a (.Slice lo hi none p2) pos) (tR g pn W fun sl M => (eva sl M).bind fun x M1 => (evl sl M1).bind fun l M2 => (evh sl M2).bind fun h M3 => match x.get M3 with
      | some d => ofO ((slcD d l h).map (.p true)) M3
      | none => .bad) := by
  refine pe_imp (pe_slice (sl_ok hK) ha hl hh) fun σ H Q ⟨sl, M, μ, Z0, hs, hm, h⟩ => ?_
  refine tR.then hs hm h fun x M1 v H1 m1 s1 hs1 rx h1 => tOi.then hs1 m1 h1 fun l M2 H2 m2 s2 hs2 h2 => tOi.then hs2 m2 h2 fun u M3 H3 m3 s3 hs3 h3 => ?_
  cases ex : x.get M3 with
  | none => simp only [ex] at h3; exact h3.elim
  | some dx => cases ez : slcD dx l u with
    | none => simp only [ex, ez, Option.map_none] at h3; exact h3.elim
    | some dz =>
      simp only [ex, ez, Option.map_some] at h3
      refine ⟨Zof Z0 M3 μ, dx, dz, fun a z => m3.zdom z, (s3.rr (s2.rr rx)).read m3 ex, ez, fun w H' nv => ?_⟩
      obtain ⟨q1, q2, q3, q4⟩ := newV_end (Hs := H) m3 nv (fun a q => s3.dom a (s2.dom a (s1.dom a q)))
      exact h3 H' q1 q2 w q3 q4
end
end DI

/-! DI.F3: calls -/
namespace DI
open PySem PySem.Spec PyProof.Rows L2

/-- the promise of a call: what the evaluator says of the arguments written -/
def spC (g : Gx) (o : List DV → Sto → Res RV) : Sp := fun vs H Q E => ∃ (as : List DV) (M : Sto) (μ : List Addr) (Z0 : Addr → Prop),
  Paired (RN g [] Z0 M μ H) as vs ∧ RM g Z0 M μ H ∧ match o as M with
    | .ok a M' => ∀ H' v, RM g Z0 M' μ H' → Stp M μ H M' μ H' → RR g Z0 M' μ H' a v → Fr g Z0 M' μ H H' a v → Q v H'
    | .exc x M' => ∀ dx H', RM g Z0 M' μ H' → Stp M μ H M' μ H' → RX g Z0 M' μ H' x dx → E (.ref (g.xa x.c)) (some dx) H'
    | .bad => False
section
variable {g : Gx} {pn : List (Addr × Obj)} {W : WX} {X : Cx} {pos p : Pos} {a : Expr} {es : List Expr} {eva : Slots → Sto → Res RV} {evs : Slots → Sto → Res (List RV)}
theorem RRs.gets {Z0 : Addr → Prop} {M : Sto} {μ : List Addr} {H : Hp} (m : RM g Z0 M μ H) : ∀ {as : List RV} {vs : List V} {ds : List D}, RRs g Z0 M μ H as vs → gets M as = some ds → Paired (Rdb g H (Zof Z0 M μ)) ds vs
  | _, _, _, .nil, e => by cases e; exact .nil
  | a :: as, v :: vs, ds, .cons h r, e => by
    unfold DI.gets at e
    cases e1 : a.get M with
    | none => simp [e1] at e
    | some d => cases e2 : DI.gets M as with
      | none => simp [e1, e2] at e
      | some es =>
        simp only [e1, e2, Option.some.injEq] at e
        subst e
        exact .cons (h.read m e1) (RRs.gets m r e2)
theorem RRs.dvs {Z0 : Addr → Prop} {M : Sto} {μ : List Addr} {H : Hp} : ∀ {as : List RV} {vs : List V}, RRs g Z0 M μ H as vs → Paired (RN g [] Z0 M μ H) (as.map RV.dv) vs
  | _, _, .nil => .nil
  | _, _, .cons h r => .cons h.rn (RRs.dvs r)
/-- what a built-in gives for data -/
def rBi (g : Gx) (f : Str) : List V → Hp → VK → Prop := fun vs H Q => ∃ (Z : Addr → Prop) (ds : List D) (r : RV), (∀ a, Z a → H a ≠ none) ∧ Paired (Rdb g H Z) ds vs ∧ biD f ds = some r ∧ match r with
  | .p fr d => ∀ v H', NewV g Z H H' d v ∨ (fr = false ∧ H' = H ∧ RD g H Z d v) → Q v H'
  | .own _ => False
def biTy (f : Str) : Option (Bool × String) :=
  if f = "len" then some (false, "len") else if f = "int" then some (true, "int") else if f = "min" then some (false, "min") else if f = "max" then some (false, "max")
  else if f = "list" then some (true, "list") else if f = "tuple" then some (true, "tuple") else if f = "sorted" then some (false, "sorted")
  else if f = "any" then some (false, "any") else if f = "all" then some (false, "all") else if f = "sum" then some (false, "sum") else none
theorem p1 {α β : Type} {F : α → β → Prop} {x : α} {vs : List β} (h : Paired F [x] vs) : ∃ v, vs = [v] ∧ F x v := by
  cases h with | cons h r => cases r; exact ⟨_, rfl, h⟩
theorem p2 {α β : Type} {F : α → β → Prop} {x y : α} {vs : List β} (h : Paired F [x, y] vs) : ∃ v w, vs = [v, w] ∧ F x v ∧ F y w := by
  cases h with | cons h r => cases r with | cons h' r => cases r; exact ⟨_, _, rfl, h, h'⟩
theorem bi_len (hK : g.K = X.K) : CallR X (.builtin "len") (rBi g "len") := by
  intro pins s σ H vs us Q I r h
  obtain ⟨Z, ds, rv, hz, hd, e, q⟩ := h
  unfold biD at e
  rw [if_pos rfl] at e
  refine call_len pins s σ H vs us Q I r ?_
  split at e
  · cases e
    obtain ⟨v, rfl, hv⟩ := p1 hd
    obtain ⟨b, ws, rfl, hb, rb⟩ := hv.lst
    exact ⟨_, ws.length, rfl, .inl ⟨ws, .inl (.inl hb), rfl⟩, q _ _ (.inl (by rw [rb.length]; exact .int))⟩
  · cases e
    obtain ⟨v, rfl, hv⟩ := p1 hd
    obtain ⟨b, ws, rfl, hb, rb⟩ := hv.tup
    exact ⟨_, ws.length, rfl, .inr ⟨ws, hK ▸ hb, rfl⟩, q _ _ (.inl (by rw [rb.length]; exact .int))⟩
  · rename_i ys
    cases e
    obtain ⟨v, rfl, hv⟩ := p1 hd
    obtain ⟨b, rfl, hb⟩ := hv.scr
    exact ⟨_, ys.length, rfl, .inl ⟨_, hK ▸ hb, by simp⟩, q _ _ (.inl .int)⟩
  · cases e
theorem bi_int : CallR X (.type "int") (rBi g "int") := by
  intro pins s σ H vs us Q I r h
  obtain ⟨Z, ds, rv, hz, hd, e, q⟩ := h
  unfold biD at e
  rw [if_neg (by decide), if_pos rfl] at e
  refine call_int1 pins s σ H vs us Q I r ?_
  split at e
  · cases e
    obtain ⟨v, rfl, hv⟩ := p1 hd
    cases hv.int
    exact .inl ⟨_, rfl, q _ _ (.inl .int)⟩
  · cases e
theorem bi_min (hc : X.calm = true) : CallR X (.builtin "min") (rBi g "min") := by
  intro pins s σ H vs us Q I r h
  obtain ⟨Z, ds, rv, hz, hd, e, q⟩ := h
  unfold biD at e
  rw [if_neg (by decide), if_neg (by decide), if_pos rfl] at e
  refine call_min2 hc pins s σ H vs us Q I r ?_
  split at e
  · cases e
    obtain ⟨v, w, rfl, hv, hw⟩ := p2 hd
    cases hv.int; cases hw.int
    exact ⟨_, _, rfl, q _ _ (.inl .int)⟩
  · cases e
theorem bi_max (hc : X.calm = true) : CallR X (.builtin "max") (rBi g "max") := by
  intro pins s σ H vs us Q I r h
  obtain ⟨Z, ds, rv, hz, hd, e, q⟩ := h
  unfold biD at e
  rw [if_neg (by decide), if_neg (by decide), if_neg (by decide), if_pos rfl] at e
  refine call_max2 hc pins s σ H vs us Q I r ?_
  split at e
  · cases e
    obtain ⟨v, w, rfl, hv, hw⟩ := p2 hd
    cases hv.int; cases hw.int
    exact ⟨_, _, rfl, q _ _ (.inl .int)⟩
  · cases e
theorem bi_list (hK : g.K = X.K) : CallR X (.type "list") (rBi g "list") := by
  intro pins s σ H vs us Q I r h
  obtain ⟨Z, ds, rv, hz, hd, e, q⟩ := h
  unfold biD at e
  rw [if_neg (by decide), if_neg (by decide), if_neg (by decide), if_neg (by decide), if_pos rfl] at e
  refine call_list_of pins s σ H vs us Q I r ?_
  split at e
  · cases e
    obtain ⟨v, rfl, hv⟩ := p1 hd
    obtain ⟨b, ws, rfl, hb, rb⟩ := hv.lst
    exact ⟨b, ws, rfl, .inl (.inl (.inl hb)), fun l hl => q _ _ (.inl (.lst hz hl rb))⟩
  · cases e
    obtain ⟨v, rfl, hv⟩ := p1 hd
    obtain ⟨b, ws, rfl, hb, rb⟩ := hv.tup
    exact ⟨b, ws, rfl, .inr (hK ▸ hb), fun l hl => q _ _ (.inl (.lst hz hl rb))⟩
  · cases e
theorem bi_tuple (hK : g.K = X.K) : CallR X (.type "tuple") (rBi g "tuple") := by
  intro pins s σ H vs us Q I r h
  obtain ⟨Z, ds, rv, hz, hd, e, q⟩ := h
  unfold biD at e
  rw [if_neg (by decide), if_neg (by decide), if_neg (by decide), if_neg (by decide), if_neg (by decide), if_pos rfl] at e
  refine call_tuple_of pins s σ H vs us Q I r ?_
  split at e
  · cases e
    obtain ⟨v, rfl, hv⟩ := p1 hd
    obtain ⟨b, ws, rfl, hb, rb⟩ := hv.lst
    exact ⟨b, ws, rfl, .inl ⟨.inl (.inl hb), fun l hl => q _ _ (.inl (.tup hz hl rb))⟩⟩
  · cases e
    obtain ⟨v, rfl, hv⟩ := p1 hd
    have hv2 := hv
    obtain ⟨b, ws, rfl, hb, rb⟩ := hv.tup
    refine ⟨b, ws, rfl, .inr ⟨hK ▸ hb, q _ _ (.inr ⟨rfl, rfl, ?_⟩)⟩⟩
    cases hv2 with
    | d h => exact h
    | o h r => cases r
  · cases e
theorem bi_sorted (hK : g.K = X.K) (hu : X.A.units + 65 < cLine) : CallR X (.builtin "sorted") (rBi g "sorted") := by
  intro pins s σ H vs us Q I r h
  obtain ⟨Z, ds, rv, hz, hd, e, q⟩ := h
  unfold biD at e
  rw [if_neg (by decide), if_neg (by decide), if_neg (by decide), if_neg (by decide), if_neg (by decide), if_neg (by decide), if_pos rfl] at e
  refine call_sortD hK hu pins s σ H vs us Q I r ?_
  split at e
  · split at e
    · rename_i hs
      cases e
      obtain ⟨v, rfl, hv⟩ := p1 hd
      obtain ⟨b, ws, rfl, hb, rb⟩ := hv.lst
      exact ⟨Z, b, _, ws, rfl, hb, rb, hs, fun D' ws' hD r' => q _ _ (.inl (.lst hz hD r'))⟩
    · cases e
  · cases e
theorem bls_of {H : Hp} {Z : Addr → Prop} : ∀ {xs : List D} {vs : List V} {bs : List Bool}, RDs g H Z xs vs → blsO xs = some bs → vs = bs.map V.bl
  | [], _, _, .nil, e => by cases e; rfl
  | x :: xs, _, _, .cons h r, e => by
    cases x with
    | bl b =>
      have e : (blsO xs).map (b :: ·) = some _ := e
      cases q : blsO xs with
      | none => rw [q] at e; cases e
      | some cs =>
        rw [q] at e; cases e
        cases h
        rw [bls_of r q]; rfl
    | _ => cases e
theorem ints_of {H : Hp} {Z : Addr → Prop} : ∀ {xs : List D} {vs : List V} {bs : List Int}, RDs g H Z xs vs → intsO xs = some bs → vs = bs.map V.int
  | [], _, _, .nil, e => by cases e; rfl
  | x :: xs, _, _, .cons h r, e => by
    cases x with
    | int b =>
      have e : (intsO xs).map (b :: ·) = some _ := e
      cases q : intsO xs with
      | none => rw [q] at e; cases e
      | some cs =>
        rw [q] at e; cases e
        cases h
        rw [ints_of r q]; rfl
    | _ => cases e
theorem bi_any (hc : X.calm = true) : CallR X (.builtin "any") (rBi g "any") := by
  intro pins s σ H vs us Q I r h
  obtain ⟨Z, ds, rv, hz, hd, e, q⟩ := h
  unfold biD at e
  rw [if_neg (by decide), if_neg (by decide), if_neg (by decide), if_neg (by decide), if_neg (by decide), if_neg (by decide), if_neg (by decide), if_pos rfl] at e
  refine cr_any hc pins s σ H vs us Q I r ?_
  split at e
  · obtain ⟨bs, e1, rfl⟩ := Option.map_eq_some_iff.mp e
    obtain ⟨v, rfl, hv⟩ := p1 hd
    obtain ⟨b, ws, rfl, hb, rb⟩ := hv.lst
    have := bls_of rb e1
    subst this
    exact ⟨b, bs, rfl, .inl (.inl hb), q _ _ (.inl (.flat (.bl _) fun b e => nomatch e))⟩
  · cases e
theorem bi_all (hc : X.calm = true) : CallR X (.builtin "all") (rBi g "all") := by
  intro pins s σ H vs us Q I r h
  obtain ⟨Z, ds, rv, hz, hd, e, q⟩ := h
  unfold biD at e
  rw [if_neg (by decide), if_neg (by decide), if_neg (by decide), if_neg (by decide), if_neg (by decide), if_neg (by decide), if_neg (by decide), if_neg (by decide), if_pos rfl] at e
  refine cr_all hc pins s σ H vs us Q I r ?_
  split at e
  · obtain ⟨bs, e1, rfl⟩ := Option.map_eq_some_iff.mp e
    obtain ⟨v, rfl, hv⟩ := p1 hd
    obtain ⟨b, ws, rfl, hb, rb⟩ := hv.lst
    have := bls_of rb e1
    subst this
    exact ⟨b, bs, rfl, .inl (.inl hb), q _ _ (.inl (.flat (.bl _) fun b e => nomatch e))⟩
  · cases e
theorem bi_sum (hc : X.calm = true) : CallR X (.builtin "sum") (rBi g "sum") := by
  intro pins s σ H vs us Q I r h
  obtain ⟨Z, ds, rv, hz, hd, e, q⟩ := h
  unfold biD at e
  rw [if_neg (by decide), if_neg (by decide), if_neg (by decide), if_neg (by decide), if_neg (by decide), if_neg (by decide), if_neg (by decide), if_neg (by decide), if_neg (by decide), if_pos rfl] at e
  refine cr_sum hc pins s σ H vs us Q I r ?_
  split at e
  · obtain ⟨bs, e1, rfl⟩ := Option.map_eq_some_iff.mp e
    obtain ⟨v, rfl, hv⟩ := p1 hd
    obtain ⟨b, ws, rfl, hb, rb⟩ := hv.lst
    have := ints_of rb e1
    subst this
    exact ⟨b, bs, rfl, .inl (.inl hb), q _ _ (.inl .int)⟩
  · cases e
theorem rBi_of {f : Str} {sl : Slots} {σ : L2.St} {Z0 : Addr → Prop} {M : Sto} {μ : List Addr} {H : Hp} {Q : VK} (hs : RSl g pn Z0 M μ H sl σ) (hm : RM g Z0 M μ H)
    (h : Pst g W σ Z0 M μ H ((evs sl M).bind fun as M1 => match gets M1 as with | some ds => ofO (biD f ds) M1 | none => .bad) fun a M' H' => ∀ v, RR g Z0 M' μ H' a v → Fr g Z0 M' μ H H' a v → Q v H') :
    tRs g pn W evs σ H fun vs H1 => rBi g f vs H1 Q := by
  refine tRs.then hs hm h fun as M1 vs H1 m1 s1 hs1 rs h1 => ?_
  cases e : gets M1 as with
  | none => simp only [e] at h1; exact h1.elim
  | some ds => cases e2 : biD f ds with
    | none => simp only [e, e2] at h1; exact h1.elim
    | some r =>
      simp only [e, e2] at h1
      refine ⟨Zof Z0 M1 μ, ds, r, fun a z => m1.zdom z, rs.gets m1 e, e2, ?_⟩
      cases r with
      | p fr d =>
        intro v H' nv
        rcases nv with nv | ⟨rfl, rfl, hd⟩
        · obtain ⟨q1, q2, q3, q4⟩ := newV_end (Hs := H) m1 nv (fun a q => s1.dom a q)
          cases q3 with | p q3 =>
          refine h1 H' q1 q2 v (.p q3) fun e q b eb => ?_
          cases q; exact q4 d rfl b eb
        · exact h1 H' m1 .refl v (.p hd) (Fr.not rfl)
      | own k =>
        exfalso
        unfold biD at e2
        (repeat' split at e2) <;> first | cases e2 | (obtain ⟨_, _, q⟩ := Option.map_eq_some_iff.mp e2; cases q)
/-- a built-in called by its name -/
theorem e_bi {f : Str} (hK : g.K = X.K) (hu : X.A.units + 65 < cLine) (hc : X.calm = true) (hg : Gl X f) (hm : X.mg f = none) (hn : noStar (a :: es) = true) (q : (biTy f).isSome = true) (ha : PA X (a :: es) (tRs g pn W evs)) :
    PE X (.Call (.Name f p) (a :: es) [] pos) (tR g pn W fun sl M => (evs sl M).bind fun as M1 => match gets M1 as with | some ds => ofO (biD f ds) M1 | none => .bad) := by
  have h1 : ∀ {id : String}, CallR X (.builtin id) (rBi g f) → bootBuiltins f = some (.builtin id) → f ≠ "__name__" → (f == ("__debug__" : Str)) = false → PE X (.Call (.Name f p) (a :: es) [] pos) (tR g pn W fun sl M => (evs sl M).bind fun as M1 => match gets M1 as with | some ds => ofO (biD f ds) M1 | none => .bad) := fun hcr hb h1 h2 =>
    pe_imp (pe_callB hcr hg hm hb ha h1 h2 (star_plain hn _) (plain_any (noStar_tl hn))) fun σ H Q ⟨sl, M, μ, Z0, hs, hm, h⟩ => rBi_of hs hm h
  have h2 : ∀ {T : String}, CallR X (.type T) (rBi g f) → bootBuiltins f = some (.type T) → f ≠ "__name__" → (f == ("__debug__" : Str)) = false → PE X (.Call (.Name f p) (a :: es) [] pos) (tR g pn W fun sl M => (evs sl M).bind fun as M1 => match gets M1 as with | some ds => ofO (biD f ds) M1 | none => .bad) := fun hcr hb h1 h2 =>
    pe_imp (pe_callTy hcr hg hm hb ha h1 h2 (star_plain hn _) (plain_any (noStar_tl hn))) fun σ H Q ⟨sl, M, μ, Z0, hs, hm, h⟩ => rBi_of hs hm h
  unfold biTy at q
  split at q
  · rename_i e; subst e; exact h1 (bi_len hK) PySem.boot_len (by decide) (by decide)
  split at q
  · rename_i e; subst e; exact h2 bi_int (by decide +kernel) (by decide) (by decide)
  split at q
  · rename_i e; subst e; exact h1 (bi_min hc) (by decide +kernel) (by decide) (by decide)
  split at q
  · rename_i e; subst e; exact h1 (bi_max hc) (by decide +kernel) (by decide) (by decide)
  split at q
  · rename_i e; subst e; exact h2 (bi_list hK) (by decide +kernel) (by decide) (by decide)
  split at q
  · rename_i e; subst e; exact h2 (bi_tuple hK) (by decide +kernel) (by decide) (by decide)
  split at q
  · rename_i e; subst e; exact h1 (bi_sorted hK hu) (by decide +kernel) (by decide) (by decide)
  split at q
  · rename_i e; subst e; exact h1 (bi_any hc) (by decide +kernel) (by decide) (by decide)
  split at q
  · rename_i e; subst e; exact h1 (bi_all hc) (by decide +kernel) (by decide) (by decide)
  split at q
  · rename_i e; subst e; exact h1 (bi_sum hc) (by decide +kernel) (by decide) (by decide)
  · cases q
end
end DI

/-! DI.F4: own calls, instances -/
namespace DI
open PySem PySem.Spec PyProof.Rows L2
section
variable {g : Gx} {pn : List (Addr × Obj)} {W : WX} {X : Cx} {pos p apos : Pos} {a o : Expr} {es : List Expr} {eva : Slots → Sto → Res RV} {evs : Slots → Sto → Res (List RV)} {k : Nat} {f C : Addr} {sp : Sp} {x m : Str}
/-- the callee runs, what it raises is wished for at the caller's slots -/
theorem run_fnC {pins : List (Addr × Obj)} {σ : L2.St} {H : Hp} {s : Shared} {Q : VK} {us : List Value} {vs : List V} (F : FnR X.prog X.w X.K X.mg X.base (L2.CX X.prog X.w) k f sp) (hr : Room k X.A) (tk : Takes X W)
    (I : L2.Inv X pins σ H s) (r : L2.Vals vs us) (h : sp vs H Q fun cls d H => W cls d σ H) : wpAny (model X.prog X.w) X.A (call (.ref f) us) (EP X pins σ Q) X.xe s := by
  refine wpAny_call (codeAny_mono (F X.A X.stack s H us vs Q _ hr I.env0 r h) fun r s' hq => ?_)
  match r, hq with
  | .error e, hq => exact passAt tk σ pins H s e s' I hq
  | .ok (.ret u), hq => exact I.after hq
  | .ok .next, hq => exact hq.elim
  | .ok .brk, hq => exact hq.elim
  | .ok .cont, hq => exact hq.elim
/-- from what is wanted of a call's result to its promise -/
theorem spC_of {c : List DV → Sto → Res RV} {as : List DV} {vs : List V} {sl : Slots} {σ : L2.St} {Z0 : Addr → Prop} {M : Sto} {μ : List Addr} {H Hs : Hp} {Q : VK} (m : RM g Z0 M μ H) (hh : ∀ a, Hs a ≠ none → H a ≠ none)
    (r : Paired (RN g [] Z0 M μ H) as vs) (h : Pst g W σ Z0 M μ H (c as M) fun a M' H' => ∀ v, RR g Z0 M' μ H' a v → Fr g Z0 M' μ Hs H' a v → Q v H') : spC g c vs H Q fun cls d H => W cls d σ H := by
  refine ⟨as, M, μ, Z0, r, m, ?_⟩
  cases e : c as M with
  | ok b M' => rw [e] at h; exact fun H' v m' s' r' f' => h H' m' s' v r' (f'.start hh)
  | exc y M' => rw [e] at h; exact fun dx H' m' s' rx => h dx H' m' s' rx
  | bad => rw [e] at h; exact h
variable {e : Expr} {c : List DV → Sto → Res RV}
theorem e_call (F : FnR X.prog X.w X.K X.mg X.base (L2.CX X.prog X.w) k f (spC g c)) (hr : Room k X.A) (tk : Takes X W) (hg : Gl X x) (hm : X.mg x = some (.ref f)) (hk : PySem.W.keepIn X.K (.ref f) = true) (hd : (x == ("__debug__" : Str)) = false)
    (hn : noStar (e :: es) = true) (ha : PA X (e :: es) (tRs g pn W evs)) : PE X (.Call (.Name x p) (e :: es) [] pos) (tR g pn W fun sl M => (evs sl M).bind fun as M1 => c (as.map RV.dv) M1) := by
  refine ⟨fun pins s σ H Q I ⟨sl, M, μ, Z0, hs, hm', h⟩ => ?_⟩
  have t : tRs g pn W evs σ H fun vs H1 => spC g c vs H1 Q fun cls d H => W cls d σ H := tRs.then hs hm' h fun as M1 vs H1 m1 s1 hs1 rs h1 => spC_of (sl := sl) m1 (fun a q => s1.dom a q) rs.dvs h1
  refine wpAny_Call_Name_kw (ld_glob I hg hm ?_ hd)
  exact PySem.W.callWith_K (h₀ := X.base) I.ok.mod.kin hk (thn (ha.run pos pins s σ H _ I t) fun us s1 ⟨vs, H1, I1, r, q⟩ => ⟨I1.kIn, run_fnC F hr tk I1 r q⟩) (star_plain hn _) (plain_any (noStar_tl hn))
theorem e_call0 (F : FnR X.prog X.w X.K X.mg X.base (L2.CX X.prog X.w) k f (spC g c)) (hr : Room k X.A) (tk : Takes X W) (hg : Gl X x) (hm : X.mg x = some (.ref f)) (hk : PySem.W.keepIn X.K (.ref f) = true) (hd : (x == ("__debug__" : Str)) = false) :
    PE X (.Call (.Name x p) [] [] pos) (tR g pn W fun _ M => c [] M) := by
  refine ⟨fun pins s σ H Q I ⟨sl, M, μ, Z0, hs, hm', h⟩ => ?_⟩
  refine wpAny_Call_Name_kw (ld_glob I hg hm ?_ hd)
  exact PySem.W.callWith_K0 I.kIn hk (run_fnC (us := []) F hr tk I .nil (spC_of (sl := sl) hm' (fun a q => q) .nil h))
/-- a new instance, its __init__ -/
theorem run_mkC {pins : List (Addr × Obj)} {σ : L2.St} {H : Hp} {s : Shared} {Q : VK} {us : List Value} {vs : List V} (M : Mk X.K C f) (F : FnR X.prog X.w X.K X.mg X.base (L2.CX X.prog X.w) k f sp) (hr : Room (k + 1) X.A) (tk : Takes X W)
    (I : L2.Inv X pins σ H s) (r : L2.Vals vs us)
    (h : ∀ y dx, H y = none → H dx = none → dx ≠ y → sp (.ref y :: vs) (upd (upd H dx (.own y)) y (.ins C dx [])) (fun v H2 => v = .non ∧ Q (.ref y) H2) fun cls d H => W cls d σ H) :
    wpAny (model X.prog X.w) X.A (call (.ref C) us) (EP X pins σ Q) X.xe s := by
  have hq := h (s.heap.objs.size + 1) s.heap.objs.size (I.hok.fresh (Nat.le_succ _)) (I.hok.fresh (Nat.le_refl _)) (Nat.ne_of_lt (Nat.lt_succ_self _))
  have I2 := L2.Inv.made (C := C) I
  have r2 : L2.Vals (V.ref (s.heap.objs.size + 1) :: vs) (Value.ref (s.heap.objs.size + 1) :: us) := .cons rfl r
  refine wpAny_call (make_map (f := f) I.kIn M.makes M.init (beq_iff_eq.mp M.fn) (codeAny_mono (F _ X.stack _ _ (Value.ref (s.heap.objs.size + 1) :: us) _ _ _ (hr.make C us []) (I2.env0.make C us []) r2 hq) fun r s' hq' => ?_))
  match r, hq' with
  | .error e, hq' => exact passAt tk σ pins _ _ e s' I2 hq'
  | .ok (.ret u), hq' =>
    obtain ⟨v, H', I3, rv, ev, q3⟩ := I2.after hq'
    subst ev
    exact ⟨rv, ⟨V.ref (s.heap.objs.size + 1), H', I3, rfl, q3⟩⟩
  | .ok .next, hq' => exact hq'.elim
  | .ok .brk, hq' => exact hq'.elim
  | .ok .cont, hq' => exact hq'.elim
/-- the store with a new instance -/
theorem RM.made {Z0 : Addr → Prop} {M : Sto} {μ : List Addr} {H : Hp} {cl : Nat} {y dx : Addr} (m : RM g Z0 M μ H) (hy : H y = none) (hdx : H dx = none) (hne : dx ≠ y) :
    RM g Z0 (M ++ [.live (.ins cl [])]) (μ ++ [y]) (upd (upd H dx (.own y)) y (.ins (g.ca cl) dx [])) ∧ Stp M μ H (M ++ [.live (.ins cl [])]) (μ ++ [y]) (upd (upd H dx (.own y)) y (.ins (g.ca cl) dx [])) := by
  have g1 : Grow H (upd H dx (.own y)) := .new hdx
  have hy2 : upd H dx (.own y) y = none := by rw [upd_ne (Ne.symm hne)]; exact hy
  have m1 := g1.rm m
  have g2 : Grow (upd H dx (.own y)) (upd (upd H dx (.own y)) y (.ins (g.ca cl) dx [])) := .new hy2
  have m2 := g2.rm m1
  have nz : ¬ Zof Z0 M μ y := fun z => m.zdom z hy
  have m3 := RM.alloc (d := .ins cl []) m2 (m1.fresh hy2) upd_same nz (.ins .nil)
  refine ⟨m3, ⟨⟨[y], rfl⟩, by simp, fun a o e _ => g2 a o (g1 a o e), fun a q => g2.dom (g1.dom q), fun a z => ?_, fun j d e => ?_⟩⟩
  · obtain ⟨j, d, h1, h2⟩ := z
    by_cases q : j < M.length
    · rw [List.getElem?_append_left q] at h1
      rw [List.getElem?_append_left (by rw [m.len]; exact q)] at h2
      exact .inl ⟨j, d, h1, h2⟩
    · rw [List.getElem?_append_right (by rw [m.len]; omega)] at h2
      cases q2 : j - μ.length with
      | zero => rw [q2] at h2; simp at h2; subst h2; exact .inr hy
      | succ n => rw [q2] at h2; simp at h2
  · rw [List.getElem?_append_left (List.getElem?_eq_some_iff.mp e).1]; exact e
/-- the things of a def's own go -/
theorem RM.cut {Z0 : Addr → Prop} {M : Sto} {μ : List Addr} {H : Hp} (m : RM g Z0 M μ H) (n : Nat) : RM g Z0 (M.take n) (μ.take n) H := by
  have at1 : ∀ {j : Nat} {x : Cell}, (M.take n)[j]? = some x → M[j]? = some x := fun h => by
    rw [List.getElem?_take] at h
    split at h
    · exact h
    · cases h
  have at2 : ∀ {j : Nat} {x : Addr}, (μ.take n)[j]? = some x → μ[j]? = some x := fun h => by
    rw [List.getElem?_take] at h
    split at h
    · exact h
    · cases h
  have zz : ∀ b, Zof Z0 (M.take n) (μ.take n) b → Zof Z0 M μ b := fun b z => z.elim (fun ⟨j, d, h1, h2⟩ => .inl ⟨j, d, at1 h1, at2 h2⟩) .inr
  have mo : ∀ {e : D} {w : V}, RD g H (Zof Z0 M μ) e w → RD g H (Zof Z0 (M.take n) (μ.take n)) e w := fun h => h.mono (fun _ _ e _ => e) fun b _ _ q z => q (zz b z)
  refine ⟨by simp [m.len], fun i j d e a h1 h2 h3 h4 => m.inj i j d e a (at1 h1) (at1 h2) (at2 h3) (at2 h4), fun j d a h1 h2 => ?_, fun j d a h1 h2 => ?_, m.z0⟩
  · obtain ⟨z, o, h3, h4⟩ := m.live j d a (at1 h1) (at2 h2)
    exact ⟨z, o, h3, h4.mono (fun _ _ e _ => e) fun b _ _ q z => q (zz b z)⟩
  · obtain ⟨n, o, h3, h4⟩ := m.dead j d a (at1 h1) (at2 h2)
    exact ⟨fun z => n (zz a z), o, h3, h4.mono (fun _ _ e _ => e) fun b _ _ q z => q (zz b z)⟩
/-- behind a body: what stood ahead of it, and the thing k of its own -/
theorem back_own {Z0 : Addr → Prop} {M M1 : Sto} {μ ν : List Addr} {H H1 : Hp} (m : RM g Z0 M μ H) (m1 : RM g Z0 M1 (μ ++ ν) H1) (s1 : Stp M μ H M1 (μ ++ ν) H1) :
    RM g Z0 (M1.take M.length) μ H1 ∧ Stp M μ H (M1.take M.length) μ H1 ∧ ∀ (k : Nat) (a : Addr) (x : Cell), M.length ≤ k → M1[k]? = some x → (μ ++ ν)[k]? = some a → RD g H1 (Zof Z0 (M1.take M.length) μ) x.d (.ref a) ∧ ∀ d, x = .live d → H a = none ∧ RM g (Zand Z0 a) (M1.take M.length) μ H1 ∧ FO g Z0 (M1.take M.length) μ H1 a d := by
  have c := m1.cut (n := M.length)
  have e0 : (μ ++ ν).take M.length = μ := by rw [← m.len]; simp
  rw [e0] at c
  have at1 : ∀ {j : Nat} {x : Cell}, (M1.take M.length)[j]? = some x → M1[j]? = some x ∧ j < M.length := fun h => by
    rw [List.getElem?_take] at h
    split at h
    · rename_i q; exact ⟨h, q⟩
    · cases h
  have at2 : ∀ {j : Nat} {x : Addr}, μ[j]? = some x → (μ ++ ν)[j]? = some x := fun h => by
    rw [List.getElem?_append_left (List.getElem?_eq_some_iff.mp h).1]; exact h
  have lv : ∀ b, Live (M1.take M.length) μ b → Live M1 (μ ++ ν) b := fun b ⟨j, d, h1, h2⟩ => ⟨j, d, (at1 h1).1, at2 h2⟩
  have zz : ∀ b, Zof Z0 (M1.take M.length) μ b → Zof Z0 M1 (μ ++ ν) b := fun b z => z.elim (fun z => .inl (lv b z)) .inr
  refine ⟨c, ⟨⟨[], by simp⟩, ?_, s1.keep, s1.dom, fun a z => s1.new a (lv a z), fun j d e => ?_⟩, fun k a x hk hx ha => ?_⟩
  · rw [List.length_take]; have := s1.len; omega
  · have := s1.dead j d e
    rw [List.getElem?_take, if_pos (List.getElem?_eq_some_iff.mp e).1]; exact this
  · cases x with
    | dead d => exact ⟨(m1.deadD hx ha).mono (fun _ _ e _ => e) fun b _ _ q z => q (zz b z), fun _ q => nomatch q⟩
    | live d =>
      obtain ⟨z, o, h1, h2⟩ := m1.live k d a hx ha
      have na : ¬ Live (M1.take M.length) μ a := fun ⟨j, f, h3, h4⟩ => by
        have := m1.inj j k f d a (at1 h3).1 hx (at2 h4) ha
        have := (at1 h3).2
        omega
      have za : ∀ b, Zof (Zand Z0 a) (M1.take M.length) μ b → Zof Z0 M1 (μ ++ ν) b := fun b z => by
        rcases z with z | z | z
        · exact .inl (lv b z)
        · exact .inr z
        · subst z; exact .inl ⟨k, d, hx, ha⟩
      have nz : ¬ Zof Z0 (M1.take M.length) μ a := fun q => q.elim na z
      refine ⟨?_, fun d' e' => ⟨?_, ?_, fun _ => ⟨o, h1, by cases e'; exact h2.mono (fun _ _ e _ => e) fun b _ _ q z => q (za b z)⟩⟩⟩
      · cases h2 with
        | lst q => exact .lst h1 nz (q.mono (fun _ _ e _ => e) fun b _ _ q z => q (zz b z))
        | ins q => exact .ins h1 nz (q.mono (fun _ _ e _ => e) fun b _ _ q z => q (zz b z))
      · rcases s1.new a ⟨k, d, hx, ha⟩ with ⟨j, f, h3, h4⟩ | q
        · have lj : j < M.length := (List.getElem?_eq_some_iff.mp h3).1
          exfalso
          have h5 : ∃ f', M1[j]? = some (.live f') ∨ ∃ f', M1[j]? = some (.dead f') := by
            have : j < M1.length := Nat.lt_of_lt_of_le lj s1.len
            cases e : M1[j]? with
            | none => rw [List.getElem?_eq_none_iff] at e; omega
            | some y => cases y with
              | live f' => exact ⟨f', .inl rfl⟩
              | dead f' => exact ⟨f', .inr ⟨f', rfl⟩⟩
          obtain ⟨f', h5 | ⟨f'', h5⟩⟩ := h5
          · have := m1.inj j k f' d a h5 hx (at2 h4) ha
            omega
          · exact (m1.dead j f'' a h5 (at2 h4)).1 (.inl ⟨k, d, hx, ha⟩)
        · exact q
      · refine ⟨c.len, c.inj, fun i e b h3 h4 => ?_, fun i e b h3 h4 => ?_, fun b z' => ?_⟩
        · obtain ⟨z1, o1, h5, h6⟩ := m1.live i e b (at1 h3).1 (at2 h4)
          refine ⟨fun q => q.elim z1 fun q => ?_, o1, h5, h6.mono (fun _ _ e _ => e) fun b _ _ q z => q (za b z)⟩
          subst q; exact na ⟨i, e, h3, h4⟩
        · obtain ⟨n, o1, h5, h6⟩ := m1.dead i e b (at1 h3).1 (at2 h4)
          exact ⟨fun z => n (za b z), o1, h5, h6.mono (fun _ _ e _ => e) fun b _ _ q z => q (za b z)⟩
        · rcases z' with z' | z'
          · exact c.z0 b z'
          · subst z'; rw [h1]; exact fun q => nomatch q
end
end DI

/-! DI.F5: instances -/
namespace DI
open PySem PySem.Spec PyProof.Rows L2
/-- what the head says of the classes -/
structure ClsF (P : Prg) (g : Gx) (fa : Nat → Addr) (K : PySem.W.Frag) (c : Nat) (i : Cl) : Prop where
  cls : Cls K (g.ca c)
  mks : Mk K (g.ca c) (fa i.init)
  meths : ∀ m f, i.meths.lookup m = some f → Meth K (g.ca c) m (fa f)
  props : ∀ m f, i.props.lookup m = some f → ∃ p, PropOf K (g.ca c) m p (fa f)
  flds : ∀ f, i.flds.contains f = true → NoAttr K (g.ca c) f
  cms : ∀ m f, i.cms.lookup m = some f → ∃ mc p, ClX.CRead K (g.ca c) mc ∧ ClX.CMet K (g.ca c) mc m p (fa f)
  isk : i.isk = true → PySem.W.findIn K (.ref (g.ca c)) "__class__" = some (some (.builtin "object.__class__")) ∧ PySem.W.specialIn K (.builtin "object.__class__") "__get__" = some (some (.builtin "getset_descriptor.__get__")) ∧ PySem.W.takesIn K (.builtin "object.__class__") = some true ∧ PySem.W.mroIn K (g.ca c) (.type "object") = some true
section
variable {g : Gx} {pn : List (Addr × Obj)} {W : WX} {X : Cx} {pos p apos : Pos} {a o e : Expr} {es : List Expr} {eva evo : Slots → Sto → Res RV} {evs : Slots → Sto → Res (List RV)} {k : Nat} {C : Addr} {x m : Str} {P : Prg} {fa : Nat → Addr} {cc : Orc}
theorem zof_take {Z0 : Addr → Prop} {M : Sto} {μ ν : List Addr} {n : Nat} {b : Addr} (z : Zof Z0 (M.take n) μ b) : Zof Z0 M (μ ++ ν) b := by
  rcases z with ⟨j, d, h1, h2⟩ | z
  · refine .inl ⟨j, d, ?_, ?_⟩
    · rw [List.getElem?_take] at h1
      split at h1
      · exact h1
      · cases h1
    · rw [List.getElem?_append_left (List.getElem?_eq_some_iff.mp h2).1]; exact h2
  · exact .inr z
theorem mk_of {cl : Nat} {i : Cl} {as : List RV} {vs : List V} {sl : Slots} {σ : L2.St} {Z0 : Addr → Prop} {M : Sto} {μ : List Addr} {H Hs : Hp} {Q : VK} (hi : P.cl cl = some i) (m : RM g Z0 M μ H) (hh : ∀ a, Hs a ≠ none → H a ≠ none) (r : RRs g Z0 M μ H as vs)
    (h : Pst g W σ Z0 M μ H (makeR P cc cl as M) fun a M' H' => ∀ v, RR g Z0 M' μ H' a v → Fr g Z0 M' μ Hs H' a v → Q v H') :
    ∀ y dx, H y = none → H dx = none → dx ≠ y → spC g (callR P cc i.init) (.ref y :: vs) (upd (upd H dx (.own y)) y (.ins (g.ca cl) dx [])) (fun v H2 => v = .non ∧ Q (.ref y) H2) fun cls d H => W cls d σ H := by
  intro y dx hy hdx hne
  obtain ⟨m1, s1⟩ := m.made (cl := cl) hy hdx hne
  refine ⟨.own M.length :: as.map RV.dv, M ++ [.live (.ins cl [])], μ ++ [y], Z0, .cons (.own ?_) ?_, m1, ?_⟩
  · rw [← m.len]; simp
  · exact Paired.mapP (F := RN g [] Z0 M μ H) r.dvs fun a b q => s1.rn q
  · unfold makeR at h
    simp only [hi] at h
    cases e : callR P cc i.init (.own M.length :: as.map RV.dv) (M ++ [.live (.ins cl [])]) with
    | bad => simp only [e] at h; exact h
    | exc z M2 =>
      simp only [e] at h
      intro dx' H' m2 s2 rx
      obtain ⟨q1, q2, _⟩ := back_own m m2 (s1.trans s2)
      obtain ⟨ws, r1, r2, r3⟩ := rx
      have zz : ∀ b, Zof Z0 (M2.take M.length) μ b → Zof Z0 M2 (μ ++ [y]) b := fun b z => zof_take z
      exact h dx' H' q1 q2 ⟨ws, r1, fun q => r2 (zz _ q), r3.mono (fun _ _ e _ => e) fun b _ _ q z => q (zz b z)⟩
    | ok r M2 =>
      simp only [e] at h
      intro H' v m2 s2 rr _
      obtain ⟨q1, q2, q3⟩ := back_own m m2 (s1.trans s2)
      cases r with
      | own _ => exact h.elim
      | p fr d =>
        cases d with
        | non =>
          cases rr with | p rr => cases rr with | non =>
          refine ⟨rfl, ?_⟩
          cases ex : M2[M.length]? with
          | none => simp only [ex] at h; exact h.elim
          | some z =>
            simp only [ex] at h
            have hk : (μ ++ [y])[M.length]? = some y := by rw [← m.len]; simp
            obtain ⟨q4, q5⟩ := q3 M.length y z (Nat.le_refl _) ex hk
            refine h H' q1 q2 (.ref y) (.p q4) fun d e b eb => ?_
            cases eb
            have e : z.d = d ∧ (match z with | .live _ => true | .dead _ => false) = true := by cases z <;> cases e <;> exact ⟨rfl, rfl⟩
            obtain ⟨e1, e⟩ := e
            subst e1
            cases z with
            | dead d' => simp at e
            | live d' =>
              obtain ⟨q6, q7⟩ := q5 d' rfl
              refine ⟨?_, q7⟩
              cases w : Hs y with
              | none => rfl
              | some u => exact absurd hy (hh y (by rw [w]; exact fun q => nomatch q))
        | _ => exact h.elim
theorem e_make {cl : Nat} {i : Cl} (hi : P.cl cl = some i) (hC : ClsF P g fa X.K cl i) (hF : ∀ f, FnR X.prog X.w X.K X.mg X.base (L2.CX X.prog X.w) k (fa f) (spC g (callR P cc f))) (hr : Room (k + 1) X.A) (tk : Takes X W) (hg : Gl X x) (hm : X.mg x = some (.ref (g.ca cl))) (hd : (x == ("__debug__" : Str)) = false)
    (hn : noStar (e :: es) = true) (ha : PA X (e :: es) (tRs g pn W evs)) : PE X (.Call (.Name x p) (e :: es) [] pos) (tR g pn W fun sl M => (evs sl M).bind fun as M1 => makeR P cc cl as M1) := by
  refine ⟨fun pins s σ H Q I ⟨sl, M, μ, Z0, hs, hm', h⟩ => ?_⟩
  have t : tRs g pn W evs σ H fun vs H1 => ∀ y dx, H1 y = none → H1 dx = none → dx ≠ y → spC g (callR P cc i.init) (.ref y :: vs) (upd (upd H1 dx (.own y)) y (.ins (g.ca cl) dx [])) (fun v H2 => v = .non ∧ Q (.ref y) H2) fun cls d H => W cls d σ H :=
    tRs.then hs hm' h fun as M1 vs H1 m1 s1 hs1 rs h1 => mk_of (sl := sl) hi m1 (fun a q => s1.dom a q) rs h1
  refine wpAny_Call_Name_kw (ld_glob I hg hm ?_ hd)
  exact PySem.W.callWith_K (h₀ := X.base) I.ok.mod.kin hC.mks.kp (thn (ha.run pos pins s σ H _ I t) fun us s1 ⟨vs, H1, I1, r, q⟩ => ⟨I1.kIn, run_mkC hC.mks (hF i.init) hr tk I1 r q⟩) (star_plain hn _) (plain_any (noStar_tl hn))
theorem e_make0 {cl : Nat} {i : Cl} (hi : P.cl cl = some i) (hC : ClsF P g fa X.K cl i) (hF : ∀ f, FnR X.prog X.w X.K X.mg X.base (L2.CX X.prog X.w) k (fa f) (spC g (callR P cc f))) (hr : Room (k + 1) X.A) (tk : Takes X W) (hg : Gl X x) (hm : X.mg x = some (.ref (g.ca cl))) (hd : (x == ("__debug__" : Str)) = false) :
    PE X (.Call (.Name x p) [] [] pos) (tR g pn W fun _ M => makeR P cc cl [] M) := by
  refine ⟨fun pins s σ H Q I ⟨sl, M, μ, Z0, hs, hm', h⟩ => ?_⟩
  refine wpAny_Call_Name_kw (ld_glob I hg hm ?_ hd)
  exact PySem.W.callWith_K0 I.kIn hC.mks.kp (run_mkC (us := []) hC.mks (hF i.init) hr tk I .nil (mk_of (sl := sl) hi hm' (fun a q => q) .nil h))
/-- a class held by a name (cls of a classmethod) -/
theorem e_makev {cl : Nat} {i : Cl} {j : Nat} (hi : P.cl cl = some i) (hC : ClsF P g fa X.K cl i) (hF : ∀ f, FnR X.prog X.w X.K X.mg X.base (L2.CX X.prog X.w) k (fa f) (spC g (callR P cc f))) (hr : Room (k + 1) X.A) (tk : Takes X W) (hN : X.N[j]? = some x) (hv : Vis X.env.scope x)
    (hd : (x == ("__debug__" : Str)) = false) (hcd : (x == ("__classdict__" : Str)) = false) (hn : noStar (e :: es) = true) (ha : PA X (e :: es) (tRs g pn W evs)) :
    PE X (.Call (.Name x p) (e :: es) [] pos) (tR g pn W fun sl M => match sl[j]? with
      | some (some (.p (.cls n))) => if n = cl then (evs sl M).bind fun as M1 => makeR P cc cl as M1 else .bad
      | _ => .bad) := by
  refine ⟨fun pins s σ H Q I ⟨sl, M, μ, Z0, hs, hm', h⟩ => ?_⟩
  cases q : sl[j]? with
  | none => simp only [q] at h; exact h.elim
  | some o => cases o with
    | none => simp only [q] at h; exact h.elim
    | some dv => cases dv with
      | own _ => simp only [q] at h; exact h.elim
      | exc _ => simp only [q] at h; exact h.elim
      | p d => cases d with
        | cls n =>
          simp only [q] at h
          split at h
          · rename_i en
            subst en
            obtain ⟨v, h1, h2⟩ := hs.at_ j _ q
            cases h2 with | p h2 => cases h2 with | cls =>
            have t : tRs g pn W evs σ H fun vs H1 => ∀ y dx, H1 y = none → H1 dx = none → dx ≠ y → spC g (callR P cc i.init) (.ref y :: vs) (upd (upd H1 dx (.own y)) y (.ins (g.ca n) dx [])) (fun v H2 => v = .non ∧ Q (.ref y) H2) fun cls d H => W cls d σ H :=
              tRs.then hs hm' h fun as M1 vs H1 m1 s1 hs1 rs h1 => mk_of (sl := sl) hi m1 (fun a q => s1.dom a q) rs h1
            refine wpAny_Call_Name_kw (thn ((pe_var (pos := p) hN hv hd hcd).run pins s σ H (fun v H1 => v = .ref (g.ca n) ∧ H1 = H) I ⟨_, h1, rfl, rfl⟩) fun u s1 ⟨v, H1, I1, r1, q1⟩ => ?_)
            obtain ⟨rfl, rfl⟩ := q1
            cases r1
            exact PySem.W.callWith_K (h₀ := X.base) I.ok.mod.kin hC.mks.kp (thn (ha.run pos pins s1 σ _ _ I1 t) fun us s1 ⟨vs, H1, I1, r, q⟩ => ⟨I1.kIn, run_mkC hC.mks (hF i.init) hr tk I1 r q⟩) (star_plain hn _) (plain_any (noStar_tl hn))
          · exact h.elim
        | _ => simp only [q] at h; exact h.elim
theorem methD_of {d : D} {f : Nat} (h : methD P m d = some f) : ∃ c fs i, d = .ins c fs ∧ P.cl c = some i ∧ fs.lookup m = none ∧ i.meths.lookup m = some f := by
  unfold methD at h
  split at h
  · rename_i c fs
    split at h
    · rename_i i hi
      split at h
      · rename_i hl
        exact ⟨c, fs, i, rfl, hi, hl, h⟩
      · cases h
    · cases h
  · cases h
theorem e_meth {pl : Sem Bool} (hC : ∀ c i, P.cl c = some i → ClsF P g fa X.K c i) (hF : ∀ f, FnR X.prog X.w X.K X.mg X.base (L2.CX X.prog X.w) k (fa f) (spC g (callR P cc f))) (hr : Room k X.A) (tk : Takes X W)
    (ho : PE X o (tR g pn W evo)) (hn : noStar (e :: es) = true) (ha : PA X (e :: es) (tRs g pn W evs))
    (ht : eval (.Call (.Attribute o m apos) (e :: es) [] pos) X.env = (do let ov ← eval o X.env; standAt apos.atName; let (f, first) ← holding [ov] (getMethod ov m pl); callWith pos f first (backTo pos (starEach (e :: es) X.env)) (backToKw pos (keywordEach [] X.env)))) :
    PE X (.Call (.Attribute o m apos) (e :: es) [] pos) (tR g pn W fun sl M => (evo sl M).bind fun x M1 => match x.get M1 with
      | some d => (match methD P m d with
        | some f => (evs sl M1).bind fun as M2 => callR P cc f (x.dv :: as.map RV.dv) M2
        | none => .bad)
      | none => .bad) := by
  refine ⟨fun pins s σ H Q I ⟨sl, M, μ, Z0, hs, hm', h⟩ => ?_⟩
  have t : tR g pn W evo σ H fun v H1 => ∃ a f dx fs c i, v = .ref a ∧ H1 a = some (.ins (g.ca c) dx fs) ∧ P.cl c = some i ∧ fs.lookup m = none ∧ i.meths.lookup m = some f ∧ tRs g pn W evs σ H1 fun vs H2 => spC g (callR P cc f) (v :: vs) H2 Q fun cls d H => W cls d σ H := by
    refine tR.then hs hm' h fun x M1 v H1 m1 s1 hs1 rx h1 => ?_
    cases ex : x.get M1 with
    | none => simp only [ex] at h1; exact h1.elim
    | some d => cases em : methD P m d with
      | none => simp only [ex, em] at h1; exact h1.elim
      | some f =>
        simp only [ex, em] at h1
        obtain ⟨c, fs, i, rfl, e1, e2, e3⟩ := methD_of em
        obtain ⟨a, dx, vs, rfl, ea, rf⟩ := (rx.read m1 ex).ins
        refine ⟨a, f, dx, vs, c, i, rfl, ea, e1, rf.look_none e2, e3, tRs.then hs1 m1 h1 fun as M2 ws H2 m2 s2 hs2 rs h2 => spC_of (sl := sl) m2 (fun a q => s2.dom a (s1.dom a q)) (.cons (s2.rr rx).rn rs.dvs) h2⟩
  refine PySem.W.methodCall_KW (pl := pl) (thn (ho.run pins s σ H _ I t) fun u s1 ⟨v, H1, I1, rv, a, f, dx, fs, c, i, ev, ea, hi, hl, hmf, q⟩ => ?_) ht
  subst ev
  obtain rfl : u = Value.ref a := rv
  have F := hC c i hi
  have hM := F.meths m f hmf
  refine getmeth_ok I1 ea F.cls hM hl ?_
  exact PySem.W.callWith_K (first := [.ref a]) (h₀ := X.base) I.ok.mod.kin hM.kp (thn (ha.run pos pins s1 σ H1 _ I1 q) fun us s2 ⟨vs, H2, I2, r, q2⟩ => ⟨I2.kIn, run_fnC (us := .ref a :: us) (vs := .ref a :: vs) (hF f) hr tk I2 (.cons rfl r) q2⟩) (star_plain hn _) (plain_any (noStar_tl hn))
theorem e_meth0 {pl : Sem Bool} (hC : ∀ c i, P.cl c = some i → ClsF P g fa X.K c i) (hF : ∀ f, FnR X.prog X.w X.K X.mg X.base (L2.CX X.prog X.w) k (fa f) (spC g (callR P cc f))) (hr : Room k X.A) (tk : Takes X W)
    (ho : PE X o (tR g pn W evo))
    (ht : eval (.Call (.Attribute o m apos) [] [] pos) X.env = (do let ov ← eval o X.env; standAt apos.atName; let (f, first) ← holding [ov] (getMethod ov m pl); callWith pos f first (backTo pos (starEach [] X.env)) (backToKw pos (keywordEach [] X.env)))) :
    PE X (.Call (.Attribute o m apos) [] [] pos) (tR g pn W fun sl M => (evo sl M).bind fun x M1 => match x.get M1 with
      | some d => (match methD P m d with
        | some f => callR P cc f [x.dv] M1
        | none => .bad)
      | none => .bad) := by
  refine ⟨fun pins s σ H Q I ⟨sl, M, μ, Z0, hs, hm', h⟩ => ?_⟩
  have t : tR g pn W evo σ H fun v H1 => ∃ a f dx fs c i, v = .ref a ∧ H1 a = some (.ins (g.ca c) dx fs) ∧ P.cl c = some i ∧ fs.lookup m = none ∧ i.meths.lookup m = some f ∧ spC g (callR P cc f) [v] H1 Q fun cls d H => W cls d σ H := by
    refine tR.then hs hm' h fun x M1 v H1 m1 s1 hs1 rx h1 => ?_
    cases ex : x.get M1 with
    | none => simp only [ex] at h1; exact h1.elim
    | some d => cases em : methD P m d with
      | none => simp only [ex, em] at h1; exact h1.elim
      | some f =>
        simp only [ex, em] at h1
        obtain ⟨c, fs, i, rfl, e1, e2, e3⟩ := methD_of em
        obtain ⟨a, dx, vs, rfl, ea, rf⟩ := (rx.read m1 ex).ins
        exact ⟨a, f, dx, vs, c, i, rfl, ea, e1, rf.look_none e2, e3, spC_of (sl := sl) m1 (fun a q => s1.dom a q) (.cons rx.rn .nil) h1⟩
  refine PySem.W.methodCall_KW (pl := pl) (thn (ho.run pins s σ H _ I t) fun u s1 ⟨v, H1, I1, rv, a, f, dx, fs, c, i, ev, ea, hi, hl, hmf, q⟩ => ?_) ht
  subst ev
  obtain rfl : u = Value.ref a := rv
  have F := hC c i hi
  have hM := F.meths m f hmf
  refine getmeth_ok I1 ea F.cls hM hl ?_
  exact PySem.W.callWith_K0 (first := [.ref a]) I1.kIn hM.kp (run_fnC (us := [.ref a]) (vs := [.ref a]) (hF f) hr tk I1 (.cons rfl .nil) q)
theorem e_fld {f : Str} (hC : ∀ c i, P.cl c = some i → ClsF P g fa X.K c i) (hb : noSup o = true) (ho : PE X o (tR g pn W evo)) :
    PE X (.Attribute o f pos) (tR g pn W fun sl M => (evo sl M).bind fun x M1 => match x.get M1 with
      | some d => ofO ((fldD P f d).map (.p false)) M1
      | none => .bad) := by
  refine pe_imp (pe_fld ho (noSup_base hb _ _ _)) fun σ H Q ⟨sl, M, μ, Z0, hs, hm, h⟩ => tR.then hs hm h fun x M1 v H1 m1 s1 hs1 rx h1 => ?_
  cases ex : x.get M1 with
  | none => simp only [ex] at h1; exact h1.elim
  | some d => cases em : fldD P f d with
    | none => simp only [ex, em, Option.map_none] at h1; exact h1.elim
    | some w =>
      simp only [ex, em, Option.map_some] at h1
      unfold fldD at em
      split at em
      · rename_i c fs
        split at em
        · rename_i i hi
          split at em
          · rename_i hf
            obtain ⟨a, dx, vs, rfl, ea, rf⟩ := (rx.read m1 ex).ins
            obtain ⟨v, l1, l2⟩ := rf.look em
            have F := hC c i hi
            exact ⟨a, _, dx, vs, v, rfl, ea, F.cls, F.flds f hf, l1, h1.ok m1 .refl v (.p l2) (Fr.not rfl)⟩
          · cases em
        · cases em
      · cases em
/-- a property read: the getter runs -/
theorem run_prop {pins : List (Addr × Obj)} {σ : L2.St} {H : Hp} {s : Shared} {Q : VK} {b : Bool} {E' : Value → Shared → Prop} {dx q f : Addr} {fs : List (Str × V)} {sp : Sp} {nm : Str} {ad : Addr} (I : L2.Inv X pins σ H s) (ea : H ad = some (.ins C dx fs)) (c : Cls X.K C) (hp : PropOf X.K C nm q f)
    (F : FnR X.prog X.w X.K X.mg X.base (L2.CX X.prog X.w) k f sp) (hr : Room (k + 1) X.A) (h : sp [.ref ad] H Q fun _ _ _ => False) : wpAny (model X.prog X.w) X.A (getAttr (.ref ad) nm b) (EP X pins σ Q) E' s := by
  obtain ⟨mA, O, _, _, _, _⟩ := ins_get I.hok ea
  obtain ⟨od, J, _⟩ := O.look
  obtain ⟨rest, hrec⟩ := hp.rec_
  have I1 := I.tok (s.toks + 1)
  have hc : (PySem.W.clsIn X.K C).isSome = true := by
    obtain ⟨cd, hc, _⟩ := PySem.W.any_some c.hd
    rw [hc]; rfl
  have hg := PySem.W.plainGet_of (c.get nm)
  refine PySem.W.get_bind I.kIn J hg.1 (PySem.W.findObj_data hc hp.at_ hp.get hp.tak) hg.2 (wpAny_call (PySem.W.prop_get (s := { s with toks := s.toks + 1 }) I.kIn hrec ?_))
  refine codeAny_mono (F X.A.in1 X.stack { s with toks := s.toks + 1 } H [.ref ad] [.ref ad] Q _ hr.in1 I1.env0.in1 (.cons rfl .nil) h) fun r s' hq => ?_
  match r, hq with
  | .error e, hq => obtain ⟨_, _, _, _, _, _, _, _, _, _, _, _, z⟩ := hq; exact z.elim
  | .ok (.ret u), hq =>
    obtain ⟨v, H', I3, rv, q3⟩ := I1.after hq
    show wpAny _ _ (handedOut u) _ _ _
    rw [PySem.W.handedOut_of (handed_of rv)]
    exact wpAny_pure ⟨v, H', I3, rv, q3⟩
  | .ok .next, hq => exact hq.elim
  | .ok .brk, hq => exact hq.elim
  | .ok .cont, hq => exact hq.elim
theorem e_prop {f : Str} (hC : ∀ c i, P.cl c = some i → ClsF P g fa X.K c i) (hF : ∀ f, FnR X.prog X.w X.K X.mg X.base (L2.CX X.prog X.w) k (fa f) (spC g (callR P cc f))) (hr : Room (k + 1) X.A) (hb : noSup o = true) (ho : PE X o (tR g pn W evo)) :
    PE X (.Attribute o f pos) (tR g pn W fun sl M => (evo sl M).bind fun x M1 => match x.get M1 with
      | some d => (match propD P f d with
        | some h => noexc (callR P cc h [x.dv] M1)
        | none => .bad)
      | none => .bad) := by
  refine ⟨fun pins s σ H Q I ⟨sl, M, μ, Z0, hs, hm', h⟩ => ?_⟩
  have t : tR g pn W evo σ H fun v H1 => ∃ a f' dx fs c i, v = .ref a ∧ H1 a = some (.ins (g.ca c) dx fs) ∧ P.cl c = some i ∧ i.props.lookup f = some f' ∧ spC g (callR P cc f') [v] H1 Q fun _ _ _ => False := by
    refine tR.then hs hm' h fun x M1 v H1 m1 s1 hs1 rx h1 => ?_
    cases ex : x.get M1 with
    | none => simp only [ex] at h1; exact h1.elim
    | some d => cases em : propD P f d with
      | none => simp only [ex, em] at h1; exact h1.elim
      | some f' =>
        simp only [ex, em] at h1
        unfold propD at em
        split at em
        · rename_i c fs
          split at em
          · rename_i i hi
            obtain ⟨a, dx, vs, rfl, ea, rf⟩ := (rx.read m1 ex).ins
            refine ⟨a, f', dx, vs, c, i, rfl, ea, hi, em, ?_⟩
            have h2 : Pst g (fun _ _ _ _ => False) σ Z0 M1 μ H1 (callR P cc f' [x.dv] M1) fun a M' H' => ∀ v, RR g Z0 M' μ H' a v → Fr g Z0 M' μ H H' a v → Q v H' := by
              cases e : callR P cc f' [x.dv] M1 with
              | ok r M2 => rw [e] at h1; exact h1
              | exc r M2 => rw [e] at h1; exact h1.elim
              | bad => rw [e] at h1; exact h1
            exact spC_of (W := fun _ _ _ _ => False) (sl := sl) (σ := σ) m1 (fun a q => s1.dom a q) (.cons rx.rn .nil) h2
          · cases em
        · cases em
  refine attr_of (noSup_base hb _ _ _) (thn (ho.run pins s σ H _ I t) fun u s1 ⟨v, H1, I1, rv, a, f', dx, fs, c, i, ev, ea, hi, hl, q⟩ => ?_)
  subst ev
  obtain rfl : u = Value.ref a := rv
  have F := hC c i hi
  obtain ⟨pp, hp⟩ := F.props f f' hl
  exact run_prop I1 ea F.cls hp (hF f') hr q
end
end DI

/-! DI.N3: a classmethod called on its class's name -/
namespace DI
open PySem PySem.Spec PyProof.Rows L2
section
variable {g : Gx} {pn : List (Addr × Obj)} {W : WX} {X : Cx} {pos p apos : Pos} {e : Expr} {es : List Expr} {evs : Slots → Sto → Res (List RV)} {k : Nat} {x m : Str} {P : Prg} {fa : Nat → Addr} {cc : Orc}
theorem run_cod {pins : List (Addr × Obj)} {σ : L2.St} {H : Hp} {s : Shared} {Q : VK} {us : List Value} {vs : List V} {f : Addr} {sp : Sp} (F : FnR X.prog X.w X.K X.mg X.base (L2.CX X.prog X.w) k f sp) (hr : Room k X.A) (tk : Takes X W) (I : L2.Inv X pins σ H s) (r : L2.Vals vs us)
    (h : sp vs H Q fun cls d H => W cls d σ H) : codeAny (model X.prog X.w) X.A (.call (.ref f) ⟨us, []⟩) (fun r s' => match r with
      | .ok (.ret v) => EP X pins σ Q v s'
      | .ok _ => False
      | .error e => X.xe e s') s := by
  refine codeAny_mono (F X.A X.stack s H us vs Q _ hr I.env0 r h) fun r s' hq => ?_
  match r, hq with
  | .error e, hq => exact passAt tk σ pins H s e s' I hq
  | .ok (.ret u), hq => exact I.after hq
  | .ok .next, hq => exact hq.elim
  | .ok .brk, hq => exact hq.elim
  | .ok .cont, hq => exact hq.elim
theorem e_cmeth {cl : Nat} {pl : Sem Bool} (hC : ∀ c i, P.cl c = some i → ClsF P g fa X.K c i) (hF : ∀ f, FnR X.prog X.w X.K X.mg X.base (L2.CX X.prog X.w) k (fa f) (spC g (callR P cc f))) (hr : Room k X.A) (tk : Takes X W) (hg : Gl X x) (hm : X.mg x = some (.ref (g.ca cl))) (hd : (x == ("__debug__" : Str)) = false)
    (hn : noStar (e :: es) = true) (ha : PA X (e :: es) (tRs g pn W evs))
    (ht : eval (.Call (.Attribute (.Name x p) m apos) (e :: es) [] pos) X.env = (do let ov ← eval (.Name x p) X.env; standAt apos.atName; let (f, first) ← holding [ov] (getMethod ov m pl); callWith pos f first (backTo pos (starEach (e :: es) X.env)) (backToKw pos (keywordEach [] X.env)))) :
    PE X (.Call (.Attribute (.Name x p) m apos) (e :: es) [] pos) (tR g pn W fun sl M => match P.cl cl with
      | some i => (match i.cms.lookup m with
        | some f => (evs sl M).bind fun as M1 => callR P cc f (.p (.cls cl) :: as.map RV.dv) M1
        | none => .bad)
      | none => .bad) := by
  refine ⟨fun pins s σ H Q I ⟨sl, M, μ, Z0, hs, hm', h⟩ => ?_⟩
  dsimp only at h
  cases ei : P.cl cl with
  | none => simp only [ei] at h; exact h.elim
  | some i =>
    simp only [ei] at h
    cases ef : i.cms.lookup m with
    | none => simp only [ef] at h; exact h.elim
    | some f =>
      simp only [ef] at h
      obtain ⟨mc, q, rd, cm⟩ := (hC cl i ei).cms m f ef
      have t : tRs g pn W evs σ H fun vs H1 => spC g (callR P cc f) (.ref (g.ca cl) :: vs) H1 Q fun cls d H => W cls d σ H := tRs.then hs hm' h fun as M1 vs H1 m1 s1 hs1 rs h1 => spC_of (sl := sl) m1 (fun a q => s1.dom a q) (.cons (.p (.cls cl)) rs.dvs) h1
      refine PySem.W.methodCall_KW (pl := pl) (ld_glob I hg hm ?_ hd) ht
      refine ClX.getmethcm_ok I rd cm fun s2 I2 => ?_
      refine ClX.callwith_cm I2 (ClX.base_none I (Nat.le_refl _)) cm.fi (thn (ha.run pos _ s2 σ H _ I2 t) fun us s3 ⟨vs, H2, I3, rv, q2⟩ => ⟨⟨ClX.pin_at I3, I3.kIn⟩, ?_⟩) (star_plain hn _) (plain_any (noStar_tl hn))
      refine thn (wpAny_call (PySem.W.method_call (ClX.pin_at I3) (run_cod (us := .ref (g.ca cl) :: us) (vs := .ref (g.ca cl) :: vs) (hF f) hr tk I3 (.cons rfl rv) q2))) fun _ _ y => ClX.unpinE y
end
end DI

/-! DI.F6: isinstance, methods of lists, a caught error's field -/
namespace DI
open PySem PySem.Spec PyProof.Rows L2
section
variable {g : Gx} {pn : List (Addr × Obj)} {W : WX} {X : Cx} {pos p apos : Pos} {a o e : Expr} {es : List Expr} {eva evo : Slots → Sto → Res RV} {evs : Slots → Sto → Res (List RV)}
/-- the type of data -/
theorem tyx_of {H : Hp} {Z : Addr → Prop} {d : D} {v : V} (hK : g.K = X.K) (h : Rdb g H Z d v) (n : typeOf d ≠ "?") (ns : ∀ l, d ≠ .scr l) : TyX X.K H v (.type (typeOf d)) := by
  cases h with
  | d h => cases h with
    | non => exact .base .non
    | bl b => exact .base (.bl b)
    | int i => exact .base (.int i)
    | str x => exact .base (.str x)
    | tup h _ _ => exact .base (.tup h)
    | ktup h _ => obtain ⟨o, its, k, h1, h2, _⟩ := h; exact .kTuple (hK ▸ h1) h2
    | lst h _ _ => exact .base (.lst h)
    | ins _ _ _ => exact absurd rfl n
    | scr _ _ => exact absurd rfl (ns _)
    | kscr _ => exact absurd rfl (ns _)
    | cls _ => exact absurd rfl n
  | o h r => cases r with
    | lst _ => exact .base (.lst h)
    | ins _ => exact absurd rfl n
def five (t : Str) : Prop := bootBuiltins t = some (.type t.toString) ∧ t ≠ "__name__" ∧ (t == ("__debug__" : Str)) = false
theorem five_bool : five "bool" := ⟨by decide +kernel, by decide +kernel, by decide +kernel⟩
theorem five_int : five "int" := ⟨by decide +kernel, by decide +kernel, by decide +kernel⟩
theorem five_list : five "list" := ⟨by decide +kernel, by decide +kernel, by decide +kernel⟩
theorem five_tuple : five "tuple" := ⟨by decide +kernel, by decide +kernel, by decide +kernel⟩
theorem five_str : five "str" := ⟨by decide +kernel, by decide +kernel, by decide +kernel⟩
theorem isiS_kit {a : String} {t : Str} {b : Bool} (ha : a = "NoneType" ∨ a = "bool" ∨ a = "int" ∨ a = "str" ∨ a = "tuple" ∨ a = "list") (h : isiS a t = some b) : kitB a t.toString = some b ∧ five t := by
  unfold isiS at h
  split at h
  · rename_i e; subst e; cases h
    rcases ha with rfl | rfl | rfl | rfl | rfl | rfl <;> exact ⟨by decide +kernel, five_bool⟩
  split at h
  · rename_i e; subst e; cases h
    rcases ha with rfl | rfl | rfl | rfl | rfl | rfl <;> exact ⟨by decide +kernel, five_int⟩
  split at h
  · rename_i e; subst e; cases h
    rcases ha with rfl | rfl | rfl | rfl | rfl | rfl <;> exact ⟨by decide +kernel, five_list⟩
  split at h
  · rename_i e; subst e; cases h
    rcases ha with rfl | rfl | rfl | rfl | rfl | rfl <;> exact ⟨by decide +kernel, five_tuple⟩
  split at h
  · rename_i e; subst e; cases h
    rcases ha with rfl | rfl | rfl | rfl | rfl | rfl <;> exact ⟨by decide +kernel, five_str⟩
  · cases h
theorem isi_kit {d : D} {t : Str} {b : Bool} (h : isiD d t = some b) : kitB (typeOf d) t.toString = some b ∧ typeOf d ≠ "?" ∧ (∀ l, d ≠ .scr l) ∧ five t := by
  cases d with
  | non => obtain ⟨h1, h2⟩ := isiS_kit (a := "NoneType") (by simp) h; exact ⟨h1, fun q => absurd q (by decide), (fun l q => nomatch q), h2⟩
  | bl _ => obtain ⟨h1, h2⟩ := isiS_kit (a := "bool") (by simp) h; exact ⟨h1, fun q => absurd q (by simp [typeOf]), (fun l q => nomatch q), h2⟩
  | int _ => obtain ⟨h1, h2⟩ := isiS_kit (a := "int") (by simp) h; exact ⟨h1, fun q => absurd q (by simp [typeOf]), (fun l q => nomatch q), h2⟩
  | str _ => obtain ⟨h1, h2⟩ := isiS_kit (a := "str") (by simp) h; exact ⟨h1, fun q => absurd q (by simp [typeOf]), (fun l q => nomatch q), h2⟩
  | tup _ => obtain ⟨h1, h2⟩ := isiS_kit (a := "tuple") (by simp) h; exact ⟨h1, fun q => absurd q (by simp [typeOf]), (fun l q => nomatch q), h2⟩
  | lst _ => obtain ⟨h1, h2⟩ := isiS_kit (a := "list") (by simp) h; exact ⟨h1, fun q => absurd q (by simp [typeOf]), (fun l q => nomatch q), h2⟩
  | _ => cases h
theorem isiAny_kit {K : PySem.W.Frag} {d : D} : ∀ {ts : List Str} {b : Bool}, isiAny d ts = some b → PySem.W.kitAny K (.type (typeOf d)) (ts.map fun t => .type t.toString) = some b
  | [], b, h => by cases h; rfl
  | t :: ts, b, h => by
    unfold isiAny at h
    split at h
    · rename_i q; cases h
      exact kitAny_cons (kit_ty (isi_kit q).1) (fun z => nomatch z) fun _ => rfl
    · rename_i q
      exact kitAny_cons (kit_ty (isi_kit q).1) (fun _ => isiAny_kit h) fun z => nomatch z
    · cases h
theorem isiAny_ne {d : D} {t : Str} {ts : List Str} {b : Bool} (h : isiAny d (t :: ts) = some b) : typeOf d ≠ "?" ∧ ∀ l, d ≠ .scr l := by
  unfold isiAny at h
  split at h
  · rename_i q; exact ⟨(isi_kit q).2.1, (isi_kit q).2.2.1⟩
  · rename_i q; exact ⟨(isi_kit q).2.1, (isi_kit q).2.2.1⟩
  · cases h
/-- the five types that isinstance asks of here -/
def fiveB (t : Str) : Bool := t == "bool" || t == "int" || t == "list" || t == "tuple" || t == "str"
theorem five_of {t : Str} (h : fiveB t = true) : five t := by
  unfold fiveB at h
  simp only [Bool.or_eq_true, beq_iff_eq] at h
  rcases h with (((h | h) | h) | h) | h <;> subst h
  · exact five_bool
  · exact five_int
  · exact five_list
  · exact five_tuple
  · exact five_str
theorem e_ty {t : Str} (hg : Gl X t) (hm : X.mg t = none) (f : five t) : PE X (.Name t pos) (tC (.ty t.toString)) := pe_bltn hg hm f.1 rfl f.2.1 f.2.2
/-- names of types, one behind another -/
def tyNames (ts : List Str) (es : List Expr) : Bool := match ts, es with
  | [], [] => true
  | t :: ts, e :: es => (match asName e with | some (x, _) => decide (x = t) && fiveB t | none => false) && tyNames ts es
  | _, _ => false
theorem a_tys : ∀ {ts : List Str} {es : List Expr}, tyNames ts es = true → (∀ t ∈ ts, Gl X t ∧ X.mg t = none) → PA X es (fun _ H Q => Q (ts.map fun t => V.ty t.toString) H)
  | [], [], _, _ => pa_imp pa_nil fun σ H Q h => h
  | t :: ts, e :: es, h, hg => by
    obtain ⟨h1, h2⟩ := Bool.and_eq_true_iff.mp (show ((match asName e with | some (x, _) => decide (x = t) && fiveB t | none => false) && tyNames ts es) = true from h)
    cases q : asName e with
    | none => rw [q] at h1; cases h1
    | some r =>
      obtain ⟨x, p⟩ := r
      rw [q] at h1
      obtain ⟨h3, h4⟩ := Bool.and_eq_true_iff.mp h1
      cases of_decide_eq_true h3
      rw [asName_eq q]
      obtain ⟨g1, g2⟩ := hg _ List.mem_cons_self
      exact pa_imp (pa_cons (e_ty g1 g2 (five_of h4)) (a_tys h2 fun t ht => hg t (List.mem_cons_of_mem _ ht))) fun σ H Q h => h
  | [], _ :: _, h, _ => by cases h
  | _ :: _, [], h, _ => by cases h
theorem e_isi1 {t : Str} {p2 : Pos} (hK : g.K = X.K) (hg : Gl X "isinstance") (hm : X.mg "isinstance" = none) (hn : noStar [a, .Name t p2] = true) (ht : fiveB t = true) (hgt : Gl X t) (hmt : X.mg t = none) (ha : PE X a (tR g pn W eva)) :
    PE X (.Call (.Name "isinstance" p) [a, .Name t p2] [] pos) (tR g pn W fun sl M => (eva sl M).bind fun x M1 => match x.get M1 with
      | some d => ofO ((isiAny d [t]).map boolV) M1
      | none => .bad) := by
  refine pe_imp (pe_callB call_isi hg hm boot_isinstance (pa_cons ha (pa_cons (e_ty hgt hmt (five_of ht)) pa_nil) (star_plain hn _)) (by decide) (by decide) (star_plain hn _) (plain_any (noStar_tl hn))) fun σ H Q ⟨sl, M, μ, Z0, hs, hm, h⟩ => ?_
  refine tR.then hs hm h fun x M1 v H1 m1 s1 hs1 rx h1 => ?_
  cases ex : x.get M1 with
  | none => simp only [ex] at h1; exact h1.elim
  | some d => cases ei : isiAny d [t] with
    | none => simp only [ex, ei, Option.map_none] at h1; exact h1.elim
    | some b =>
      simp only [ex, ei, Option.map_some] at h1
      obtain ⟨n1, n2⟩ := isiAny_ne ei
      refine ⟨v, .ty t.toString, .type (typeOf d), .type t.toString, b, rfl, .ty _, tyx_of hK (rx.read m1 ex) n1 n2, ?_, h1.ok m1 .refl _ .ofB (Fr.not rfl)⟩
      unfold isiAny at ei
      split at ei
      · rename_i q; cases ei; exact kit_ty (isi_kit q).1
      · rename_i q; cases ei; exact kit_ty (isi_kit q).1
      · cases ei
theorem e_isiN {ts : List Str} {ns : List Expr} {kk : Nat} {p2 : Pos} (hK : g.K = X.K) (hg : Gl X "isinstance") (hm : X.mg "isinstance" = none) (hn : noStar [a, .Tuple ns kk p2] = true) (ht : tyNames ts ns = true) (h2 : ts ≠ []) (hl : ts.length ≤ 100) (hgt : ∀ t ∈ ts, Gl X t ∧ X.mg t = none)
    (ha : PE X a (tR g pn W eva)) :
    PE X (.Call (.Name "isinstance" p) [a, .Tuple ns kk p2] [] pos) (tR g pn W fun sl M => (eva sl M).bind fun x M1 => match x.get M1 with
      | some d => ofO ((isiAny d ts).map boolV) M1
      | none => .bad) := by
  refine pe_imp (pe_callB call_isiT hg hm boot_isinstance (pa_cons ha (pa_cons (pe_tup (a_tys ht hgt)) pa_nil) (star_plain hn _)) (by decide) (by decide) (star_plain hn _) (plain_any (noStar_tl hn))) fun σ H Q ⟨sl, M, μ, Z0, hs, hm, h⟩ => ?_
  refine tR.then hs hm h fun x M1 v H1 m1 s1 hs1 rx h1 => ?_
  cases ex : x.get M1 with
  | none => simp only [ex] at h1; exact h1.elim
  | some d => cases ei : isiAny d ts with
    | none => simp only [ex, ei, Option.map_none] at h1; exact h1.elim
    | some b =>
      simp only [ex, ei, Option.map_some] at h1
      cases ts with
      | nil => exact absurd rfl h2
      | cons t ts =>
      obtain ⟨n1, n2⟩ := isiAny_ne ei
      refine ⟨by rw [List.length_map, sizeLine_eq]; omega, fun q hq => ?_⟩
      have gr : Grow H1 (upd H1 q (.tup ((t :: ts).map fun t => V.ty t.toString))) := .new hq
      refine ⟨v, q, _, .type (typeOf d), (t :: ts).map fun t => .type t.toString, b, rfl, upd_same, ?_, ?_, isiAny_kit ei, h1.ok (gr.rm m1) (gr.stp m1) _ .ofB (Fr.not rfl)⟩
      · have : ∀ l : List Str, Paired ClsV (l.map fun t => V.ty t.toString) (l.map fun t => Value.type t.toString) := fun l => by
          induction l with
          | nil => exact .nil
          | cons y l ih => exact .cons (.ty _) ih
        exact this _
      · refine tyx_of (Z := Zof Z0 M1 μ) hK ?_ n1 n2
        cases rx.read m1 ex with
        | d h => exact .d (gr.rd h)
        | o h r => exact .o (gr _ _ h) (gr.ro r)
/-! methods of lists -/
theorem lst_ty {H : Hp} {Z : Addr → Prop} {xs : List D} {v : V} (h : Rdb g H Z (.lst xs) v) : tyV X.K "list" v H := by
  obtain ⟨a, vs, rfl, ha, _⟩ := h.lst
  exact .inl ⟨rfl, vs, .inl (.inl ha)⟩
theorem mtOk_of {m : Str} {x : RV} {Z0 : Addr → Prop} {M : Sto} {μ : List Addr} {H : Hp} {v : V} (hm : RM g Z0 M μ H) (rx : RR g Z0 M μ H x v) (h : mtOk m x M = true) (hb : m ≠ "bit_length") : tyV X.K "list" v H := by
  unfold mtOk at h
  rw [if_neg hb] at h
  cases ex : x.get M with
  | none => simp [ex] at h
  | some d => cases d with
    | lst xs => exact lst_ty (rx.read hm ex)
    | _ => simp [ex] at h
theorem few1 {cpos : Pos} (hn : noStar [e] = true) (env : Env) : ((backTo cpos (starEach [e] env)).all (fun x => !x.1) && (backToKw cpos (keywordEach [] env)).all (fun x => x.1.isSome)
      && decide ([e].length + ([] : List Keyword).length + (if ([] : List Keyword).isEmpty then 0 else 1) < 30)) = true := by
  rw [plain_all hn]; rfl
theorem own_live {k : Nat} {Z0 : Addr → Prop} {M : Sto} {μ : List Addr} {H : Hp} {v : V} (rx : RR g Z0 M μ H (.own k) v) : ∃ a, v = .ref a ∧ μ[k]? = some a := by
  cases rx with | own h => exact ⟨_, rfl, h⟩
theorem e_append (hb : noSup o = true) (hl : (apos.endLine == pos.line) = true) (hn : noStar [e] = true) (ho : PE X o (tR g pn W evo)) (ha : PA X [e] (tRs g pn W evs)) :
    PE X (.Call (.Attribute o "append" apos) [e] [] pos) (tR g pn W fun sl M => (evo sl M).bind fun x M1 => if mtOk "append" x M1 = true then (evs sl M1).bind fun as M2 => mtD "append" x as M2 else .bad) := by
  refine pe_imp (pe_bm PySem.F.plainAttrs_list PySem.F.slot_list_append PySem.F.type_list_append mt_append ho ha (noSup_base hb _ _ _) (few1 hn _) hl (star_plain hn _) rfl) fun σ H Q ⟨sl, M, μ, Z0, hs, hm, h⟩ => ?_
  refine tR.then hs hm h fun x M1 v H1 m1 s1 hs1 rx h1 => ?_
  split at h1
  · rename_i ok
    refine ⟨mtOk_of m1 rx ok (by decide), tRs.then hs1 m1 h1 fun as M2 vs H2 m2 s2 hs2 rs h2 => ?_⟩
    unfold mtD at h2
    rw [if_pos rfl] at h2
    cases x with
    | p _ _ => exact h2.elim
    | own k =>
      obtain ⟨ad, rfl, ha⟩ := own_live rx
      cases rs with
      | nil => exact h2.elim
      | cons ry rs => cases rs with
        | cons _ _ => exact h2.elim
        | nil =>
          rename_i b w
          cases ef : b.frz M2 with
          | none => simp only [ef] at h2; exact h2.elim
          | some q =>
            obtain ⟨d, M3⟩ := q
            simp only [ef] at h2
            obtain ⟨m3, s3, rd⟩ := ry.frz m2 ef
            cases ek : M3[k]? with
            | none => simp only [ek] at h2; exact h2.elim
            | some cl => cases cl with
              | dead _ => simp only [ek] at h2; exact h2.elim
              | live dl => cases dl with
                | lst xs =>
                  simp only [ek] at h2
                  split at h2
                  · rename_i hz
                    obtain ⟨_, ob, h3, h4⟩ := m3.live k _ ad ek ha
                    cases h4 with | @lst _ ws r4 =>
                    obtain ⟨m4, s4⟩ := m3.store (d' := .lst (xs ++ [d])) (o := .lst (ws ++ [w])) ek ha (.lst (r4.append (.cons rd .nil)))
                    exact ⟨ad, ws, w, rfl, rfl, h3, by rw [← r4.length, ← sz_eq]; exact hz, h2 _ m4 (s3.trans s4) _ (.p .non) (Fr.not rfl)⟩
                  · exact h2.elim
                | _ => simp only [ek] at h2; exact h2.elim
  · exact h1.elim
theorem e_pop (hb : noSup o = true) (hl : (apos.endLine == pos.line) = true) (ho : PE X o (tR g pn W evo)) :
    PE X (.Call (.Attribute o "pop" apos) [] [] pos) (tR g pn W fun sl M => (evo sl M).bind fun x M1 => if mtOk "pop" x M1 = true then mtD "pop" x [] M1 else .bad) := by
  refine pe_imp (pe_bm0 PySem.F.plainAttrs_list PySem.F.slot_list_pop PySem.F.type_list_pop mt_pop ho (noSup_base hb _ _ _) hl) fun σ H Q ⟨sl, M, μ, Z0, hs, hm, h⟩ => ?_
  refine tR.then hs hm h fun x M1 v H1 m1 s1 hs1 rx h1 => ?_
  split at h1
  · rename_i ok
    refine ⟨mtOk_of m1 rx ok (by decide), ?_⟩
    unfold mtD at h1
    rw [if_neg (by decide), if_pos rfl] at h1
    cases x with
    | p _ _ => exact h1.elim
    | own k =>
      obtain ⟨ad, rfl, ha⟩ := own_live rx
      cases ek : M1[k]? with
      | none => simp only [ek] at h1; exact h1.elim
      | some cl => cases cl with
        | dead _ => simp only [ek] at h1; exact h1.elim
        | live dl => cases dl with
          | lst xs =>
            simp only [ek] at h1
            cases el : xs[xs.length - 1]? with
            | none => simp only [el] at h1; exact h1.elim
            | some d =>
              simp only [el] at h1
              obtain ⟨_, ob, h3, h4⟩ := m1.live k _ ad ek ha
              cases h4 with | @lst _ ws r4 =>
              obtain ⟨w, h5, h6⟩ := r4.get el
              rw [r4.length] at h5
              obtain ⟨m4, s4⟩ := m1.store (d' := .lst xs.dropLast) (o := .lst ws.dropLast) ek ha (.lst r4.dropLast)
              exact ⟨ad, ws, w, rfl, rfl, h3, h5, h1 _ m4 s4 _ (.p (s4.rd h6)) (Fr.not rfl)⟩
          | _ => simp only [ek] at h1; exact h1.elim
  · exact h1.elim
theorem e_reverse (hb : noSup o = true) (hl : (apos.endLine == pos.line) = true) (ho : PE X o (tR g pn W evo)) :
    PE X (.Call (.Attribute o "reverse" apos) [] [] pos) (tR g pn W fun sl M => (evo sl M).bind fun x M1 => if mtOk "reverse" x M1 = true then mtD "reverse" x [] M1 else .bad) := by
  refine pe_imp (pe_bm0 PySem.F.plainAttrs_list PySem.F.slot_list_reverse PySem.F.type_list_reverse mt_reverse ho (noSup_base hb _ _ _) hl) fun σ H Q ⟨sl, M, μ, Z0, hs, hm, h⟩ => ?_
  refine tR.then hs hm h fun x M1 v H1 m1 s1 hs1 rx h1 => ?_
  split at h1
  · rename_i ok
    refine ⟨mtOk_of m1 rx ok (by decide), ?_⟩
    unfold mtD at h1
    rw [if_neg (by decide), if_neg (by decide), if_pos rfl] at h1
    cases x with
    | p _ _ => exact h1.elim
    | own k =>
      obtain ⟨ad, rfl, ha⟩ := own_live rx
      cases ek : M1[k]? with
      | none => simp only [ek] at h1; exact h1.elim
      | some cl => cases cl with
        | dead _ => simp only [ek] at h1; exact h1.elim
        | live dl => cases dl with
          | lst xs =>
            simp only [ek] at h1
            obtain ⟨_, ob, h3, h4⟩ := m1.live k _ ad ek ha
            cases h4 with | @lst _ ws r4 =>
            obtain ⟨m4, s4⟩ := m1.store (d' := .lst xs.reverse) (o := .lst ws.reverse) ek ha (.lst r4.rev)
            exact ⟨ad, ws, rfl, rfl, h3, h1 _ m4 s4 _ (.p .non) (Fr.not rfl)⟩
          | _ => simp only [ek] at h1; exact h1.elim
  · exact h1.elim
theorem e_bits (hb : noSup o = true) (hl : (apos.endLine == pos.line) = true) (ho : PE X o (tR g pn W evo)) :
    PE X (.Call (.Attribute o "bit_length" apos) [] [] pos) (tR g pn W fun sl M => (evo sl M).bind fun x M1 => if mtOk "bit_length" x M1 = true then mtD "bit_length" x [] M1 else .bad) := by
  refine pe_imp (pe_bits ho (noSup_base hb _ _ _) hl) fun σ H Q ⟨sl, M, μ, Z0, hs, hm, h⟩ => ?_
  refine tR.then hs hm h fun x M1 v H1 m1 s1 hs1 rx h1 => ?_
  rw [if_pos (show mtOk "bit_length" x M1 = true from rfl)] at h1
  unfold mtD at h1
  rw [if_neg (by decide), if_neg (by decide), if_neg (by decide), if_pos rfl] at h1
  cases ex : x.get M1 with
  | none => simp only [ex] at h1; exact h1.elim
  | some d => cases d with
    | int i =>
      simp only [ex] at h1
      exact ⟨i, (rx.read m1 ex).int, h1.ok m1 .refl _ (.p (.int _)) (Fr.not rfl)⟩
    | _ => simp only [ex] at h1; exact h1.elim
theorem findIdx_of {bs : List PyData} {f : PyData → Bool} {j : Nat} (h : bs.findIdx? f = some j) : (∃ z, bs[j]? = some z ∧ f z = true) ∧ ∀ (m : Nat) (z' : PyData), m < j → bs[m]? = some z' → f z' = false := by
  rw [List.findIdx?_eq_some_iff_getElem] at h
  obtain ⟨hl, h1, h2⟩ := h
  refine ⟨⟨bs[j], by simp [hl], h1⟩, fun m z' hm e => ?_⟩
  have q := h2 m hm
  obtain ⟨l, e2⟩ := List.getElem?_eq_some_iff.mp e
  rw [e2] at q
  simpa using q
theorem e_index (hK : g.K = X.K) (hu : X.A.units + 65 < cLine) (hb : noSup o = true) (hl : (apos.endLine == pos.line) = true) (hn : noStar [e] = true) (ho : PE X o (tR g pn W evo)) (ha : PA X [e] (tRs g pn W evs)) :
    PE X (.Call (.Attribute o "index" apos) [e] [] pos) (tR g pn W fun sl M => (evo sl M).bind fun x M1 => if mtOk "index" x M1 = true then (evs sl M1).bind fun as M2 => mtD "index" x as M2 else .bad) := by
  refine pe_imp (pe_bm PySem.F.plainAttrs_list PySem.F.slot_list_index PySem.F.type_list_index (mt_indexD hu) ho ha (noSup_base hb _ _ _) (few1 hn _) hl (star_plain hn _) rfl) fun σ H Q ⟨sl, M, μ, Z0, hs, hm, h⟩ => ?_
  refine tR.then hs hm h fun x M1 v H1 m1 s1 hs1 rx h1 => ?_
  split at h1
  · rename_i ok
    refine ⟨mtOk_of m1 rx ok (by decide), tRs.then hs1 m1 h1 fun as M2 vs H2 m2 s2 hs2 rs h2 => ?_⟩
    unfold mtD at h2
    rw [if_neg (by decide), if_neg (by decide), if_neg (by decide), if_neg (by decide), if_pos rfl] at h2
    cases ex : x.get M2 with
    | none => simp only [ex] at h2; exact h2.elim
    | some dx => cases eg : gets M2 as with
      | none => cases dx <;> (simp only [ex, eg] at h2; exact h2.elim)
      | some ds =>
        have hx := (s2.rr rx).read m2 ex
        have hd := rs.gets m2 eg
        cases dx with
        | lst xs => cases ds with
          | nil => simp only [ex, eg] at h2; exact h2.elim
          | cons d ds => cases ds with
            | cons _ _ => simp only [ex, eg] at h2; exact h2.elim
            | nil =>
              simp only [ex, eg] at h2
              obtain ⟨w, rfl, hw⟩ := p1 hd
              cases e1 : d.py with
              | none => simp only [e1] at h2; exact h2.elim
              | some pa => cases e2 : D.pys xs with
                | none => simp only [e1, e2] at h2; exact h2.elim
                | some bs =>
                  simp only [e1, e2] at h2
                  split at h2
                  · rename_i hsh
                    obtain ⟨c1, c2⟩ := Bool.and_eq_true_iff.mp hsh
                    cases e3 : bs.findIdx? fun z => PyData.eqv z pa with
                    | none => simp only [e3] at h2; exact h2.elim
                    | some j =>
                      simp only [e3] at h2
                      obtain ⟨⟨z, f1, f2⟩, f3⟩ := findIdx_of e3
                      have hxp : (D.lst xs).py = some (.list bs) := by show (D.pys xs).map PyData.list = _; rw [e2]; rfl
                      obtain ⟨ad, ws, rfl, _, _⟩ := hx.lst
                      exact ⟨ad, w, pa, bs, j, z, rfl, rfl, hK ▸ hx.dp hxp, hK ▸ hw.dp e1, c2, c1, f1, f2, f3, h2.ok m2 .refl _ (.p (.int _)) (Fr.not rfl)⟩
                  · exact h2.elim
        | _ => simp only [ex, eg] at h2; exact h2.elim
  · exact h1.elim
end
end DI

/-! DI.F7: what is walked, targets, comprehensions -/
namespace DI
open PySem PySem.Spec PyProof.Rows L2
/-- the iterator J walks the data xs, whatever grows meanwhile -/
def IW (g : Gx) (Z0 : Addr → Prop) (M : Sto) (μ : List Addr) (H : Hp) (xs : List D) (J : It) : Prop := ∃ (G : Hp → Prop) (Y : Nat → Hp → V → Hp → Prop), Walk J xs.length G Y ∧
  ∀ Z1 M1 μ1 H1, RM g Z1 M1 μ1 H1 → (∀ a o, H a = some o → ¬ Zof Z0 M μ a → H1 a = some o) → (∀ a, Zof Z1 M1 μ1 a → Zof Z0 M μ a ∨ H a = none) → G H1 ∧ ∀ i v H2, Y i H1 v H2 → ∃ d, xs[i]? = some d ∧ Grow H1 H2 ∧ RD g H2 (Zof Z1 M1 μ1) d v
def tI (g : Gx) (pn : List (Addr × Obj)) (W : WX) (ev : Slots → Sto → Res (List D)) : TI := fun σ H R => ∃ sl M μ Z0, RSl g pn Z0 M μ H sl σ ∧ RM g Z0 M μ H ∧ Pst g W σ Z0 M μ H (ev sl M) fun xs M' H' => ∀ J, IW g Z0 M' μ H' xs J → R J H'
section
variable {g : Gx} {pn : List (Addr × Obj)} {W : WX} {X : Cx} {pos p apos : Pos} {tg a b e : Expr} {eva evb : Slots → Sto → Res RV}
theorem pi_imp {t t' : TI} (h : PI X tg e t) (i : ∀ σ H R, t' σ H R → t σ H R) : PI X tg e t' := ⟨fun pins s σ H R I q => h.run pins s σ H R I (i σ H R q)⟩
/-- data of a list or a tuple, walked -/
theorem IW.mono {Z0 : Addr → Prop} {M : Sto} {μ : List Addr} {H H1 : Hp} {Z1 : Addr → Prop} {M1 : Sto} {μ1 : List Addr} (k : ∀ a o, H a = some o → ¬ Zof Z0 M μ a → H1 a = some o) (z : ∀ a, Zof Z1 M1 μ1 a → Zof Z0 M μ a ∨ H a = none) {d : D} {v : V} (h : RD g H (Zof Z0 M μ) d v) : RD g H1 (Zof Z1 M1 μ1) d v :=
  h.mono k fun a o e n q => (z a q).elim n fun w => by rw [e] at w; cases w
theorem IW.monos {Z0 : Addr → Prop} {M : Sto} {μ : List Addr} {H H1 : Hp} {Z1 : Addr → Prop} {M1 : Sto} {μ1 : List Addr} (k : ∀ a o, H a = some o → ¬ Zof Z0 M μ a → H1 a = some o) (z : ∀ a, Zof Z1 M1 μ1 a → Zof Z0 M μ a ∨ H a = none) {d : List D} {v : List V} (h : RDs g H (Zof Z0 M μ) d v) : RDs g H1 (Zof Z1 M1 μ1) d v :=
  h.mono k fun a o e n q => (z a q).elim n fun w => by rw [e] at w; cases w
theorem iw_list {Z0 : Addr → Prop} {M : Sto} {μ : List Addr} {H : Hp} {xs : List D} {vs : List V} {ad : Addr} (h : H ad = some (.lst vs)) (n : ¬ Zof Z0 M μ ad) (r : RDs g H (Zof Z0 M μ) xs vs) : IW g Z0 M μ H xs (Itl g.K ad) := by
  refine ⟨fun H => SqL g.K H ad vs, YAt vs, by rw [r.length]; exact walk_list, fun Z1 M1 μ1 H1 m1 k z => ⟨.inl (.inl (k _ _ h n)), fun i v H2 y => ?_⟩⟩
  obtain ⟨rfl, e⟩ := y
  obtain ⟨d, h1, h2⟩ := (IW.monos k z r).getV e
  exact ⟨d, h1, .refl, h2⟩
theorem iw_tup {Z0 : Addr → Prop} {M : Sto} {μ : List Addr} {H : Hp} {xs : List D} {vs : List V} {ad : Addr} (h : RD g H (Zof Z0 M μ) (.tup xs) (.ref ad)) (hq : SqT g.K H ad vs) (r : RDs g H (Zof Z0 M μ) xs vs) : IW g Z0 M μ H xs (Itt g.K ad) := by
  cases h with
  | @tup _ ws _ h n q =>
    refine ⟨fun H => SqT g.K H ad ws, YAt ws, by rw [q.length]; exact walk_tup, fun Z1 M1 μ1 H1 m1 k z => ⟨.inl (.inl (k _ _ h n)), fun i v H2 y => ?_⟩⟩
    obtain ⟨rfl, e⟩ := y
    obtain ⟨d, h1, h2⟩ := (IW.monos k z q).getV e
    exact ⟨d, h1, .refl, h2⟩
  | @ktup _ ws _ h q =>
    refine ⟨fun H => SqT g.K H ad ws, YAt ws, by rw [q.length]; exact walk_tup, fun Z1 M1 μ1 H1 m1 k z => ⟨.inr h, fun i v H2 y => ?_⟩⟩
    obtain ⟨rfl, e⟩ := y
    obtain ⟨d, h1, h2⟩ := (IW.monos k z q).getV e
    exact ⟨d, h1, .refl, h2⟩
theorem iw_rng {Z0 : Addr → Prop} {M : Sto} {μ : List Addr} {H : Hp} {lo : Int} {n : Nat} : IW g Z0 M μ H (rngD lo n) (Itr lo n) := by
  have hl : (rngD lo n).length = n := by unfold rngD; simp
  refine ⟨fun _ => True, fun i H x H' => i < n ∧ H' = H ∧ x = .int (lo + i), ?_, fun Z1 M1 μ1 H1 m1 k z => ⟨trivial, fun i v H2 y => ?_⟩⟩
  · rw [hl]
    exact ⟨fun _ _ hi _ => hi, fun _ _ => Nat.le_refl _, fun _ _ _ _ hi _ y => ⟨hi, y⟩⟩
  · obtain ⟨hi, rfl, rfl⟩ := y
    exact ⟨.int (lo + i), by unfold rngD; simp [hi], .refl, .int _⟩
theorem iw_rngC {Z0 : Addr → Prop} {M : Sto} {μ : List Addr} {H : Hp} {lo c : Int} {n : Nat} : IW g Z0 M μ H ((List.range n).map fun k => .int (lo + (k : Nat) * c)) (Itc lo c n) := by
  have hl : ((List.range n).map fun k => D.int (lo + (k : Nat) * c)).length = n := by simp
  refine ⟨fun _ => True, fun i H x H' => i < n ∧ H' = H ∧ x = .int (lo + (i : Nat) * c), ?_, fun Z1 M1 μ1 H1 m1 k z => ⟨trivial, fun i v H2 y => ?_⟩⟩
  · rw [hl]
    exact ⟨fun _ _ hi _ => hi, fun _ _ => Nat.le_refl _, fun _ _ _ _ hi _ y => ⟨hi, y⟩⟩
  · obtain ⟨hi, rfl, rfl⟩ := y
    exact ⟨.int (lo + (i : Nat) * c), by simp [hi], .refl, .int _⟩
/-- a list or a tuple -/
theorem i_seq (hK : g.K = X.K) (ha : PE X a (tR g pn W eva)) : PI X tg a (tI g pn W fun sl M => (eva sl M).bind fun x M1 => match x.frz M1 with
    | some (.lst xs, M2) => .ok xs M2
    | some (.tup xs, M2) => .ok xs M2
    | _ => .bad) := by
  refine ⟨fun pins s σ H R I ⟨sl, M, μ, Z0, hs, hm, h⟩ => ?_⟩
  have t : tR g pn W eva σ H fun v H1 => ∃ ad, v = .ref ad ∧ ((∃ vs, H1 ad = some (.lst vs) ∧ R (Itl g.K ad) H1) ∨ ∃ vs, SqT g.K H1 ad vs ∧ R (Itt g.K ad) H1) := by
    refine tR.then hs hm h fun x M1 v H1 m1 s1 hs1 rx h1 => ?_
    cases ef : x.frz M1 with
    | none => simp only [ef] at h1; exact h1.elim
    | some q =>
      obtain ⟨d, M2⟩ := q
      obtain ⟨m2, s2, rd⟩ := rx.frz m1 ef
      cases d with
      | lst xs =>
        simp only [ef] at h1
        cases rd with | @lst ad vs _ h2 n r => exact ⟨ad, rfl, .inl ⟨vs, h2, h1.ok m2 s2 _ (iw_list h2 n r)⟩⟩
      | tup xs =>
        simp only [ef] at h1
        obtain ⟨ad, vs, rfl, hq, r⟩ := (Rdb.d rd).tup
        exact ⟨ad, rfl, .inr ⟨vs, hq, h1.ok m2 s2 _ (iw_tup rd hq r)⟩⟩
      | _ => simp only [ef] at h1; exact h1.elim
  refine thn (ha.run pins s σ H _ I t) fun u s1 ⟨v, H1, I1, r1, ad, ev, q1⟩ => ?_
  subst ev
  have hl : PE X a (fun _ H Q => Q (.ref ad) H1 ∧ H = H1) → True := fun _ => trivial
  rcases q1 with ⟨vs, hq, q⟩ | ⟨vs, hq, q⟩
  · cases r1
    obtain ⟨its, rv, p, hz⟩ := I1.list (.inl (.inl hq))
    refine wpAny_pyIter_list p.isList ?_
    refine ⟨s1.heap.objs.size, [s1.heap.objs.size], _, Itl X.K ad, H1, rfl, I1.kept (t' := s1.toks) fun b o e => Heap.get?_push_of_some _ e, turn_list ad _, ⟨_, Heap.get?_push_size _ rfl, rfl, rfl⟩, fun b hb => ?_, hK ▸ q⟩
    cases List.mem_singleton.mp hb
    exact I1.fpOk (Nat.le_refl _) (I1.hok.fresh (Nat.le_refl _))
  · cases r1
    obtain ⟨its, rv, p, hz⟩ := I1.tuple (hK ▸ hq)
    refine wpAny_pyIter_tuple (show s1.heap.IsTuple ad its.toArray from p) ?_
    refine ⟨s1.heap.objs.size, [s1.heap.objs.size], _, Itt X.K ad, H1, rfl, I1.kept (t' := s1.toks) fun b o e => Heap.get?_push_of_some _ e, turn_tuple ad _, ⟨_, Heap.get?_push_size _ rfl, rfl, rfl⟩, fun b hb => ?_, hK ▸ q⟩
    cases List.mem_singleton.mp hb
    exact I1.fpOk (Nat.le_refl _) (I1.hok.fresh (Nat.le_refl _))
theorem boundI_of {i : Int} (h : boundI i = true) : -(2 ^ 62) ≤ i ∧ i < 2 ^ 62 := by
  obtain ⟨h1, h2⟩ := Bool.and_eq_true_iff.mp h
  exact ⟨of_decide_eq_true h1, of_decide_eq_true h2⟩
theorem RR.pint {Z0 : Addr → Prop} {M : Sto} {μ : List Addr} {H : Hp} {fr : Bool} {i : Int} {v : V} (h : RR g Z0 M μ H (.p fr (.int i)) v) : v = .int i := by
  cases h with | p h => cases h; rfl
theorem i_rng1 (hg : Gl X "range") (hm : X.mg "range" = none) (hn : noStar [a] = true) (ha : PE X a (tR g pn W eva)) : PI X tg (.Call (.Name "range" p) [a] [] pos) (tI g pn W fun sl M => (eva sl M).bind fun x M1 => match x with
    | .p _ (.int i) => if boundI i then .ok (rngD 0 i.toNat) M1 else .bad
    | _ => .bad) := by
  refine pi_imp (pi_range1 hg hm (pa_cons ha pa_nil (star_plain hn _)) (star_plain hn _)) fun σ H R ⟨sl, M, μ, Z0, hs, hm, h⟩ => tR.then hs hm h fun x M1 v H1 m1 s1 hs1 rx h1 => ?_
  cases x with
  | own _ => exact h1.elim
  | p fr d => cases d with
    | int i =>
      cases rx.pint
      simp only at h1
      split at h1
      · rename_i hb
        obtain ⟨b1, b2⟩ := boundI_of hb
        exact ⟨i, rfl, b1, b2, h1.ok m1 .refl _ iw_rng⟩
      · exact h1.elim
    | _ => exact h1.elim
theorem i_rng2 (hg : Gl X "range") (hm : X.mg "range" = none) (hn : noStar [a, b] = true) (ha : PE X a (tR g pn W eva)) (hb : PE X b (tR g pn W evb)) : PI X tg (.Call (.Name "range" p) [a, b] [] pos) (tI g pn W fun sl M => (eva sl M).bind fun x M1 => (evb sl M1).bind fun y M2 => match x, y with
    | .p _ (.int i), .p _ (.int j) => if boundI i && boundI j then .ok (rngD i (j - i).toNat) M2 else .bad
    | _, _ => .bad) := by
  have hn2 := noStar_tl hn
  have s2 : starEach [a, b] X.env = [(false, eval a X.env), (false, eval b X.env)] := by rw [star_plain hn, star_plain hn2]; rfl
  refine pi_imp (pi_range2 hg hm (pa_cons ha (pa_cons hb pa_nil (star_plain hn2 _)) (star_plain hn _)) s2 (star_plain hn2 _)) fun σ H R ⟨sl, M, μ, Z0, hs, hm, h⟩ => tR.then hs hm h fun x M1 v H1 m1 s1 hs1 rx h1 => tR.then hs1 m1 h1 fun y M2 u H2 m2 s2 hs2 ry h2 => ?_
  cases x with
  | own _ => exact h2.elim
  | p fr d => cases d with
    | int i => cases y with
      | own _ => exact h2.elim
      | p fr' d' => cases d' with
        | int j =>
          cases rx.pint; cases ry.pint
          simp only at h2
          split at h2
          · rename_i hb
            obtain ⟨c1, c2⟩ := Bool.and_eq_true_iff.mp hb
            obtain ⟨b1, b2⟩ := boundI_of c1
            obtain ⟨b3, b4⟩ := boundI_of c2
            exact ⟨i, j, rfl, ⟨b1, b2, b3, b4⟩, h2.ok m2 .refl _ iw_rng⟩
          · exact h2.elim
        | _ => exact h2.elim
    | _ => cases y <;> exact h2.elim
/-! targets -/
theorem RSl.set {Z0 : Addr → Prop} {M : Sto} {μ : List Addr} {H : Hp} {sl : Slots} {σ : L2.St} {i : Nat} {x : DV} {v : V} (h : RSl g pn Z0 M μ H sl σ) (r : RN g pn Z0 M μ H x v) : RSl g pn Z0 M μ H (sl.set i (some x)) (σ.set i (some v)) := by
  refine ⟨by simp [h.len], fun j y e => ?_⟩
  by_cases q : i = j
  · subst q
    by_cases l : i < sl.length
    · rw [List.getElem?_set_self l] at e
      cases e
      exact ⟨v, List.getElem?_set_self (by rw [← h.len]; exact l), r⟩
    · rw [List.getElem?_eq_none (by simp; omega)] at e; cases e
  · rw [List.getElem?_set_ne q] at e
    obtain ⟨w, h1, h2⟩ := h.at_ j y e
    exact ⟨w, by rw [List.getElem?_set_ne q]; exact h1, h2⟩
theorem RSl.unset {Z0 : Addr → Prop} {M : Sto} {μ : List Addr} {H : Hp} {sl : Slots} {σ : L2.St} {i : Nat} (h : RSl g pn Z0 M μ H sl σ) : RSl g pn Z0 M μ H (sl.set i none) (σ.set i none) := by
  refine ⟨by simp [h.len], fun j y e => ?_⟩
  by_cases q : i = j
  · subst q
    by_cases l : i < sl.length
    · rw [List.getElem?_set_self l] at e; cases e
    · rw [List.getElem?_eq_none (by simp; omega)] at e; cases e
  · rw [List.getElem?_set_ne q] at e
    obtain ⟨w, h1, h2⟩ := h.at_ j y e
    exact ⟨w, by rw [List.getElem?_set_ne q]; exact h1, h2⟩
theorem RSl.forget {Z0 : Addr → Prop} {M : Sto} {μ : List Addr} {H : Hp} {sl : Slots} {σ : L2.St} {i : Nat} (h : RSl g pn Z0 M μ H sl σ) : RSl g pn Z0 M μ H (sl.set i none) σ := by
  refine ⟨by simp [h.len], fun j y e => ?_⟩
  by_cases q : i = j
  · subst q
    by_cases l : i < sl.length
    · rw [List.getElem?_set_self l] at e; cases e
    · rw [List.getElem?_eq_none (by simp; omega)] at e; cases e
  · rw [List.getElem?_set_ne q] at e
    exact h.at_ j y e
theorem RSl.wipes {Z0 : Addr → Prop} {M : Sto} {μ : List Addr} {H : Hp} {sl : Slots} {σ : L2.St} (h : RSl g pn Z0 M μ H sl σ) : ∀ is : List Nat, RSl g pn Z0 M μ H (DI.wipe sl is) (L2.wipe σ is)
  | [] => h
  | _ :: is => (RSl.wipes h is).unset
theorem RSl.forgets {Z0 : Addr → Prop} {M : Sto} {μ : List Addr} {H : Hp} {sl : Slots} {σ : L2.St} (h : RSl g pn Z0 M μ H sl σ) : ∀ is : List Nat, RSl g pn Z0 M μ H (DI.wipe sl is) σ
  | [] => h
  | _ :: is => (RSl.forgets h is).forget
/-- a target takes a value -/
def tG (g : Gx) (pn : List (Addr × Obj)) (tg : G) : TG := fun v σ H Q => ∃ sl M μ Z0 d sl', RSl g pn Z0 M μ H sl σ ∧ RM g Z0 M μ H ∧ RD g H (Zof Z0 M μ) d v ∧ bindG tg d sl = some sl' ∧ ∀ σ', σ'.length = σ.length → (∀ is, tg.slots ⊆ is → L2.wipe σ' is = L2.wipe σ is) → RSl g pn Z0 M μ H sl' σ' → Q σ' H
theorem wipe_set {σ : L2.St} {i : Nat} {x : Option V} : ∀ {is : List Nat}, i ∈ is → L2.wipe (σ.set i x) is = L2.wipe σ is
  | j :: is, h => by
    unfold L2.wipe
    by_cases q : i ∈ is
    · rw [wipe_set q]
    · rcases List.mem_cons.mp h with e | e
      · subst e
        have : ∀ js : List Nat, i ∉ js → L2.wipe (σ.set i x) js = (L2.wipe σ js).set i x := fun js => by
          induction js with
          | nil => intro _; rfl
          | cons k js ih =>
            intro hk
            unfold L2.wipe
            rw [ih fun z => hk (List.mem_cons_of_mem _ z)]
            rw [List.set_comm]
            intro z; exact hk (by simp [z])
        rw [this is q, List.set_set]
      · exact absurd e q
theorem g_name {i : Nat} {x : Str} (hN : X.N.Nodup) (hi : X.N[i]? = some x) (hx : Loc X.env.scope x) (hf : X.fn x = true ∨ X.env.scope.names.lookup x = some .local) : PG X (.Name x pos) (tG g pn (.name i)) := by
  refine ⟨fun pins s σ H v u Q I r ⟨sl, M, μ, Z0, d, sl', hs, hm, rd, e, q⟩ => (pg_name hN hi hx hf).run pins s σ H v u Q I r ?_⟩
  cases e
  exact q _ (by simp) (fun is hs => wipe_set (hs (by simp [G.slots]))) (hs.set (.p rd))
end
end DI

/-! DI.N1: enumerate(a list or a tuple) -/
namespace DIX
open PySem PySem.Spec PyProof.Rows L2
theorem meets_enum1 {v : Value} {o : Obj} {H : Heap → Prop} (B : Begins v o H) :
    Meets (Builtin.«enumerate.__new__» ⟨[.type "enumerate", v], []⟩) (fun _ R s => H s.heap ∧
      R (.ok (.ret (.ref (s.heap.push o).objs.size))) { s with heap := (s.heap.push o).push { cls := .type "enumerate", data := .fields #[.none, .bool false, .ref s.heap.objs.size, rawInt 0, .none, .none] } }) :=
  .of_wp fun prog w A R s h => by
    obtain ⟨hp, g, d, tk, os⟩ := s
    obtain ⟨h1, h⟩ := h
    have hsub := sub_enumerate
    have q1 : ∀ {A' : Around} {E : Value → Shared → Prop} {Q : Value → Shared → Prop}, Q (.ref hp.objs.size) ⟨hp.push o, g, d, tk, os⟩ → wpAny (model prog w) A' (pyIter v) Q E ⟨hp, g, d, tk, os⟩ :=
      fun q => B.iter prog w _ _ ⟨hp, g, d, tk, os⟩ _ h1 q
    wp_walk using q1
    refine wpAny_stack_any fun st => wpAny_pure ?_
    split
    · rename_i c _ _ _ _ _
      cases (c == Value.type "enumerate")
      · wp_walk using q1
        exact ⟨_, rfl, h⟩
      · wp_walk using q1
        exact ⟨_, rfl, h⟩
    · wp_walk using q1
      exact ⟨_, rfl, h⟩
section
variable {prog : Program} {w : World} {A : Around} {E : Value → Shared → Prop} {s : Shared}
theorem enum1_begins {v : Value} {o : Obj} {H : Heap → Prop} {Q : Value → Shared → Prop} (B : Begins v o H) (h1 : H s.heap)
    (h : ∀ h', IsEnum h' (s.heap.objs.size + 1) s.heap.objs.size 0 .none → h'.get? s.heap.objs.size = some o → (∀ b o, s.heap.get? b = some o → h'.get? b = some o) → Q (.ref (s.heap.objs.size + 1)) { s with heap := h' }) :
    wpAny (model prog w) A (call (.type "enumerate") [v]) Q E s := by
  refine callType_new F.called_enumerate (by decide) (F.typeCall_enumerate_1 _) (F.newCall_enumerate_1 _) (fun obj => F.args_object_init_2 obj _) F.entry_enumerate_new (meets_enum1 B) ⟨h1, ?_⟩
  have hz : (s.heap.push o).objs.size = s.heap.objs.size + 1 := Heap.size_push ..
  show _ ∧ _
  rw [hz]
  have he : IsEnum ((s.heap.push o).push { cls := .type "enumerate", data := .fields #[.none, .bool false, .ref s.heap.objs.size, rawInt 0, .none, .none] }) (s.heap.objs.size + 1) s.heap.objs.size 0 .none := by
    have e := Heap.get?_push_size (s.heap.push o) (o := { cls := .type "enumerate", data := .fields #[.none, .bool false, .ref s.heap.objs.size, rawInt 0, .none, .none] }) rfl
    rw [hz] at e
    exact e
  exact ⟨⟨_, he, rfl⟩, h _ he (Heap.get?_push_of_some _ (Heap.get?_push_size _ B.free)) fun b o x => Heap.get?_push_of_some _ (Heap.get?_push_of_some _ x)⟩
end
/-- the tuple at a, each item in a new pair -/
def Itu (K : PySem.W.Frag) (a : Addr) : It :=
  ⟨fun i H => ∃ (xs : List V) (x : V), SqT K H a xs ∧ xs[i]? = some x, fun i H v H' => ∃ T x, v = .ref T ∧ H T = none ∧ H' = upd H T (.tup [.int (i : Nat), x]) ∧ ∀ xs, SqT K H a xs → xs[i]? = some x, fun i H => ∃ xs : List V, SqT K H a xs ∧ xs.length = i⟩
theorem turn_enumT {P : Program} {w : World} {K : PySem.W.Frag} {elts : List Expr} {kk : Nat} {tpos : Pos} (a e it : Addr) :
    Turn P w K (.Tuple elts kk tpos) (Itu K a) [e, it] e (fun i h => (∃ old, IsEnum h e it ((i : Nat) : Int) old) ∧ h.IsTupleIter it a i ∧ e ≠ it) where
  mem := by simp
  obj := fun i h st b hb => by
    obtain ⟨⟨old, he⟩, ⟨o, ho, hc, hd⟩, _⟩ := st
    have e' : b = e ∨ b = it := by simpa using hb
    rcases e' with z | z
    · rw [z]; exact ⟨_, he, fun v q => nomatch q⟩
    · rw [z]; exact ⟨o, ho, fun v q => by rw [hd] at q; cases q⟩
  keep := fun i h h' st k => by
    obtain ⟨⟨old, he⟩, hi, hne⟩ := st
    exact ⟨⟨old, k e (by simp) _ he⟩, hi.at fun o q => k it (by simp) o q, hne⟩
  item := by
    intro X hP hw hK hc i pins s σ H E I hf st hg
    subst hP hw hK
    obtain ⟨⟨old, he⟩, hit, hne⟩ := st
    obtain ⟨xs, x, hq, hx⟩ := hg
    obtain ⟨its, rv, p, hz⟩ := I.tuple hq
    obtain ⟨u, hu, ru⟩ := rv.get hx
    have hel : e < s.heap.objs.size := Heap.lt_size he
    have hil : it < s.heap.objs.size := by obtain ⟨_, q, _⟩ := hit; exact Heap.lt_size q
    obtain ⟨ot, t1, t2, t3⟩ := id p
    have nea : e ≠ a := fun z => by
      have he' : s.heap.get? e = some _ := he
      rw [z, t1] at he'
      cases he'
      simp at t2
    have nia : a ≠ it := fun z => by
      obtain ⟨o2, q1, q2, _⟩ := id hit
      rw [← z, t1] at q1
      cases q1
      rw [t2] at q2
      simp at q2
    have D := Draws.tuple (prog := X.prog) (w := X.w) (A := X.A.in1) (I.ok.hd hc) it a nia its.toArray
    have hlt : i < its.toArray.size := by
      have := (List.getElem?_eq_some_iff.mp hu).1
      simpa using this
    refine wpAny_pyNext_enum_itemD D he ⟨hit, p⟩ hlt hne (by simp [hne, nea]) fun y h' tk hy ho hst' hT hsz hk => ?_
    obtain ⟨hit', _⟩ := hst'
    have ey : y = u := by
      have h1 : its.toArray[i]? = some y := hy
      have h2 : its[i]? = some y := by simpa using h1
      rw [hu] at h2
      exact (Option.some.inj h2).symm
    subst ey
    refine ⟨_, rfl, wpAny_letOwnedTupleGo_enum (s := { s with heap := h', toks := tk + 1 }) ho fun h'' he' sb => ?_⟩
    have hT2 : h''.get? s.heap.objs.size = some { cls := .type "tuple", data := .seq #[.int i tk, y] } := (sb.2 _ (Nat.ne_of_gt hel)).trans hT
    have new : ObjOk X.prog X.w (upd H s.heap.objs.size (.tup [.int (i : Nat), x])) h'' s.heap.objs.size (.tup [.int (i : Nat), x]) :=
      ⟨by show 2 ≤ sizeLine; decide, [.int i tk, y], .cons ⟨_, rfl⟩ (.cons ru .nil), ⟨_, hT2, rfl, _, rfl⟩⟩
    have I1 : Inv X pins σ (upd H s.heap.objs.size (.tup [.int (i : Nat), x])) { s with heap := h'', toks := tk + 1 } :=
      I.turnedNew (ch := [e, it]) (fun b ob hb q => (sb.2 b (fun z => hb (by simp [z]))).trans (hk b ob (fun z => hb (by simp [z])) (fun z => hb (by simp [z])) q)) hf (Nat.le_refl _) new
    refine ⟨.ref s.heap.objs.size, _, I1, rfl, ⟨_, x, rfl, I.hok.fresh (Nat.le_refl _), rfl, fun ys hy => by rw [I.tuple_inj hy hq]; exact hx⟩, ⟨⟨y, ?_⟩, hit'.at fun o q => (sb.2 it (Ne.symm hne)).trans q, hne⟩, fun b hb => ?_⟩
    · have e1 : ((i + 1 : Nat) : Int) = (i : Int) + 1 := by omega
      rw [e1]; exact he'
    · have hb' : b < s.heap.objs.size := by
        have e' : b = e ∨ b = it := by simpa using hb
        rcases e' with z | z
        · rw [z]; exact hel
        · rw [z]; exact hil
      rw [upd_ne (Nat.ne_of_lt hb')]
      exact (hf b hb).1
  done := by
    intro X hP hw hK hc i pins s σ H E I hf st hg
    subst hP hw hK
    obtain ⟨⟨old, he⟩, hit, hne⟩ := st
    obtain ⟨xs, hq, hx⟩ := hg
    obtain ⟨its, rv, p, hz⟩ := I.tuple hq
    obtain ⟨f0, f1, f2, f3, f4, f5⟩ := hf it (by simp)
    obtain ⟨ot, t1, t2, t3⟩ := id p
    have nia : a ≠ it := fun z => by
      obtain ⟨o2, q1, q2, _⟩ := id hit
      rw [← z, t1] at q1
      cases q1
      rw [t2] at q2
      simp at q2
    have D := Draws.tuple (prog := X.prog) (w := X.w) (A := X.A.in1) (I.ok.hd hc) it a nia its.toArray
    have hl : its.toArray.size = i := by
      rw [← hx, rv.length]; simp
    subst hl
    exact wpAny_pyNext_enum_endD D he ⟨hit, p⟩ fun h' eb => ⟨rfl, I.turned (t' := s.toks) (fun b o hb q => eb b o hb q) f0 f1 f3 f4 f5⟩
  self := fun A i s Q E st h => by
    obtain ⟨⟨_, he⟩, _⟩ := st
    exact wpAny_pyIter_enum he h
def iEnumB (K : PySem.W.Frag) (ta : TA) : TI := fun σ H R => ta σ H fun vs H1 => ∃ a xs, vs = [.ref a] ∧ ((SqL K H1 a xs ∧ R (Ite K a) H1) ∨ (SqT K H1 a xs ∧ R (Itu K a) H1))
theorem pi_enumB {X : Cx} {e : Expr} {ta : TA} {p pos tpos : Pos} {elts : List Expr} {kk : Nat} (hg : Gl X "enumerate") (hm : X.mg "enumerate" = none) (ha : PA X [e] ta) (hs : starEach [e] X.env = [(false, eval e X.env)]) :
    PI X (.Tuple elts kk tpos) (.Call (.Name "enumerate" p) [e] [] pos) (iEnumB X.K ta) := by
  refine ⟨fun pins s σ H R I h => ?_⟩
  refine Call_ (ld_blt I hg hm boot_enumerate (PyProof.Rows.callWith_type1 (thn (ha.run pos pins s σ H _ I h) fun us s1 ⟨vs, H1, I1, r1, q1⟩ => ?_) hs rfl))
  obtain ⟨a, xs, ex, q⟩ := q1
  subst ex
  cases r1 with
  | cons r rr =>
    cases rr
    cases r
    have fresh : ∀ b, b ∈ [s1.heap.objs.size + 1, s1.heap.objs.size] → FpOk X pins H1 b := fun b hb => by
      have hle : s1.heap.objs.size ≤ b := by
        rcases List.mem_cons.mp hb with z | z
        · rw [z]; exact Nat.le_add_right _ _
        · rw [List.mem_singleton.mp z]; exact Nat.le_refl _
      exact I1.fpOk hle (I1.hok.fresh hle)
    rcases q with ⟨hq, q⟩ | ⟨hq, q⟩
    · obtain ⟨its, rv, p', hz⟩ := I1.list hq
      refine enum1_begins (begins_list a its.toArray) p'.isList fun h' he hit hk => wpAny_pyIter_enum he ?_
      exact ⟨s1.heap.objs.size + 1, [s1.heap.objs.size + 1, s1.heap.objs.size], _, _, H1, rfl, I1.kept (t' := s1.toks) hk, turn_enum a (s1.heap.objs.size + 1) s1.heap.objs.size, ⟨⟨.none, he⟩, ⟨_, hit, rfl, rfl⟩, Nat.succ_ne_self _⟩, fresh, q⟩
    · obtain ⟨its, rv, p', hz⟩ := I1.tuple hq
      refine enum1_begins (begins_tuple a its.toArray) p' fun h' he hit hk => wpAny_pyIter_enum he ?_
      exact ⟨s1.heap.objs.size + 1, [s1.heap.objs.size + 1, s1.heap.objs.size], _, _, H1, rfl, I1.kept (t' := s1.toks) hk, turn_enumT a (s1.heap.objs.size + 1) s1.heap.objs.size, ⟨⟨.none, he⟩, ⟨_, hit, rfl, rfl⟩, Nat.succ_ne_self _⟩, fresh, q⟩
end DIX

/-! DI.N2: walks over enumerate, over range with a step -/
namespace DI
open PySem PySem.Spec PyProof.Rows L2
def enumD (xs : List D) : List D := xs.zipIdx.map fun q => .tup [.int (q.2 : Nat), q.1]
theorem enumD_len {xs : List D} : (enumD xs).length = xs.length := by unfold enumD; simp
theorem enumD_at {xs : List D} {i : Nat} {d : D} (h : xs[i]? = some d) : (enumD xs)[i]? = some (.tup [.int (i : Nat), d]) := by
  unfold enumD
  rw [List.getElem?_map, List.getElem?_zipIdx, h]
  simp
/-- the i-th in a new pair -/
def YEn (vs : List V) : Nat → Hp → V → Hp → Prop := fun i H v H' => ∃ T x, v = .ref T ∧ H T = none ∧ H' = upd H T (.tup [.int (i : Nat), x]) ∧ vs[i]? = some x
section
variable {g : Gx} {Z0 : Addr → Prop} {M : Sto} {μ : List Addr} {H : Hp} {xs : List D} {vs : List V} {ad : Addr}
theorem yen_ok {Z1 : Addr → Prop} {M1 : Sto} {μ1 : List Addr} {H1 H2 : Hp} {i : Nat} {v : V} (m : RM g Z1 M1 μ1 H1) (r : RDs g H1 (Zof Z1 M1 μ1) xs vs) (y : YEn vs i H1 v H2) : ∃ d, (enumD xs)[i]? = some d ∧ Grow H1 H2 ∧ RD g H2 (Zof Z1 M1 μ1) d v := by
  obtain ⟨T, x, rfl, hT, rfl, hx⟩ := y
  obtain ⟨d, h1, h2⟩ := r.getV hx
  have gr : Grow H1 (upd H1 T (.tup [.int (i : Nat), x])) := .new hT
  exact ⟨_, enumD_at h1, gr, .tup upd_same (fun z => m.zdom z hT) (.cons (.int _) (.cons (gr.rd h2) .nil))⟩
theorem iw_enumL (h : H ad = some (.lst vs)) (n : ¬ Zof Z0 M μ ad) (r : RDs g H (Zof Z0 M μ) xs vs) : IW g Z0 M μ H (enumD xs) (Ite g.K ad) := by
  refine ⟨fun H => SqL g.K H ad vs, YEn vs, ?_, fun Z1 M1 μ1 H1 m1 k z => ⟨.inl (.inl (k _ _ h n)), fun i v H2 y => yen_ok m1 (IW.monos k z r) y⟩⟩
  rw [enumD_len, r.length]
  refine ⟨fun i H hi h => ?_, fun H h => ⟨vs, h, Nat.le_refl _⟩, fun i H x H' hi h y => ?_⟩
  · exact ⟨vs, vs[i], h, List.getElem?_eq_getElem hi⟩
  · obtain ⟨T, w, e1, e2, e3, e4⟩ := y
    exact ⟨T, w, e1, e2, e3, e4 vs h⟩
theorem iw_enumT {ws : List V} (h : RD g H (Zof Z0 M μ) (.tup xs) (.ref ad)) : IW g Z0 M μ H (enumD xs) (DIX.Itu g.K ad) := by
  have wk : ∀ {ws : List V}, xs.length = ws.length → Walk (DIX.Itu g.K ad) (enumD xs).length (fun H => SqT g.K H ad ws) (YEn ws) := fun {ws} hl => by
    rw [enumD_len, hl]
    refine ⟨fun i H hi h => ⟨ws, ws[i], h, List.getElem?_eq_getElem hi⟩, fun H h => ⟨ws, h, rfl⟩, fun i H x H' hi h y => ?_⟩
    obtain ⟨T, w, e1, e2, e3, e4⟩ := y
    exact ⟨T, w, e1, e2, e3, e4 ws h⟩
  cases h with
  | @tup _ ws _ h n q => exact ⟨fun H => SqT g.K H ad ws, YEn ws, wk q.length, fun Z1 M1 μ1 H1 m1 k z => ⟨.inl (.inl (k _ _ h n)), fun i v H2 y => yen_ok m1 (IW.monos k z q) y⟩⟩
  | @ktup _ ws _ h q => exact ⟨fun H => SqT g.K H ad ws, YEn ws, wk q.length, fun Z1 M1 μ1 H1 m1 k z => ⟨.inr h, fun i v H2 y => yen_ok m1 (IW.monos k z q) y⟩⟩
end
section
variable {g : Gx} {pn : List (Addr × Obj)} {W : WX} {X : Cx} {pos p tpos : Pos} {tg a b c : Expr} {elts : List Expr} {kk : Nat} {eva evb evc : Slots → Sto → Res RV}
theorem i_enum (hK : g.K = X.K) (hg : Gl X "enumerate") (hm : X.mg "enumerate" = none) (hn : noStar [a] = true) (ha : PE X a (tR g pn W eva)) : PI X (.Tuple elts kk tpos) (.Call (.Name "enumerate" p) [a] [] pos) (tI g pn W fun sl M => (eva sl M).bind fun x M1 => match x.frz M1 with
    | some (.lst xs, M2) => .ok (enumD xs) M2
    | some (.tup xs, M2) => .ok (enumD xs) M2
    | _ => .bad) := by
  refine pi_imp (DIX.pi_enumB hg hm (pa_cons ha pa_nil (star_plain hn _)) (star_plain hn _)) fun σ H R ⟨sl, M, μ, Z0, hs, hm, h⟩ => tR.then hs hm h fun x M1 v H1 m1 s1 hs1 rx h1 => ?_
  cases ef : x.frz M1 with
  | none => simp only [ef] at h1; exact h1.elim
  | some q =>
    obtain ⟨d, M2⟩ := q
    simp only [ef] at h1
    obtain ⟨m2, s2, rd⟩ := rx.frz m1 ef
    cases d with
    | lst xs =>
      cases id rd with | @lst ad vs _ h z r => exact ⟨ad, vs, rfl, .inl ⟨.inl (.inl h), h1.ok m2 s2 _ (hK ▸ iw_enumL h z r)⟩⟩
    | tup xs =>
      have iw : ∀ {ad}, v = .ref ad → IW g Z0 M2 μ H1 (enumD xs) (DIX.Itu X.K ad) := fun {ad} e => by
        subst e
        rw [← hK]
        exact iw_enumT (ws := []) rd
      cases id rd with
      | @tup ad vs _ h z r => exact ⟨ad, vs, rfl, .inr ⟨.inl (.inl h), h1.ok m2 s2 _ (iw rfl)⟩⟩
      | @ktup ad vs _ h r => exact ⟨ad, vs, rfl, .inr ⟨.inr (hK ▸ h), h1.ok m2 s2 _ (iw rfl)⟩⟩
    | _ => exact h1.elim
theorem i_rng3 (hg : Gl X "range") (hm : X.mg "range" = none) (hn : noStar [a, b, c] = true) (ha : PE X a (tR g pn W eva)) (hb : PE X b (tR g pn W evb)) (hc : PE X c (tR g pn W evc)) : PI X tg (.Call (.Name "range" p) [a, b, c] [] pos) (tI g pn W fun sl M => (eva sl M).bind fun x M1 => (evb sl M1).bind fun y M2 => (evc sl M2).bind fun z M3 => match x, y, z with
    | .p _ (.int i), .p _ (.int j), .p _ (.int s) => if decide (s ≠ 0) && decide (s.natAbs < 1073741824) && Builtin.Range.small i j s then .ok ((List.range (Builtin.Range.rangeSize i j s).toNat).map fun k => .int (i + (k : Nat) * s)) M3 else .bad
    | _, _, _ => .bad) := by
  have hn2 := noStar_tl hn
  have hn3 := noStar_tl hn2
  refine pi_imp (pi_range3 hg hm (pa_cons ha (pa_cons hb (pa_cons hc pa_nil (star_plain hn3 _)) (star_plain hn2 _)) (star_plain hn _)) (star_plain hn _) (plain_any hn2)) fun σ H R ⟨sl, M, μ, Z0, hs, hm, h⟩ => tR.then hs hm h fun x M1 v H1 m1 s1 hs1 rx h1 => tR.then hs1 m1 h1 fun y M2 u H2 m2 s2 hs2 ry h2 => tR.then hs2 m2 h2 fun z M3 t H3 m3 s3 hs3 rz h3 => ?_
  split at h3
  · cases rx.pint
    cases ry.pint
    cases rz.pint
    split at h3
    · rename_i ok
      simp only [Bool.and_eq_true, decide_eq_true_eq] at ok
      exact ⟨_, _, _, _, rfl, ⟨ok.1.1, ok.1.2, ok.2, rangeSize_toNat _ _ _⟩, h3.ok m3 .refl _ iw_rngC⟩
    · exact h3.elim
  · exact h3.elim
end
end DI

/-! DI.F8: tuple targets, comprehensions -/
namespace DI
open PySem PySem.Spec PyProof.Rows L2
section
variable {g : Gx} {pn : List (Addr × Obj)} {W : WX} {X : Cx} {pos p apos : Pos}
/-- targets that are names -/
def namesAre (N : List Str) (loc : Str → Bool) : List Nat → List Expr → Bool
  | [], [] => true
  | i :: is, e :: es => (match asName e with | some (x, _) => decide (N[i]? = some x) && loc x | none => false) && namesAre N loc is es
  | _, _ => false
def gNames : List Nat → TGs
  | [] => gNil
  | i :: is => gCons (gName i) (gNames is)
theorem asEach_name {x : Str} {p : Pos} {es : List Expr} {env : Env} : assignEach (.Name x p :: es) env = (false, assign (.Name x p) env) :: assignEach es env := rfl
theorem pgs_names {loc : Str → Bool} (hN : X.N.Nodup) (hl : ∀ x, loc x = true → Loc X.env.scope x ∧ (X.fn x = true ∨ X.env.scope.names.lookup x = some .local)) : ∀ {is : List Nat} {es : List Expr}, namesAre X.N loc is es = true → PGs X es (gNames is) ∧ (assignEach es X.env).length = is.length ∧ (assignEach es X.env).findIdx? (·.1) = none
  | [], [], _ => ⟨pgs_nil, rfl, rfl⟩
  | i :: is, e :: es, h => by
    obtain ⟨h1, h2⟩ := Bool.and_eq_true_iff.mp (show ((match asName e with | some (x, _) => decide (X.N[i]? = some x) && loc x | none => false) && namesAre X.N loc is es) = true from h)
    cases q : asName e with
    | none => rw [q] at h1; cases h1
    | some r =>
      obtain ⟨x, p⟩ := r
      rw [q] at h1
      obtain ⟨h3, h4⟩ := Bool.and_eq_true_iff.mp h1
      obtain ⟨l1, l2⟩ := hl x h4
      obtain ⟨q1, q2, q3⟩ := pgs_names hN hl h2
      rw [asName_eq q]
      refine ⟨pgs_cons (pg_name hN (of_decide_eq_true h3) l1 l2) q1, ?_, ?_⟩
      · rw [asEach_name]; show (assignEach es X.env).length + 1 = is.length + 1; rw [q2]
      · rw [asEach_name, List.findIdx?_cons, q3]; rfl
  | [], _ :: _, h => by cases h
  | _ :: _, [], h => by cases h
theorem gNames_of {Q : L2.St → Hp → Prop} {H : Hp} : ∀ {is : List Nat} {vs : List V} {σ : L2.St}, vs.length = is.length → Q ((is.zip vs).foldl (fun s q => s.set q.1 (some q.2)) σ) H → gNames is vs σ H Q
  | [], [], σ, _, h => ⟨rfl, h⟩
  | i :: is, v :: vs, σ, e, h => ⟨v, vs, rfl, gNames_of (Nat.succ.inj e) h⟩
  | [], _ :: _, _, e, _ => by cases e
  | _ :: _, [], _, e, _ => by cases e
theorem RSl.sets {Z0 : Addr → Prop} {M : Sto} {μ : List Addr} {H : Hp} : ∀ {is : List Nat} {ds : List D} {vs : List V} {sl : Slots} {σ : L2.St}, RDs g H (Zof Z0 M μ) ds vs → RSl g pn Z0 M μ H sl σ → RSl g pn Z0 M μ H ((is.zip ds).foldl (fun s q => s.set q.1 (some (.p q.2))) sl) ((is.zip vs).foldl (fun s q => s.set q.1 (some q.2)) σ)
  | [], _, _, _, _, _, h => h
  | _ :: _, _, _, _, _, .nil, h => h
  | i :: is, _ :: ds, _ :: vs, _, _, .cons r rs, h => RSl.sets (is := is) rs (h.set (.p r))
theorem wipe_sets {js : List Nat} : ∀ {is : List Nat} {vs : List V} {σ : L2.St}, is ⊆ js → L2.wipe ((is.zip vs).foldl (fun s q => s.set q.1 (some q.2)) σ) js = L2.wipe σ js
  | [], _, _, _ => rfl
  | _ :: _, [], _, _ => rfl
  | i :: is, v :: vs, σ, h => by
    show L2.wipe ((is.zip vs).foldl (fun s q => s.set q.1 (some q.2)) (σ.set i (some v))) js = _
    rw [wipe_sets fun x hx => h (List.mem_cons_of_mem _ hx), wipe_set (h List.mem_cons_self)]
theorem sets_length {α : Type} : ∀ {is : List Nat} {vs : List α} {σ : List (Option α)}, ((is.zip vs).foldl (fun s q => s.set q.1 (some q.2)) σ).length = σ.length
  | [], _, _ => rfl
  | _ :: _, [], _ => rfl
  | i :: is, v :: vs, σ => by
    show ((is.zip vs).foldl (fun s q => s.set q.1 (some q.2)) (σ.set i (some v))).length = _
    rw [sets_length]; simp
theorem g_tup {loc : Str → Bool} {is : List Nat} {es : List Expr} {k : Nat} (hK : g.K = X.K) (hc : X.calm = true) (hN : X.N.Nodup) (hl : ∀ x, loc x = true → Loc X.env.scope x ∧ (X.fn x = true ∨ X.env.scope.names.lookup x = some .local)) (h : namesAre X.N loc is es = true) : PG X (.Tuple es k pos) (tG g pn (.tup is)) := by
  obtain ⟨q1, q2, q3⟩ := pgs_names hN hl h
  refine ⟨fun pins s σ H v u Q I r ⟨sl, M, μ, Z0, d, sl', hs, hm, rd, e, q⟩ => (pg_tup hc q1 q2 q3).run pins s σ H v u Q I r ?_⟩
  unfold bindG at e
  cases d with
  | tup xs =>
    simp only at e
    split at e
    · rename_i hx
      cases e
      obtain ⟨a, vs, rfl, hq, rs⟩ := (Rdb.d rd).tup
      refine ⟨a, vs, rfl, hK ▸ hq, by rw [← rs.length]; exact hx, gNames_of (by rw [← rs.length]; exact hx) ?_⟩
      exact q _ sets_length (fun js hj => wipe_sets hj) (RSl.sets rs hs)
    · cases e
  | _ => cases e
/-! comprehensions -/
theorem wipe_idem {σ : L2.St} : ∀ {is : List Nat}, L2.wipe (L2.wipe σ is) is = L2.wipe σ is := fun {is} => by
  have : ∀ js, js ⊆ is → L2.wipe (L2.wipe σ js) is = L2.wipe σ is := fun js => by
    induction js with
    | nil => intro _; rfl
    | cons i js ih =>
      intro h
      show L2.wipe ((L2.wipe σ js).set i none) is = _
      rw [wipe_set (h List.mem_cons_self), ih fun x hx => h (List.mem_cons_of_mem _ hx)]
  exact this is fun _ h => h
theorem zand_of {Z0 : Addr → Prop} {M : Sto} {μ : List Addr} {H : Hp} {D : Addr} (hD : H D = none) : ∀ a o, H a = some o → ¬ Zof Z0 M μ a → ¬ Zof (Zand Z0 D) M μ a := fun a o e n z => by
  rcases z with z | z | z
  · exact n (.inl z)
  · exact n (.inr z)
  · subst z; rw [hD] at e; cases e
theorem RSl.zand {Z0 : Addr → Prop} {M : Sto} {μ : List Addr} {H : Hp} {D : Addr} {sl : Slots} {σ : L2.St} (hD : H D = none) (h : RSl g pn Z0 M μ H sl σ) : RSl g pn (Zand Z0 D) M μ H sl σ :=
  ⟨h.len, fun i x e => by
    obtain ⟨v, h1, h2⟩ := h.at_ i x e
    refine ⟨v, h1, ?_⟩
    cases h2 with
    | p r => exact .p (r.mono (fun _ _ e _ => e) (zand_of hD))
    | own r => exact .own r
    | exc g1 g2 g3 r =>
      obtain ⟨vs, r1, r2, r3⟩ := r
      exact .exc g1 g2 g3 ⟨vs, r1, zand_of hD _ _ r1 r2, r3.mono (fun _ _ e _ => e) (zand_of hD)⟩⟩
/-- the list that is made takes an item -/
theorem RM.grown {Z0 : Addr → Prop} {M : Sto} {μ : List Addr} {H : Hp} {D : Addr} {o : HO} (m : RM g (Zand Z0 D) M μ H) : RM g (Zand Z0 D) M μ (upd H D o) := by
  have hn : ∀ a, ¬ Zof (Zand Z0 D) M μ a → a ≠ D := fun a n q => n (.inr (.inr q))
  have k : ∀ a u, H a = some u → ¬ Zof (Zand Z0 D) M μ a → upd H D o a = some u := fun a u e n => by rw [upd_ne (hn a n)]; exact e
  refine ⟨m.len, m.inj, fun i d a e1 e2 => ?_, fun i d a e1 e2 => ?_, fun a z => ?_⟩
  · obtain ⟨z, u, h1, h2⟩ := m.live i d a e1 e2
    exact ⟨z, u, by rw [upd_ne fun q => z (.inr q)]; exact h1, h2.mono k fun _ _ _ n => n⟩
  · obtain ⟨n, u, h1, h2⟩ := m.dead i d a e1 e2
    exact ⟨n, u, k a u h1 n, h2.mono k fun _ _ _ n => n⟩
  · by_cases q : a = D
    · subst q; rw [upd_same]; exact fun q => nomatch q
    · rw [upd_ne q]; exact m.z0 a z
theorem Stp.grown {M M1 : Sto} {μ μ1 : List Addr} {H H1 : Hp} {D : Addr} {o : HO} (hD : H D = none) (s : Stp M μ H M1 μ1 H1) : Stp M μ H M1 μ1 (upd H1 D o) :=
  ⟨s.pre, s.len, fun a u e n => by rw [upd_ne (ne_of_none e hD)]; exact s.keep a u e n, fun a e => by
    by_cases q : a = D
    · subst q; exact absurd hD e
    · rw [upd_ne q]; exact s.dom a e, s.new, s.dead⟩
/-- what does not change is kept, but what Z0 holds -/
structure Sz (Z0 : Addr → Prop) (M : Sto) (μ : List Addr) (H : Hp) (M' : Sto) (H' : Hp) : Prop where
  keep : ∀ a o, H a = some o → ¬ Zof Z0 M μ a → H' a = some o
  dom : ∀ a, H a ≠ none → H' a ≠ none
  new : ∀ a, Live M' μ a → Live M μ a ∨ H a = none
section
variable {Z0 : Addr → Prop} {M M1 M2 : Sto} {μ : List Addr} {H H1 H2 : Hp}
theorem Stp.sz (s : Stp M μ H M1 μ H1) : Sz Z0 M μ H M1 H1 := ⟨fun a o e n => s.keep a o e fun q => n (.inl q), s.dom, s.new⟩
theorem Sz.trans (a : Sz Z0 M μ H M1 H1) (b : Sz Z0 M1 μ H1 M2 H2) : Sz Z0 M μ H M2 H2 := by
  refine ⟨fun c o e n => b.keep c o (a.keep c o e n) fun z => ?_, fun c e => b.dom c (a.dom c e), fun c z => ?_⟩
  · rcases z with z | z
    · rcases a.new c z with q | q
      · exact n (.inl q)
      · rw [e] at q; cases q
    · exact n (.inr z)
  · rcases b.new c z with q | q
    · exact a.new c q
    · by_cases e : H c = none
      · exact .inr e
      · exact absurd q (a.dom c e)
theorem Sz.put {D : Addr} {o : HO} (h : Z0 D) : Sz Z0 M μ H M (upd H D o) :=
  ⟨fun a u e n => by
    have na : a ≠ D := fun q => by subst q; exact n (.inr h)
    rw [upd_ne na]; exact e, fun a e => by
    by_cases q : a = D
    · subst q; rw [upd_same]; exact fun z => nomatch z
    · rw [upd_ne q]; exact e, fun a z => .inl z⟩
theorem Sz.z (s : Sz Z0 M μ H M1 H1) : ∀ a o, H a = some o → ¬ Zof Z0 M μ a → ¬ Zof Z0 M1 μ a := fun a o e n z => by
  rcases z with z | z
  · rcases s.new a z with q | q
    · exact n (.inl q)
    · rw [e] at q; cases q
  · exact n (.inr z)
theorem Sz.slots {sl : Slots} {σ : L2.St} (s : Sz Z0 M μ H M1 H1) (h : RSl g pn Z0 M μ H sl σ) : RSl g pn Z0 M1 μ H1 sl σ :=
  ⟨h.len, fun i x e => by
    obtain ⟨v, h1, h2⟩ := h.at_ i x e
    refine ⟨v, h1, ?_⟩
    cases h2 with
    | p r => exact .p (r.mono s.keep s.z)
    | own r => exact .own r
    | exc g1 g2 g3 r =>
      obtain ⟨vs, r1, r2, r3⟩ := r
      exact .exc g1 g2 g3 ⟨vs, s.keep _ _ r1 r2, s.z _ _ r1 r2, r3.mono s.keep s.z⟩⟩
end
/-- between two turns: acc stands at D, rest is to come -/
structure Mid (g : Gx) (Z0 : Addr → Prop) (M1 : Sto) (μ : List Addr) (H1 : Hp) (Dd : Addr) (M : Sto) (H : Hp) (acc : List D) (vs : List V) : Prop where
  rm : RM g (Zand Z0 Dd) M μ H
  st : Stp M1 μ H1 M μ H
  at_ : H Dd = some (.lst vs)
  rd : RDs g H (Zof (Zand Z0 Dd) M μ) acc vs
section
variable {Z0 : Addr → Prop} {M1 M M' : Sto} {μ : List Addr} {H1 H H' : Hp} {Dd : Addr} {acc : List D} {vs : List V}
theorem Mid.start (m1 : RM g Z0 M1 μ H1) (hD : H1 Dd = none) : Mid g Z0 M1 μ H1 Dd M1 (upd H1 Dd (.lst [])) [] [] :=
  ⟨m1.fresh hD, Stp.grown hD .refl, upd_same, .nil⟩
theorem Mid.step (h : Mid g Z0 M1 μ H1 Dd M H acc vs) (m : RM g (Zand Z0 Dd) M' μ H') (s : Stp M μ H M' μ H') : Mid g Z0 M1 μ H1 Dd M' H' acc vs := by
  refine ⟨m, h.st.trans s, s.keep _ _ h.at_ fun ⟨k, d, e1, e2⟩ => ?_, s.rds h.rd⟩
  exact (h.rm.live k d Dd e1 e2).1 (.inr rfl)
theorem Mid.put (hD : H1 Dd = none) (h : Mid g Z0 M1 μ H1 Dd M H acc vs) {d : D} {v : V} (r : RD g H (Zof (Zand Z0 Dd) M μ) d v) : Mid g Z0 M1 μ H1 Dd M (upd H Dd (.lst (vs ++ [v]))) (acc ++ [d]) (vs ++ [v]) := by
  have k : ∀ a u, H a = some u → ¬ Zof (Zand Z0 Dd) M μ a → upd H Dd (.lst (vs ++ [v])) a = some u := fun a u e n => by rw [upd_ne fun q => n (.inr (.inr q))]; exact e
  exact ⟨h.rm.grown, h.st.grown hD, upd_same, (h.rd.mono k fun _ _ _ n => n).append (.cons (r.mono k fun _ _ _ n => n) .nil)⟩
theorem Mid.done (m1 : RM g Z0 M1 μ H1) (hD : H1 Dd = none) (h : Mid g Z0 M1 μ H1 Dd M H acc vs) : RM g Z0 M μ H ∧ RD g H (Zof Z0 M μ) (.lst acc) (.ref Dd) ∧ RM g (Zand Z0 Dd) M μ H := by
  have w : ∀ a, Zof Z0 M μ a → Zof (Zand Z0 Dd) M μ a := fun a z => z.elim .inl fun z => .inr (.inl z)
  have nd : ¬ Zof Z0 M μ Dd := fun z => by
    rcases z with ⟨k, d, e1, e2⟩ | z
    · exact (h.rm.live k d Dd e1 e2).1 (.inr rfl)
    · exact m1.z0 _ z hD
  exact ⟨h.rm.weak fun a z => .inl z, .lst h.at_ nd (h.rd.mono (fun _ _ e _ => e) fun a _ _ n z => n (w a z)), h.rm⟩
theorem Mid.slots {sl : Slots} {σ : L2.St} (hD : H1 Dd = none) (h : Mid g Z0 M1 μ H1 Dd M H acc vs) (hs : RSl g pn Z0 M1 μ H1 sl σ) : RSl g pn (Zand Z0 Dd) M μ H sl σ := by
  refine ⟨hs.len, fun i x e => ?_⟩
  obtain ⟨v, h1, h2⟩ := (RSl.zand hD hs).at_ i x e
  exact ⟨v, h1, h.st.rn h2⟩
theorem Mid.walk {xs : List D} (m1 : RM g Z0 M1 μ H1) (hD : H1 Dd = none) (h : Mid g Z0 M1 μ H1 Dd M H acc vs) {G : Hp → Prop} {Y : Nat → Hp → V → Hp → Prop}
    (w : ∀ Z1 M2 μ1 H2, RM g Z1 M2 μ1 H2 → (∀ a o, H1 a = some o → ¬ Zof Z0 M1 μ a → H2 a = some o) → (∀ a, Zof Z1 M2 μ1 a → Zof Z0 M1 μ a ∨ H1 a = none) → G H2 ∧ ∀ i v H3, Y i H2 v H3 → ∃ d, xs[i]? = some d ∧ Grow H2 H3 ∧ RD g H3 (Zof Z1 M2 μ1) d v) :
    G H ∧ ∀ i v H3, Y i H v H3 → ∃ d, xs[i]? = some d ∧ Grow H H3 ∧ RD g H3 (Zof (Zand Z0 Dd) M μ) d v := by
  refine w _ M μ H h.rm (fun a o e n => h.st.keep a o e fun q => n (.inl q)) fun a z => ?_
  rcases z with z | z | z
  · rcases h.st.new a z with q | q
    · exact .inl (.inl q)
    · exact .inr q
  · exact .inl (.inr z)
  · subst z; exact .inr hD
theorem Mid.grow (h : Mid g Z0 M1 μ H1 Dd M H acc vs) (gr : Grow H H') : Mid g Z0 M1 μ H1 Dd M H' acc vs := h.step (gr.rm h.rm) (gr.stp h.rm)
end
theorem bindG_slots {t : G} {x : D} {sl sl' : Slots} (h : bindG t x sl = some sl') : True := trivial
/-- one turn's item, as the evaluator has it -/
def compF (t : G) (own : List Nat) (evt : Slots → Sto → Res Bool) (eve : Slots → Sto → Res RV) (sl : Slots) : D → Sto → Res (Option D) := fun x M => match bindG t x (DI.wipe sl own) with
  | some sl1 => (evt sl1 M).bind fun k M => if k = true then (eve sl1 M).bind fun a M => match a.frz M with
      | some (d, M) => .ok (some d) M
      | none => .bad
    else .ok none M
  | none => .bad
theorem bind_ok {α β : Type} {r : Res α} {f : α → Sto → Res β} {b : β} {M : Sto} (h : r.bind f = .ok b M) : ∃ a M1, r = .ok a M1 ∧ f a M1 = .ok b M := by
  cases r with
  | ok a M1 => exact ⟨a, M1, rfl, h⟩
  | exc _ _ => cases h
  | bad => cases h
abbrev noW : WX := fun _ _ _ _ => False
variable {tg iter elt : Expr} {ifs : List Expr} {scope : Scope} {own : List (Str × Nat)} {t : G} {evi : Slots → Sto → Res (List D)} {evt : Slots → Sto → Res Bool} {eve : Slots → Sto → Res RV}
theorem Pst.of_ok {α : Type} {σ : L2.St} {Z0 : Addr → Prop} {M M' : Sto} {μ : List Addr} {H : Hp} {r : Res α} {a : α} {k : α → Sto → Hp → Prop} (e : r = .ok a M') (h : ∀ H', RM g Z0 M' μ H' → Stp M μ H M' μ H' → k a M' H') : Pst g W σ Z0 M μ H r k := by
  rw [e]; exact h
/-- what is asked of an item's turn: the item is put at Dd, or nothing is -/
theorem item_ok {Z0 : Addr → Prop} {M1 M Me : Sto} {μ : List Addr} {H1 H : Hp} {Dd : Addr} {acc : List D} {vs : List V} {sl : Slots} {σ σ0 : L2.St} {x : D} {v : V} {o : Option D} {ws : List Nat} {tt : TT} {te : TE} {Nx : Hp → Prop}
    (htt : tt = tB g pn noW evt) (hte : te = tR g pn noW eve) (hD : H1 Dd = none) (h : Mid g Z0 M1 μ H1 Dd M H acc vs) (hs : RSl g pn (Zand Z0 Dd) M μ H (DI.wipe sl ws) σ0) (rx : RD g H (Zof (Zand Z0 Dd) M μ) x v)
    (hsub : t.slots ⊆ ws) (e : compF t ws evt eve sl x M = .ok o Me) (hsz : ∀ d, o = some d → acc.length < sizeLine)
    (hN : ∀ H', Sz (Zand Z0 Dd) M μ H Me H' → (∀ d, o = some d → ∃ w, Mid g Z0 M1 μ H1 Dd Me H' (acc ++ [d]) (vs ++ [w])) → (o = none → Mid g Z0 M1 μ H1 Dd Me H' acc vs) → Nx H') (hw : L2.wipe σ0 ws = L2.wipe σ ws) :
    tG g pn t v σ0 H fun σ2 H2 => L2.wipe σ2 ws = L2.wipe σ ws ∧ tt σ2 H2 fun b H3 => if b = true then te σ2 H3 fun y H4 => ∃ acc, H4 Dd = some (.lst acc) ∧ acc.length < sizeLine ∧ Nx (upd H4 Dd (.lst (acc ++ [y]))) else Nx H3 := by
  subst htt hte
  unfold compF at e
  cases eb : bindG t x (DI.wipe sl ws) with
  | none => simp only [eb] at e; cases e
  | some sl1 =>
    simp only [eb] at e
    refine ⟨_, M, μ, _, x, sl1, hs, h.rm, rx, eb, fun σ2 hl hw2 hs2 => ⟨(hw2 ws hsub).trans hw, ?_⟩⟩
    obtain ⟨k, M2, e1, e2⟩ := bind_ok e
    refine ⟨sl1, M, μ, _, hs2, h.rm, .of_ok e1 fun H3 m3 s3 => ?_⟩
    have h3 := h.step m3 s3
    cases k with
    | false =>
      rw [if_neg Bool.false_ne_true] at e2
      show if false = true then _ else _
      rw [if_neg Bool.false_ne_true]
      cases e2
      exact hN H3 s3.sz (fun d q => nomatch q) fun _ => h3
    | true =>
      rw [if_pos rfl] at e2
      show if true = true then _ else _
      rw [if_pos rfl]
      obtain ⟨a, M3, e3, e4⟩ := bind_ok e2
      refine ⟨sl1, M2, μ, _, s3.slots hs2, m3, .of_ok e3 fun H4 m4 s4 y ry _ => ?_⟩
      cases ef : a.frz M3 with
      | none => simp only [ef] at e4; cases e4
      | some q =>
        obtain ⟨d, M4⟩ := q
        simp only [ef] at e4
        cases e4
        obtain ⟨m5, s5, rd⟩ := ry.frz m4 ef
        have h5 := (h3.step m4 s4).step m5 s5
        refine ⟨vs, h5.at_, by rw [← h5.rd.length]; exact hsz d rfl, hN _ (((s3.trans s4).trans s5).sz.trans (.put (.inr rfl))) (fun d' q => ?_) fun q => nomatch q⟩
        cases q
        exact ⟨y, h5.put hD rd⟩
theorem compGo_len {f : D → Sto → Res (Option D)} : ∀ {xs : List D} {M M' : Sto} {ds : List D}, compGo f xs M = .ok ds M' → ds.length ≤ xs.length
  | [], _, _, _, h => by cases h; exact Nat.le_refl _
  | x :: xs, M, M', ds, h => by
    obtain ⟨o, M1, _, h2⟩ := bind_ok h
    obtain ⟨r, M2, h3, h4⟩ := bind_ok h2
    cases h4
    have := compGo_len h3
    cases o with
    | none => exact Nat.le_trans this (Nat.le_succ _)
    | some d => exact Nat.succ_le_succ this
theorem drop_get {α : Type} {xs : List α} {i : Nat} {x : α} (h : xs[i]? = some x) : xs.drop i = x :: xs.drop (i + 1) := by
  obtain ⟨hl, e⟩ := List.getElem?_eq_some_iff.mp h
  rw [← e]
  exact List.drop_eq_getElem_cons hl
/-- [elt for tg in iter if ..] -/
theorem lc_read {wi : TI} {tt : TT} {te : TE} (hwi : wi = tI g pn W evi) (htt : tt = tB g pn noW evt) (hte : te = tR g pn noW eve) (hsub : t.slots ⊆ own.map (·.2)) (σ : L2.St) (H : Hp) (Q : VK)
    (h : tR g pn W (fun sl M => (evi sl M).bind fun xs M1 => (noexc (compGo (compF t (own.map (·.2)) evt eve sl) xs M1)).bind fun ds M2 => ofO (lstOf ds) M2) σ H Q) : tLc wi (tG g pn t) tt te (own.map (·.2)) σ H Q := by
  subst hwi
  obtain ⟨sl, M, μ, Z0, hs, hm, h⟩ := h
  refine ⟨sl, M, μ, Z0, hs, hm, ?_⟩
  have h := h.bind
  cases ei : evi sl M with
  | bad => rw [ei] at h; exact h
  | exc x M1 => rw [ei] at h; exact h
  | ok xs M1 =>
    rw [ei] at h
    intro H1 m1 s1 J hJ Dd hD
    have h : Pst g W σ Z0 M1 μ H1 ((noexc (compGo (compF t (own.map (·.2)) evt eve sl) xs M1)).bind fun ds M2 => ofO (lstOf ds) M2) (fun a M' H' => ∀ v, RR g Z0 M' μ H' a v → Fr g Z0 M' μ H H' a v → Q v H') := h H1 m1 s1
    cases ec : compGo (compF t (own.map (·.2)) evt eve sl) xs M1 with
    | bad => rw [ec] at h; exact h.elim
    | exc x M2 => rw [ec] at h; exact h.elim
    | ok ds M2 =>
      rw [ec] at h
      have h : Pst g W σ Z0 M1 μ H1 (ofO (lstOf ds) M2) fun a M' H' => ∀ v, RR g Z0 M' μ H' a v → Fr g Z0 M' μ H H' a v → Q v H' := h
      unfold lstOf at h
      split at h
      · rename_i hsz
        obtain ⟨G, Y, w, hw⟩ := hJ
        refine lc_it w (fun i H' => ∃ Mi acc vs dsi, Mid g Z0 M1 μ H1 Dd Mi H' acc vs ∧ compGo (compF t (own.map (·.2)) evt eve sl) (xs.drop i) Mi = .ok dsi M2 ∧ ds = acc ++ dsi) ⟨M1, [], [], ds, .start m1 hD, ec, rfl⟩ (fun i H' _ ⟨Mi, acc, vs, dsi, mid, _, _⟩ => (mid.walk m1 hD hw).1) (fun i v H2 H3 hi ⟨Mi, acc, vs, dsi, mid, e, ed⟩ y => ?_) fun H' ⟨Mi, acc, vs, dsi, mid, e, ed⟩ => ?_
        · obtain ⟨x, ex, gr, rx⟩ := (mid.walk m1 hD hw).2 i v H3 y
          rw [drop_get ex] at e
          obtain ⟨o, Me, e1, e2⟩ := bind_ok e
          obtain ⟨r, M3, e3, e4⟩ := bind_ok e2
          cases e4
          have mid3 := mid.grow gr
          refine item_ok htt hte hD mid3 (mid3.slots hD ((s1.slots hs).wipes _)) rx hsub e1 (fun d q => ?_) (fun H' _ k1 k2 => ?_) wipe_idem
          · subst q; rw [ed, List.length_append, List.length_cons] at hsz; rw [← sz_eq]; omega
          · cases o with
            | none => exact ⟨Me, acc, vs, r, k2 rfl, e3, ed⟩
            | some d => obtain ⟨u, k⟩ := k1 d rfl; exact ⟨Me, acc ++ [d], vs ++ [u], r, k, e3, by rw [ed]; simp⟩
        · rw [List.drop_length] at e
          cases e
          obtain ⟨q1, q2, q3⟩ := mid.done m1 hD
          rw [List.append_nil] at ed
          subst ed
          refine h H' q1 mid.st (.ref Dd) (.p q2) fun d e b eb => ?_
          cases eb
          cases e
          refine ⟨?_, q3, fun _ => ⟨_, mid.at_, .lst mid.rd⟩⟩
          cases z : H Dd with
          | none => rfl
          | some u => exact absurd hD (s1.dom Dd (by rw [z]; exact fun q => nomatch q))
      · exact h.elim
/-- two clauses -/
def compF2 (t : G) (own : List Nat) (evt : Slots → Sto → Res Bool) (evj : Slots → Sto → Res (List D)) (t1 : G) (evt1 : Slots → Sto → Res Bool) (eve : Slots → Sto → Res RV) (sl : Slots) : D → Sto → Res (List D) := fun x M => match bindG t x (DI.wipe sl own) with
  | some sl1 => (evt sl1 M).bind fun k M => if k = true then (evj sl1 M).bind fun ys M => compGo (compF t1 t1.slots evt1 eve sl1) ys M else .ok [] M
  | none => .bad
theorem item2_ok {Z0 : Addr → Prop} {M1 M Me : Sto} {μ : List Addr} {H1 H : Hp} {Dd : Addr} {acc : List D} {vs : List V} {sl : Slots} {σ σ0 : L2.St} {x : D} {v : V} {ds : List D} {ws vs1 : List Nat} {tt tt1 : TT} {te : TE} {wi1 : TI} {Nx : Hp → Prop} {t1 : G} {evt1 : Slots → Sto → Res Bool} {evj : Slots → Sto → Res (List D)}
    (htt : tt = tB g pn noW evt) (hwi : wi1 = tI g pn noW evj) (htt1 : tt1 = tB g pn noW evt1) (hte : te = tR g pn noW eve) (m1 : RM g Z0 M1 μ H1) (hD : H1 Dd = none) (h : Mid g Z0 M1 μ H1 Dd M H acc vs) (hs : RSl g pn (Zand Z0 Dd) M μ H (DI.wipe sl ws) σ0) (rx : RD g H (Zof (Zand Z0 Dd) M μ) x v)
    (hsub : t.slots ⊆ ws) (hv1 : t1.slots = vs1) (e : compF2 t ws evt evj t1 evt1 eve sl x M = .ok ds Me) (hsz : acc.length + ds.length ≤ SZ)
    (hN : ∀ H' vs', Mid g Z0 M1 μ H1 Dd Me H' (acc ++ ds) vs' → Nx H') (hw : L2.wipe σ0 ws = L2.wipe σ ws) :
    tG g pn t v σ0 H fun σ2 H2 => L2.wipe σ2 ws = L2.wipe σ ws ∧ tt σ2 H2 fun b H3 => if b = true then wi1 σ2 H3 fun J1 H4 => ∃ W1 : Nat → Nat → Hp → Prop, (∃ m, W1 0 m H4) ∧ ∀ j k H, W1 j k H →
      (J1.stop j H ∧ Nx H) ∨ (J1.go j H ∧ ∃ Nx1 : Hp → Prop, (∀ H', Nx1 H' → ∃ k', k' < k ∧ W1 (j + 1) k' H') ∧ ∀ x H', J1.yld j H x H' → tG g pn t1 x (L2.wipe σ2 vs1) H' fun σ3 H5 => L2.wipe σ3 vs1 = L2.wipe σ2 vs1 ∧ tt1 σ3 H5 fun b H6 =>
        if b = true then te σ3 H6 fun y H7 => ∃ acc, H7 Dd = some (.lst acc) ∧ acc.length < sizeLine ∧ Nx1 (upd H7 Dd (.lst (acc ++ [y]))) else Nx1 H6) else Nx H3 := by
  subst htt hwi
  subst hv1
  unfold compF2 at e
  cases eb : bindG t x (DI.wipe sl ws) with
  | none => simp only [eb] at e; cases e
  | some sl1 =>
    simp only [eb] at e
    refine ⟨_, M, μ, _, x, sl1, hs, h.rm, rx, eb, fun σ2 hl hw2 hs2 => ⟨(hw2 ws hsub).trans hw, ?_⟩⟩
    obtain ⟨k, M2, e1, e2⟩ := bind_ok e
    refine ⟨sl1, M, μ, _, hs2, h.rm, .of_ok e1 fun H3 m3 s3 => ?_⟩
    have h3 := h.step m3 s3
    cases k with
    | false =>
      rw [if_neg Bool.false_ne_true] at e2
      show if false = true then _ else _
      rw [if_neg Bool.false_ne_true]
      cases e2
      exact hN H3 vs (by rw [List.append_nil]; exact h3)
    | true =>
      rw [if_pos rfl] at e2
      show if true = true then _ else _
      rw [if_pos rfl]
      obtain ⟨ys, M3, e3, e4⟩ := bind_ok e2
      refine ⟨sl1, M2, μ, _, s3.slots hs2, m3, .of_ok e3 fun H4 m4 s4 J1 hJ => ?_⟩
      have h4 := h3.step m4 s4
      have hs4 := s4.slots (s3.slots hs2)
      obtain ⟨G, Y, w, hw1⟩ := hJ
      refine ?_
      have key : ∃ W1 : Nat → Nat → Hp → Prop, (∃ m, W1 0 m H4) ∧ ∀ j k H, W1 j k H →
          (J1.stop j H ∧ Nx H) ∨ (J1.go j H ∧ ∃ Nx1 : Hp → Prop, (∀ H', Nx1 H' → ∃ k', k' < k ∧ W1 (j + 1) k' H') ∧ ∀ x H', J1.yld j H x H' → tG g pn t1 x (L2.wipe σ2 t1.slots) H' fun σ3 H5 => L2.wipe σ3 t1.slots = L2.wipe σ2 t1.slots ∧ tt1 σ3 H5 fun b H6 =>
            if b = true then te σ3 H6 fun y H7 => ∃ acc, H7 Dd = some (.lst acc) ∧ acc.length < sizeLine ∧ Nx1 (upd H7 Dd (.lst (acc ++ [y]))) else Nx1 H6) := by
        let Pv : Nat → Hp → Prop := fun j H' => ∃ Mi acc' vs' dsi, Mid g Z0 M1 μ H1 Dd Mi H' acc' vs' ∧ Sz (Zand Z0 Dd) M3 μ H4 Mi H' ∧ compGo (compF t1 t1.slots evt1 eve sl1) (ys.drop j) Mi = .ok dsi Me ∧ acc ++ ds = acc' ++ dsi
        have hG : ∀ j H', Pv j H' → G H' ∧ ∀ i v H3, Y i H' v H3 → ∃ Mi acc' vs' dsi d, Mid g Z0 M1 μ H1 Dd Mi H' acc' vs' ∧ Sz (Zand Z0 Dd) M3 μ H4 Mi H' ∧ compGo (compF t1 t1.slots evt1 eve sl1) (ys.drop j) Mi = .ok dsi Me ∧ acc ++ ds = acc' ++ dsi ∧ ys[i]? = some d ∧ Grow H' H3 ∧ RD g H3 (Zof (Zand Z0 Dd) Mi μ) d v := by
          rintro j H' ⟨Mi, acc', vs', dsi, mid, sz, ec, ed⟩
          have q := hw1 (Zand Z0 Dd) Mi μ H' mid.rm sz.keep fun a z => by
            rcases z with z | z
            · rcases sz.new a z with q | q
              · exact .inl (.inl q)
              · exact .inr q
            · exact .inl (.inr z)
          refine ⟨q.1, fun i v H3 y => ?_⟩
          obtain ⟨d, q1, q2, q3⟩ := q.2 i v H3 y
          exact ⟨Mi, acc', vs', dsi, d, mid, sz, ec, ed, q1, q2, q3⟩
        refine ⟨fun j m H' => m = ys.length - j ∧ j ≤ ys.length ∧ Pv j H', ⟨ys.length, by simp, Nat.zero_le _, M3, acc, vs, ds, h4, Stp.refl.sz, e4, rfl⟩, ?_⟩
        rintro j m H' ⟨rfl, hj, p⟩
        by_cases hlt : j < ys.length
        · refine .inr ⟨w.goes j H' hlt (hG j H' p).1, Pv (j + 1), fun H5 p' => ⟨ys.length - (j + 1), by omega, rfl, hlt, p'⟩, fun x1 H5 yl => ?_⟩
          obtain ⟨Mi, acc', vs', dsi, d, mid, sz, ec, ed, ey, gr, rx1⟩ := (hG j H' p).2 j x1 H5 (w.yields j H' x1 H5 hlt (hG j H' p).1 yl)
          rw [drop_get ey] at ec
          obtain ⟨o, Mf, f1, f2⟩ := bind_ok ec
          obtain ⟨r, M5, f3, f4⟩ := bind_ok f2
          cases f4
          have mid5 := mid.grow gr
          have sz5 : Sz (Zand Z0 Dd) M3 μ H4 Mi H5 := sz.trans (gr.stp mid.rm).sz
          refine item_ok (ws := t1.slots) htt1 hte hD mid5 ((sz5.slots hs4).wipes _) rx1 (fun _ h => h) f1 (fun d' q => ?_) (fun H6 s6 k1 k2 => ?_) wipe_idem
          · subst q
            have : (acc ++ ds).length = (acc' ++ (d' :: r)).length := by rw [ed]
            simp only [List.length_append, List.length_cons] at this
            rw [← sz_eq]; omega
          · cases o with
            | none => exact ⟨Mf, acc', vs', r, k2 rfl, sz5.trans s6, f3, ed⟩
            | some d' => obtain ⟨u, k⟩ := k1 d' rfl; exact ⟨Mf, acc' ++ [d'], vs' ++ [u], r, k, sz5.trans s6, f3, by rw [ed]; simp⟩
        · have e0 : j = ys.length := by omega
          subst e0
          obtain ⟨Mi, acc', vs', dsi, mid, sz, ec, ed⟩ := p
          refine .inl ⟨w.stops H' (hG _ H' ⟨Mi, acc', vs', dsi, mid, sz, ec, ed⟩).1, ?_⟩
          rw [List.drop_length] at ec
          cases ec
          rw [List.append_nil] at ed
          exact hN H' vs' (ed ▸ mid)
      exact key
/-- [elt for tg in iter if .. for tg1 in iter1 if ..] -/
theorem lc2_read {wi wi1 : TI} {tt tt1 : TT} {te : TE} {t1 : G} {vs1 : List Nat} {evt1 : Slots → Sto → Res Bool} {evj : Slots → Sto → Res (List D)} (hwi : wi = tI g pn W evi) (hwi1 : wi1 = tI g pn noW evj) (htt : tt = tB g pn noW evt) (htt1 : tt1 = tB g pn noW evt1) (hte : te = tR g pn noW eve)
    (hsub : t.slots ⊆ own.map (·.2)) (hv1 : t1.slots = vs1) (σ : L2.St) (H : Hp) (Q : VK)
    (h : tR g pn W (fun sl M => (evi sl M).bind fun xs M1 => (noexc (compGo2 (compF2 t (own.map (·.2)) evt evj t1 evt1 eve sl) xs M1)).bind fun ds M2 => ofO (lstOf ds) M2) σ H Q) : tLc2 wi (tG g pn t) tt wi1 (tG g pn t1) tt1 te (own.map (·.2)) vs1 σ H Q := by
  subst hwi
  obtain ⟨sl, M, μ, Z0, hs, hm, h⟩ := h
  refine ⟨sl, M, μ, Z0, hs, hm, ?_⟩
  have h := h.bind
  cases ei : evi sl M with
  | bad => rw [ei] at h; exact h
  | exc x M1 => rw [ei] at h; exact h
  | ok xs M1 =>
    rw [ei] at h
    intro H1 m1 s1 J hJ Dd hD
    have h : Pst g W σ Z0 M1 μ H1 ((noexc (compGo2 (compF2 t (own.map (·.2)) evt evj t1 evt1 eve sl) xs M1)).bind fun ds M2 => ofO (lstOf ds) M2) (fun a M' H' => ∀ v, RR g Z0 M' μ H' a v → Fr g Z0 M' μ H H' a v → Q v H') := h H1 m1 s1
    cases ec : compGo2 (compF2 t (own.map (·.2)) evt evj t1 evt1 eve sl) xs M1 with
    | bad => rw [ec] at h; exact h.elim
    | exc x M2 => rw [ec] at h; exact h.elim
    | ok ds M2 =>
      rw [ec] at h
      have h : Pst g W σ Z0 M1 μ H1 (ofO (lstOf ds) M2) fun a M' H' => ∀ v, RR g Z0 M' μ H' a v → Fr g Z0 M' μ H H' a v → Q v H' := h
      unfold lstOf at h
      split at h
      · rename_i hsz
        obtain ⟨G, Y, w, hw⟩ := hJ
        let Pv : Nat → Hp → Prop := fun i H' => ∃ Mi acc vs dsi, Mid g Z0 M1 μ H1 Dd Mi H' acc vs ∧ compGo2 (compF2 t (own.map (·.2)) evt evj t1 evt1 eve sl) (xs.drop i) Mi = .ok dsi M2 ∧ ds = acc ++ dsi
        have hG : ∀ i H', Pv i H' → G H' := fun i H' ⟨Mi, acc, vs, dsi, mid, _, _⟩ => (mid.walk m1 hD hw).1
        refine ⟨fun i m H' => m = xs.length - i ∧ i ≤ xs.length ∧ Pv i H', ⟨xs.length, by simp, Nat.zero_le _, M1, [], [], ds, .start m1 hD, ec, rfl⟩, ?_⟩
        rintro i m H' ⟨rfl, hi, p⟩
        by_cases hlt : i < xs.length
        · refine .inr ⟨w.goes i H' hlt (hG i H' p), Pv (i + 1), fun H5 p' => ⟨xs.length - (i + 1), by omega, rfl, hlt, p'⟩, fun v H3 yl => ?_⟩
          have y := w.yields i H' v H3 hlt (hG i H' p) yl
          obtain ⟨Mi, acc, vs, dsi, mid, e, ed⟩ := p
          obtain ⟨x, ex, gr, rx⟩ := (mid.walk m1 hD hw).2 i v H3 y
          rw [drop_get ex] at e
          obtain ⟨l, Me, e1, e2⟩ := bind_ok e
          obtain ⟨r, M3, e3, e4⟩ := bind_ok e2
          cases e4
          have mid3 := mid.grow gr
          refine item2_ok htt hwi1 htt1 hte m1 hD mid3 (mid3.slots hD ((s1.slots hs).wipes _)) rx hsub hv1 e1 ?_ (fun H5 vs' k => ⟨Me, acc ++ l, vs', r, k, e3, by rw [ed]; simp⟩) wipe_idem
          rw [ed, List.length_append, List.length_append] at hsz; omega
        · have e0 : i = xs.length := by omega
          subst e0
          have hg := hG _ H' p
          obtain ⟨Mi, acc, vs, dsi, mid, e, ed⟩ := p
          refine .inl ⟨w.stops H' hg, ?_⟩
          rw [List.drop_length] at e
          cases e
          obtain ⟨q1, q2, q3⟩ := mid.done m1 hD
          rw [List.append_nil] at ed
          subst ed
          refine h H' q1 mid.st (.ref Dd) (.p q2) fun d e b eb => ?_
          cases eb
          cases e
          refine ⟨?_, q3, fun _ => ⟨_, mid.at_, .lst mid.rd⟩⟩
          cases z : H Dd with
          | none => rfl
          | some u => exact absurd hD (s1.dom Dd (by rw [z]; exact fun q => nomatch q))
      · exact h.elim
end
end DI

/-! DI.F9: own ==, a method of a new instance -/
namespace DI
open PySem PySem.Spec PyProof.Rows L2
section
variable {g : Gx} {pn : List (Addr × Obj)} {W : WX} {X : Cx} {pos p apos : Pos} {a b o e : Expr} {es : List Expr} {eva evb evo : Slots → Sto → Res RV} {k : Nat} {x m : Str} {P : Prg} {fa : Nat → Addr} {cc : Orc}
theorem eqoD_of {d e : D} {f : Nat} (h : eqoD P d e = some f) : ∃ c fs gs i, d = .ins c fs ∧ e = .ins c gs ∧ P.cl c = some i ∧ i.meths.lookup ("__eq__" : Str) = some f := by
  unfold eqoD at h
  split at h
  · rename_i c fs c' gs
    split at h
    · rename_i hc
      subst hc
      split at h
      · rename_i i hi
        exact ⟨c, fs, gs, i, rfl, rfl, hi, h⟩
      · cases h
    · cases h
  · cases h
abbrev rEqo (g : Gx) (P : Prg) (cc : Orc) : R2 := fun x y H Q => ∃ a b dx dy fs gs c i f, x = .ref a ∧ y = .ref b ∧ H a = some (.ins (g.ca c) dx fs) ∧ H b = some (.ins (g.ca c) dy gs) ∧ P.cl c = some i ∧ i.meths.lookup ("__eq__" : Str) = some f ∧ spC g (callR P cc f) [.ref a, .ref b] H (fun v H' => (∃ t, v = .bl t) ∧ Q v H') fun _ _ _ => False
theorem op_eqo (hC : ∀ c i, P.cl c = some i → ClsF P g fa X.K c i) (hF : ∀ f, FnR X.prog X.w X.K X.mg X.base (L2.CX X.prog X.w) k (fa f) (spC g (callR P cc f))) (hr : Room k X.A) : OpR X (compareOp .Eq) (rEqo g P cc) := by
  intro pins s σ H x y v u Q I rx ry ⟨a, b, dx, dy, fs, gs, c, i, f, ex, ey, ha, hb, hi, hmf, hsp⟩
  subst ex
  subst ey
  cases rx
  cases ry
  have F := hC c i hi
  have hM := F.meths _ f hmf
  obtain ⟨mA, J, _⟩ := ins_get I.hok ha
  obtain ⟨mB, J', _⟩ := ins_get I.hok hb
  obtain ⟨od, J, _⟩ := J.look
  obtain ⟨od', J', _⟩ := J'.look
  obtain ⟨m, hFr⟩ := I.fr
  show wpAny (model X.prog X.w) X.A (richCompare .Eq (.ref a) (.ref b)) (EP X pins σ Q) X.xe s
  refine PySem.W.cmp_K (op := .Eq) (tb := .ref (g.ca c)) hr.units0 hFr I.ok.mod.kin J J'.type (by simp [PySem.W.notFirst]) hM.at_ hM.fn ?_
  refine wpAny_call (codeAny_mono (hF f X.A X.stack s H [.ref a, .ref b] [.ref a, .ref b] _ _ hr I.env0 (.cons rfl (.cons rfl .nil)) hsp) fun r s' hq => ?_)
  match r, hq with
  | .error e, hq => obtain ⟨_, _, _, _, _, _, _, _, _, _, _, _, z⟩ := hq; exact z.elim
  | .ok (.ret u), hq =>
    obtain ⟨v, H', I3, rv, ⟨t, et⟩, q3⟩ := I.after hq
    subst et
    cases rv
    exact ⟨.bl t, H', I3, rfl, q3⟩
  | .ok .next, hq => exact hq.elim
  | .ok .brk, hq => exact hq.elim
  | .ok .cont, hq => exact hq.elim
theorem e_eqo (hC : ∀ c i, P.cl c = some i → ClsF P g fa X.K c i) (hF : ∀ f, FnR X.prog X.w X.K X.mg X.base (L2.CX X.prog X.w) k (fa f) (spC g (callR P cc f))) (hr : Room k X.A) (hm : behindInMarks .Eq b = false) (ha : PE X a (tR g pn W eva)) (hb : PE X b (tR g pn W evb)) :
    PE X (.Compare a [.Eq] [b] pos) (tR g pn W fun sl M => (eva sl M).bind fun x M1 => (evb sl M1).bind fun y M2 => eqoR P cc x y M2) := by
  refine pe_imp (pe_cmpR (op_eqo hC hF hr) ha hb hm) fun σ H Q ⟨sl, M, μ, Z0, hs, hm, h⟩ => ?_
  refine tR.then hs hm h fun x M1 v H1 m1 s1 hs1 rx h1 => tR.then hs1 m1 h1 fun y M2 u H2 m2 s2 hs2 ry h2 => ?_
  have rx2 := s2.rr rx
  unfold eqoR at h2
  cases ex : x.get M2 with
  | none => simp only [ex] at h2; exact h2.elim
  | some d => cases ey : y.get M2 with
    | none => simp only [ex, ey] at h2; exact h2.elim
    | some d' => cases ef : eqoD P d d' with
      | none => simp only [ex, ey, ef] at h2; exact h2.elim
      | some f =>
        simp only [ex, ey, ef] at h2
        obtain ⟨c, fs, gs, i, rfl, rfl, hi, hmf⟩ := eqoD_of ef
        obtain ⟨a, dx, vs, rfl, ea, rf⟩ := (rx2.read m2 ex).ins
        obtain ⟨b, dy, ws, rfl, eb, rg⟩ := (ry.read m2 ey).ins
        refine ⟨a, b, dx, dy, vs, ws, c, i, f, rfl, rfl, ea, eb, hi, hmf, [x.dv, y.dv], M2, μ, Z0, .cons rx2.rn (.cons ry.rn .nil), m2, ?_⟩
        cases e : callR P cc f [x.dv, y.dv] M2 with
        | bad => rw [e] at h2; exact h2.elim
        | exc z M3 => rw [e] at h2; exact h2.elim
        | ok r M3 =>
          rw [e] at h2
          cases r with
          | own _ => exact h2.elim
          | p fr d => cases d with
            | bl t =>
              intro H' v m' s' rr _
              cases rr with | p rr => cases rr with | bl =>
              exact ⟨⟨t, rfl⟩, h2 H' m' s' _ (.p (.bl t)) (Fr.not rfl)⟩
            | _ => exact h2.elim
/-- isinstance of an own class, of a thing of that class -/
theorem e_isc {cl : Nat} {t : Str} {p2 : Pos} (hC : ∀ c i, P.cl c = some i → ClsF P g fa X.K c i) (hK : g.K = X.K) (hg : Gl X "isinstance") (hm : X.mg "isinstance" = none) (hn : noStar [a, .Name t p2] = true) (hgt : Gl X t) (hmt : X.mg t = some (.ref (g.ca cl))) (hd : (t == ("__debug__" : Str)) = false) (ha : PE X a (tR g pn W eva)) :
    PE X (.Call (.Name "isinstance" p) [a, .Name t p2] [] pos) (tR g pn W fun sl M => (eva sl M).bind fun x M1 => ofO ((iscD P cl (x.get M1)).map boolV) M1) := by
  refine pe_imp (pe_callB call_isi hg hm boot_isinstance (pa_cons ha (pa_cons (pe_glob (v := .ref (g.ca cl)) hgt hmt rfl hd) pa_nil) (star_plain hn _)) (by decide) (by decide) (star_plain hn _) (plain_any (noStar_tl hn))) fun σ H Q ⟨sl, M, μ, Z0, hs, hm, h⟩ => ?_
  refine tR.then hs hm h fun x M1 v H1 m1 s1 hs1 rx h1 => ?_
  cases ei : iscD P cl (x.get M1) with
  | none => simp only [ei, Option.map_none] at h1; exact h1.elim
  | some b =>
    simp only [ei, Option.map_some] at h1
    cases ex : x.get M1 with
    | none => rw [ex] at ei; cases ei
    | some d =>
      rw [ex] at ei
      cases d with
      | ins c fs =>
        unfold iscD at ei
        dsimp only at ei
        split at ei
        · rename_i ec
          subst ec
          split at ei
          · rename_i i hi
            split at ei
            · rename_i hk
              cases ei
              have F := hC _ i hi
              obtain ⟨k1, k2, k3, k4⟩ := F.isk hk
              obtain ⟨ad, dx, vs, rfl, ea, rf⟩ := (rx.read m1 ex).ins
              refine ⟨.ref ad, .ref (g.ca c), .ref (g.ca c), .ref (g.ca c), true, rfl, .own _, .base (.ins ea F.cls k1 k2 k3 k4), ?_, h1.ok m1 .refl _ .ofB (Fr.not rfl)⟩
              unfold PySem.W.kitOne
              rw [if_pos (by simp)]
            · cases ei
          · cases ei
        · cases ei
      | _ => cases ei
/-- a method of a new instance -/
theorem e_methn {pl : Sem Bool} (hC : ∀ c i, P.cl c = some i → ClsF P g fa X.K c i) (hF : ∀ f, FnR X.prog X.w X.K X.mg X.base (L2.CX X.prog X.w) k (fa f) (spC g (callR P cc f))) (hr : Room k X.A) (tk : Takes X W)
    (ho : PE X o (tR g pn W evo))
    (ht : eval (.Call (.Attribute o m apos) [] [] pos) X.env = (do let ov ← eval o X.env; standAt apos.atName; let (f, first) ← holding [ov] (getMethod ov m pl); callWith pos f first (backTo pos (starEach [] X.env)) (backToKw pos (keywordEach [] X.env)))) :
    PE X (.Call (.Attribute o m apos) [] [] pos) (tR g pn W fun sl M => (evo sl M).bind fun x M1 => methnR P cc m x M1) := by
  refine ⟨fun pins s σ H Q I ⟨sl, M, μ, Z0, hs, hm', h⟩ => ?_⟩
  have t : tR g pn W evo σ H fun v H1 => ∃ a f dx fs c i, v = .ref a ∧ H1 a = some (.ins (g.ca c) dx fs) ∧ P.cl c = some i ∧ fs.lookup m = none ∧ i.meths.lookup m = some f ∧ spC g (callR P cc f) [v] H1 Q fun cls d H => W cls d σ H := by
    refine ⟨sl, M, μ, Z0, hs, hm', ?_⟩
    have h : Pst g W σ Z0 M μ H ((evo sl M).bind fun x M1 => methnR P cc m x M1) fun a M' H' => ∀ v, RR g Z0 M' μ H' a v → Fr g Z0 M' μ H H' a v → Q v H' := h
    cases e : evo sl M with
    | bad => rw [e] at h; exact h
    | exc x M1 => rw [e] at h; exact h
    | ok x M1 =>
      rw [e] at h
      intro H1 m1 s1 v rx fx
      have h : Pst g W σ Z0 M μ H (methnR P cc m x M1) fun a M' H' => ∀ v, RR g Z0 M' μ H' a v → Fr g Z0 M' μ H H' a v → Q v H' := h
      unfold methnR at h
      cases x with
      | own _ => exact h.elim
      | p fr d => cases fr with
        | false => exact h.elim
        | true => cases d with
          | ins c fs =>
            dsimp only at h
            cases em : methD P m (.ins c fs) with
            | none => simp only [em] at h; exact h.elim
            | some f =>
              simp only [em] at h
              obtain ⟨c', fs', i, e0, e1, e2, e3⟩ := methD_of em
              cases e0
              cases rx with | p rx =>
              obtain ⟨a, dx, vs, rfl, ea, rf⟩ := (Rdb.d rx).ins
              have nz : ¬ Zof Z0 M1 μ a := by cases rx with | ins h z r => exact z
              obtain ⟨f1, f2, f3⟩ := fx _ rfl a rfl
              obtain ⟨oo, f4, f5⟩ := f3 (fun _ q => nomatch q)
              have m2 := m1.alloc f2 f4 nz f5
              have ln : M.length = M1.length := by rw [← hm'.len, ← m1.len]
              have s2 : Stp M μ H (M1 ++ [.live (.ins c fs)]) (μ ++ [a]) H1 := by
                refine ⟨⟨[a], rfl⟩, by rw [List.length_append]; have := s1.len; omega, s1.keep, s1.dom, fun b ⟨j, e, h3, h4⟩ => ?_, fun j e h => ?_⟩
                · by_cases hk : j < M1.length
                  · rw [List.getElem?_append_left hk] at h3
                    rw [List.getElem?_append_left (by rw [m1.len]; exact hk)] at h4
                    exact s1.new b ⟨j, e, h3, h4⟩
                  · rw [List.getElem?_append_right (by rw [m1.len]; omega)] at h4
                    have : a = b := by
                      cases q : j - μ.length with
                      | zero => rw [q] at h4; simpa using h4
                      | succ n => rw [q] at h4; simp at h4
                    subst this
                    exact .inr f1
                · rw [List.getElem?_append_left (List.getElem?_eq_some_iff.mp (s1.dead j e h)).1]; exact s1.dead j e h
              refine ⟨a, f, dx, vs, c, i, rfl, ea, e1, rf.look_none e2, e3, [.own M1.length], M1 ++ [.live (.ins c fs)], μ ++ [a], Z0, .cons (.own ?_) .nil, m2, ?_⟩
              · rw [← m1.len]; simp
              · cases e : callR P cc f [.own M1.length] (M1 ++ [.live (.ins c fs)]) with
                | bad => simp only [e] at h; exact h
                | exc z M2 =>
                  simp only [e] at h
                  intro dx' H' m3 s3 rx
                  obtain ⟨q1, q2, _⟩ := back_own hm' m3 (s2.trans s3)
                  obtain ⟨ws, r1, r2, r3⟩ := rx
                  have zz : ∀ b, Zof Z0 (M2.take M.length) μ b → Zof Z0 M2 (μ ++ [a]) b := fun b z => zof_take z
                  rw [← ln] at h
                  exact h dx' H' q1 q2 ⟨ws, r1, fun q => r2 (zz _ q), r3.mono (fun _ _ e _ => e) fun b _ _ q z => q (zz b z)⟩
                | ok r M2 =>
                  simp only [e] at h
                  intro H' v m3 s3 rr _
                  obtain ⟨q1, q2, q3⟩ := back_own hm' m3 (s2.trans s3)
                  cases r with
                  | own _ => exact h.elim
                  | p fr d =>
                    cases rr with | p rr =>
                    rw [← ln] at h
                    have zz : ∀ b, Zof Z0 (M2.take M.length) μ b → Zof Z0 M2 (μ ++ [a]) b := fun b z => zof_take z
                    exact h H' q1 q2 v (.p (rr.mono (fun _ _ e _ => e) fun b _ _ q z => q (zz b z))) (Fr.not rfl)
          | _ => exact h.elim
  refine PySem.W.methodCall_KW (pl := pl) (thn (ho.run pins s σ H _ I t) fun u s1 ⟨v, H1, I1, rv, a, f, dx, fs, c, i, ev, ea, hi, hl, hmf, q⟩ => ?_) ht
  subst ev
  obtain rfl : u = Value.ref a := rv
  have F := hC c i hi
  have hM := F.meths m f hmf
  refine getmeth_ok I1 ea F.cls hM hl ?_
  exact PySem.W.callWith_K0 (first := [.ref a]) I1.kIn hM.kp (run_fnC (us := [.ref a]) (vs := [.ref a]) (hF f) hr tk I1 (.cons rfl .nil) q)
end
end DI

/-! DI.G: the checker for expressions, and that it is right -/
namespace DI
open PySem PySem.Spec PyProof.Rows L2
def SCx.locC (s : SCx) (cel : List Str) (x : Str) : Bool := match s.sc.names.lookup x with
  | some .local => true
  | some .cell => cel.contains x
  | _ => false
def SCx.blk (s : SCx) (scope : Scope) : SCx := { s with sc := relS scope s.sc, cel := (scope.names.map (·.1)).filter fun x => scope.names.lookup x == some .cell }
def SCx.locs (s : SCx) (x : Str) : Bool := s.locC s.cel x
def litB : D → Const → Bool
  | .non, .none => true
  | .bl b, .bool c => b == c
  | .int i, .int j => decide (i = j)
  | .str x, .str y => decide (x = y)
  | _, _ => false
/-- what is no not, and, or, if-else, comparison: its test is its value's -/
def plainT : Expr → Bool
  | .UnaryOp .Not _ _ => false
  | .BoolOp _ _ _ => false
  | .IfExp _ _ _ _ => false
  | .Compare _ _ _ _ => false
  | _ => true
theorem plainT_eq {e : Expr} (h : plainT e = true) (env : Env) (w : Sem Value) : isTrue e env w = (do let v ← w; standAt e.pos; holding [v] (truthy v)) := by
  cases e with
  | UnaryOp o _ _ => cases o <;> first | rfl | cases h
  | BoolOp _ _ _ => cases h
  | IfExp _ _ _ _ => cases h
  | Compare _ _ _ _ => cases h
  | _ => rfl
def notSet : Expr → Bool
  | .Set _ _ _ => false
  | _ => true
theorem notSet_eq {e : Expr} (h : notSet e = true) (env : Env) (x : Value) : foldedSetIterable e env x = pure x := by
  cases e <;> first | rfl | cases h
def E.isCmp : E → Bool
  | .cmp _ _ _ => true
  | .chn _ _ _ _ _ => true
  | _ => false
def T.isYes : T → Bool
  | .yes => true
  | _ => false
section
variable (tb : Tab)
def chkG (s : SCx) (t : G) (ex : Expr) : Bool := match t with
  | .name i => (match asName ex with | some (x, _) => decide (s.N[i]? = some x) && s.locs x | none => false)
  | .tup is => (match asTup ex with | some (es, _, _) => s.calm && namesAre s.N s.locs is es | none => false)
mutual
def chkE : E → SCx → Expr → Bool
  | .nev, _, _ => true
  | .var i, s, ex => (match asName ex with | some (x, _) => decide (s.N[i]? = some x) && s.vis x | none => false)
  | .lit d, s, ex => (match asConst ex with | some (c, _, _) => litB d c | none => false)
  | .bin op a b, s, ex => (match asBin ex with | some (x, o, y, _) => decide (o = op) && chkE a s x && chkE b s y | none => false)
  | .un op a, s, ex => (match asUn ex with | some (o, x, _) => decide (o = op) && chkE a s x | none => false)
  | .notv a, s, ex => (match asUn ex with | some (o, x, _) => decide (o = .Not) && chkE a s x | none => false)
  | .andv a b, s, ex => (match asBool ex with | some (.And, x :: y :: r, p) => chkE a s x && (match r with | [] => chkE b s y | _ => chkE b s (.BoolOp .And (y :: r) p)) | _ => false)
  | .orv a b, s, ex => (match asBool ex with | some (.Or, x :: y :: r, p) => chkE a s x && (match r with | [] => chkE b s y | _ => chkE b s (.BoolOp .Or (y :: r) p)) | _ => false)
  | .cmp op a b, s, ex => (match asCmp ex with | some (x, [o], [y], _) => decide (o = op) && !behindInMarks o y && chkE a s x && chkE b s y | _ => false)
  | .chn op op' a b c, s, ex => (match asCmp ex with | some (x, [o, o'], [y, z], _) => decide (o = op) && decide (o' = op') && !lastMarks [o, o'] [y, z] && chkE a s x && chkE b s y && chkE c s z | _ => false)
  | .ife t a b, s, ex => (match asIf ex with | some (c, x, y, _) => chkT t s c && chkE a s x && chkE b s y | none => false)
  | .tup es, s, ex => (match asTup ex with | some (xs, _, _) => chkEs es s xs | none => false)
  | .lst es, s, ex => (match asLst ex with | some (xs, _) => chkEs es s xs | none => false)
  | .bi f es, s, ex => (match asCall ex with | some (fn, x :: xs, [], _) => (match asName fn with | some (n, _) => decide (n = f) && s.calm && s.glo n && tb.free.contains n && noStar (x :: xs) && (biTy n).isSome && chkEs es s (x :: xs) | none => false) | _ => false)
  | .isi e ts many, s, ex => (match asCall ex with
    | some (fn, [x, y], [], _) => (match asName fn with
      | some (n, _) => decide (n = "isinstance") && s.glo n && tb.free.contains n && noStar [x, y] && chkE e s x && (match many with
        | false => (match ts, asName y with | [t], some (z, _) => decide (z = t) && fiveB t && s.glo t && tb.free.contains t | _, _ => false)
        | true => (match asTup y with | some (ns, _, _) => tyNames ts ns && !ts.isEmpty && decide (ts.length ≤ 100) && ts.all (fun t => s.glo t && tb.free.contains t) | none => false))
      | none => false)
    | _ => false)
  | .call f es, s, ex => (match asCall ex with | some (fn, xs, [], _) => (match asName fn with | some (n, _) => s.calm && s.glo n && decide (tb.fnm.lookup n = some f) && noStar xs && chkEs es s xs | none => false) | _ => false)
  | .make c es, s, ex => (match asCall ex with | some (fn, xs, [], _) => (match asName fn with | some (n, _) => s.calm && s.glo n && decide (tb.clm.lookup n = some c) && (tb.P.cl c).isSome && noStar xs && chkEs es s xs | none => false) | _ => false)
  | .makev c j es, s, ex => (match asCall ex with | some (fn, x :: xs, [], _) => (match asName fn with | some (n, _) => s.calm && decide (s.N[j]? = some n) && s.vis n && (tb.P.cl c).isSome && noStar (x :: xs) && chkEs es s (x :: xs) | none => false) | _ => false)
  | .meth m o es, s, ex => (match asCall ex with | some (fn, xs, [], pos) => (match asAttr fn with | some (ox, n, ap) => s.calm && decide (n = m) && noStar xs && noSup ox && chkE o s ox && chkEs es s xs && (ap.endLine == pos.line) && decide (xs.length < 30) | none => false) | _ => false)
  | .cmeth c m es, s, ex => (match asCall ex with
    | some (fn, xs, [], pos) => (match asAttr fn with
      | some (ox, n, ap) => (match asName ox with
        | some (x, _) => s.calm && decide (n = m) && s.glo x && decide (tb.clm.lookup x = some c) && noStar xs && !xs.isEmpty && chkEs es s xs && (ap.endLine == pos.line) && decide (xs.length < 30)
        | none => false)
      | none => false)
    | _ => false)
  | .mt m o es, s, ex => (match asCall ex with
    | some (fn, xs, [], pos) => (match asAttr fn with
      | some (ox, n, ap) => decide (n = m) && noStar xs && noSup ox && (ap.endLine == pos.line) && chkE o s ox && chkEs es s xs && (match xs with
        | [] => decide (m = "pop") || decide (m = "reverse") || decide (m = "bit_length")
        | [_] => decide (m = "append") || decide (m = "index")
        | _ => false)
      | none => false)
    | _ => false)
  | .fld o f, s, ex => (match asAttr ex with | some (ox, n, _) => decide (n = f) && noSup ox && chkE o s ox | none => false)
  | .efld i f, s, ex => (match asAttr ex with | some (ox, n, _) => (match asName ox with | some (x, _) => decide (n = f) && decide (s.N[i]? = some x) && s.vis x | none => false) | none => false)
  | .prop o f, s, ex => (match asAttr ex with | some (ox, n, _) => s.calm && decide (n = f) && noSup ox && chkE o s ox | none => false)
  | .eqo a b, s, ex => (match asCmp ex with | some (x, [.Eq], [y], _) => s.calm && !behindInMarks .Eq y && chkE a s x && chkE b s y | _ => false)
  | .methn m o, s, ex => (match asCall ex with | some (fn, [], [], pos) => (match asAttr fn with | some (ox, n, ap) => s.calm && decide (n = m) && noSup ox && chkE o s ox && (ap.endLine == pos.line) | none => false) | _ => false)
  | .isc e c, s, ex => (match asCall ex with
    | some (fn, [x, y], [], _) => (match asName fn with
      | some (n, _) => decide (n = "isinstance") && s.glo n && tb.free.contains n && noStar [x, y] && chkE e s x && (match asName y with | some (z, _) => s.glo z && decide (tb.clm.lookup z = some c) | none => false)
      | none => false)
    | _ => false)
  | .idx a b, s, ex => (match asSub ex with | some (x, y, _) => noSl y && chkE a s x && chkE b s y | none => false)
  | .slc a lo hi, s, ex => (match asSub ex with | some (x, y, _) => (match asSlice y with | some (l, h, none, _) => chkE a s x && chkO lo s l && chkO hi s h | _ => false) | none => false)
  | .lc own t it tt e, s, ex => (match asLc ex with
    | some (elt, [⟨tg, iter, ifs, 0⟩], scope, _) => s.calm && blkC s.N s.sc scope own && chkG (s.blk scope) t tg && t.slots.all (fun i => (own.map (·.2)).contains i) && notSet iter && chkI it s tg iter && (match ifs with | [] => tt.isYes | [x] => chkT tt (s.blk scope) x | _ => false) && chkE e (s.blk scope) elt
    | _ => false)
  | .lc2 own t it tt t1 it1 tt1 e, s, ex => (match asLc ex with
    | some (elt, [⟨tg, iter, ifs, 0⟩, ⟨tg1, iter1, ifs1, 0⟩], scope, _) => s.calm && blkC s.N s.sc scope own && chkG (s.blk scope) t tg && t.slots.all (fun i => (own.map (·.2)).contains i) && t1.slots.all (fun i => (own.map (·.2)).contains i) && notSet iter && notSet iter1 && chkI it s tg iter && (match ifs with | [] => tt.isYes | [x] => chkT tt (s.blk scope) x | _ => false)
        && chkG (s.blk scope) t1 tg1 && chkI it1 (s.blk scope) tg1 iter1 && (match ifs1 with | [] => tt1.isYes | [x] => chkT tt1 (s.blk scope) x | _ => false) && chkE e (s.blk scope) elt
    | _ => false)
def chkO : O → SCx → Option Expr → Bool
  | .no, _, none => true
  | .some e, s, some x => chkE e s x
  | _, _, _ => false
def chkEs : Es → SCx → List Expr → Bool
  | .nil, _, [] => true
  | .cons e es, s, x :: xs => (match asStar x with | some _ => false | none => true) && chkE e s x && chkEs es s xs
  | .star e es, s, x :: xs => (match asStar x with | some (y, _) => chkE e s y | none => false) && chkEs es s xs
  | _, _, _ => false
/-- a test -/
def chkT : T → SCx → Expr → Bool
  | .yes, _, _ => false
  | .val e, s, ex => (match e.isCmp with
    | true => chkE e s ex
    | false => plainT ex && chkE e s ex)
  | .tru e, s, ex => plainT ex && chkE e s ex
  | .nott t, s, ex => (match asUn ex with | some (o, x, _) => decide (o = .Not) && chkT t s x | none => false)
  | .and a b, s, ex => (match asBool ex with | some (.And, x :: y :: r, p) => chkT a s x && (match r with | [] => chkT b s y | z :: r => chkT b s (.BoolOp .And (y :: z :: r) p)) | _ => false)
  | .or a b, s, ex => (match asBool ex with | some (.Or, x :: y :: r, p) => chkT a s x && (match r with | [] => chkT b s y | z :: r => chkT b s (.BoolOp .Or (y :: z :: r) p)) | _ => false)
def chkI : I → SCx → Expr → Expr → Bool
  | .seq e, s, _, ex => chkE e s ex
  | .rng1 a, s, _, ex => (match asCall ex with | some (fn, [x], [], _) => (match asName fn with | some (n, _) => decide (n = "range") && s.glo n && tb.free.contains n && noStar [x] && chkE a s x | none => false) | _ => false)
  | .rng2 a b, s, _, ex => (match asCall ex with | some (fn, [x, y], [], _) => (match asName fn with | some (n, _) => decide (n = "range") && s.glo n && tb.free.contains n && noStar [x, y] && chkE a s x && chkE b s y | none => false) | _ => false)
  | .rng3 a b c, s, _, ex => (match asCall ex with | some (fn, [x, y, z], [], _) => (match asName fn with | some (n, _) => decide (n = "range") && s.glo n && tb.free.contains n && noStar [x, y, z] && chkE a s x && chkE b s y && chkE c s z | none => false) | _ => false)
  | .enum a, s, tg, ex => (match asCall ex with | some (fn, [x], [], _) => (match asName fn with | some (n, _) => decide (n = "enumerate") && s.glo n && tb.free.contains n && noStar [x] && (asTup tg).isSome && chkE a s x | none => false) | _ => false)
end
end
end DI

/-! DI.G2: the checker for expressions is right -/
namespace DI
open PySem PySem.Spec PyProof.Rows L2
structure XOk (tb : Tab) (g : Gx) (fa : Nat → Addr) (cc : Orc) (k : Nat) (pn : List (Addr × Obj)) (W : WX) (X : Cx) (s : SCx) : Prop where
  K : g.K = X.K
  N : X.N = s.N
  nd : X.N.Nodup
  sc : X.env.scope = s.sc
  calm : s.calm = true → X.calm = true
  tk : Takes X W
  un : X.A.units + 100 < cLine
  room : s.calm = true → Room (k + 2) X.A
  cel : ∀ x, s.cel.contains x = true → X.fn x = true
  free : ∀ n, tb.free.contains n = true → X.mg n = none
  fnm : ∀ n f, tb.fnm.lookup n = some f → X.mg n = some (.ref (fa f)) ∧ PySem.W.keepIn X.K (.ref (fa f)) = true
  clm : ∀ n c, tb.clm.lookup n = some c → X.mg n = some (.ref (g.ca c))
  fns : ∀ f, FnR X.prog X.w X.K X.mg X.base (L2.CX X.prog X.w) k (fa f) (spC g (callR tb.P cc f))
  cls : ∀ c i, tb.P.cl c = some i → ClsF tb.P g fa X.K c i
  own : PassesOwn (model X.prog X.w) X.A X.env X.xe
  xcm : ∀ n c, tb.xcm.lookup n = some c → X.mg n = some (.ref (g.xa c))
  exm : ∀ i j b, exmD tb.P i j = some b → PySem.W.exmOne X.K (.ref (g.xa i)) (.ref (g.xa j)) = some b
  pin : ∀ q ∈ pn, q ∈ X.pn
  pns : s.calm = true → pn = []
  xcs : ∀ c i, tb.P.xcs[c]? = some i → i.fs ≠ [] → XcF X.prog X.K X.mg (g.xa c) i.fs
section
variable {tb : Tab} {g : Gx} {pn : List (Addr × Obj)} {fa : Nat → Addr} {cc : Orc} {k : Nat} {W : WX} {X : Cx} {s : SCx}
theorem XOk.blk (h : XOk tb g fa cc k pn W X s) (hcalm : s.calm = true) (sh : Shared) (H : Hp) (scope : Scope) (C : Addr) (cl : List (Str × Addr)) (fp : List Addr) : XOk tb g fa cc k pn noW (X.blk sh H scope (compEnvC scope cl C X.env) fp) (s.blk scope) :=
  ⟨h.K, h.N, h.nd, congrArg (relS scope) h.sc, h.calm, takes0, h.un, h.room, fun x q => by
    have q : ((scope.names.map (·.1)).filter fun x => scope.names.lookup x == some .cell).contains x = true := q
    rw [List.contains_iff_mem, List.mem_filter] at q
    exact q.2, h.free, h.fnm, h.clm, h.fns, h.cls, PassesOwn.never, h.xcm, h.exm, fun q hq => by rw [h.pns hcalm] at hq; exact hq, h.pns, h.xcs⟩
theorem XOk.vis {x : Str} (h : XOk tb g fa cc k pn W X s) (q : s.vis x = true) : Vis X.env.scope x ∧ (x == ("__debug__" : Str)) = false ∧ (x == ("__classdict__" : Str)) = false := by
  unfold SCx.vis at q
  simp only [Bool.and_eq_true, Bool.not_eq_true'] at q
  refine ⟨?_, q.1.2, q.2⟩
  have q := q.1.1
  rw [h.sc]
  unfold Vis
  split at q
  · exact .inl (by assumption)
  · exact .inr (.inl (by assumption))
  · exact .inr (.inr (by assumption))
  · cases q
theorem XOk.glo {x : Str} (h : XOk tb g fa cc k pn W X s) (q : s.glo x = true) : Gl X x ∧ (x == ("__debug__" : Str)) = false := by
  unfold SCx.glo at q
  simp only [Bool.and_eq_true, Bool.not_eq_true'] at q
  refine ⟨?_, q.2⟩
  have q := q.1
  show X.env.scope.names.lookup x = some .globalImplicit
  rw [h.sc]
  split at q
  · assumption
  · cases q
theorem XOk.locs {x : Str} (h : XOk tb g fa cc k pn W X s) (q : s.locs x = true) : L2.Loc X.env.scope x ∧ (X.fn x = true ∨ X.env.scope.names.lookup x = some .local) := by
  unfold SCx.locs SCx.locC at q
  rw [h.sc]
  unfold L2.Loc
  split at q
  · exact ⟨.inl (by assumption), .inr (by assumption)⟩
  · exact ⟨.inr (by assumption), .inl (h.cel x q)⟩
  · cases q
theorem XOk.at_ {i : Nat} {x : Str} (h : XOk tb g fa cc k pn W X s) (q : s.N[i]? = some x) : X.N[i]? = some x := by rw [h.N]; exact q
theorem litB_ok {d : D} {c : Const} {n : Nat} {p : Pos} (h : litB d c = true) : PE X (.Constant c n p) (tR g pn W fun _ M => .ok (.p false d) M) := by
  unfold litB at h
  split at h
  · exact e_lit pe_non fun H Z => .non
  · rw [beq_iff_eq] at h; subst h; exact e_lit pe_bl fun H Z => .bl _
  · rw [decide_eq_true_eq] at h; subst h; exact e_lit pe_int fun H Z => .int _
  · rw [decide_eq_true_eq] at h; subst h; exact e_lit pe_str fun H Z => .str _
  · cases h
theorem g_ok {t : G} {ex : Expr} (h : XOk tb g fa cc k pn W X s) (q : chkG s t ex = true) : PG X ex (tG g pn t) := by
  unfold chkG at q
  split at q
  · split at q
    · rename_i e1
      rw [asName_eq e1]
      simp only [Bool.and_eq_true, decide_eq_true_eq] at q
      exact g_name h.nd (h.at_ q.1) (h.locs q.2).1 (h.locs q.2).2
    · cases q
  · split at q
    · rename_i e1
      rw [asTup_eq e1]
      simp only [Bool.and_eq_true] at q
      rw [← h.N] at q
      exact g_tup h.K (h.calm q.1) h.nd (fun x => h.locs) q.2
    · cases q

theorem ands {a b : Bool} (h : (a && b) = true) : a = true ∧ b = true := Bool.and_eq_true_iff.mp h
theorem star_no {x : Expr} {es : List Expr} (h : (match asStar x with | some _ => false | none => true) = true) (env : Env) : starEach (x :: es) env = (false, eval x env) :: starEach es env := by
  cases x <;> first | rfl | cases h
theorem meth_sup {o : Expr} {m : Str} {ap pos : Pos} {es : List Expr} (h : noSup o = true) (hl : (ap.endLine == pos.line) = true) (hn : noStar es = true) (hz : es.length < 30) :
    eval (.Call (.Attribute o m ap) es [] pos) X.env = (do let ov ← eval o X.env; standAt ap.atName; let (f, first) ← holding [ov] (getMethod ov m (do return (← importBound o X.env).getD true)); callWith pos f first (backTo pos (starEach es X.env)) (backToKw pos (keywordEach [] X.env))) := by
  have few : methodCallForm (es.length + ([] : List Keyword).length) (backTo pos (starEach es X.env)) (backToKw pos (keywordEach [] X.env)) = true := by
    unfold methodCallForm
    rw [plain_all hn]
    exact decide_eq_true hz
  show (do let ov ← attributeBase o m X.env (eval o X.env); standAt ap.atName; methodCall o m ap pos X.env ov (es.length + ([] : List Keyword).length) (backTo pos (starEach es X.env)) (backToKw pos (keywordEach [] X.env))) = _
  rw [noSup_base h]
  unfold methodCall
  rw [few]
  unfold methodCallPos
  rw [hl]
  rfl
theorem slots_sub {t : G} {own : List (Str × Nat)} (h : t.slots.all (fun i => (own.map (·.2)).contains i) = true) : t.slots ⊆ own.map (·.2) := fun i hi => by
  rw [List.all_eq_true] at h
  exact List.contains_iff_mem.mp (h i hi)
theorem pts_yes : PTs X [] (tB g pn W (evalT tb.P cc .yes)) := ⟨fun pins s σ H Q I ⟨sl, M, μ, Z0, hs, hm, h⟩ => pts_nil.run pins s σ H Q I (h.ok hm .refl)⟩
theorem nil_es {es : Es} (h : chkEs tb es s [] = true) : es = .nil := by
  cases es with
  | nil => rfl
  | cons _ _ => rw [chkEs] at h <;> first | cases h | (intros; contradiction)
  | star _ _ => rw [chkEs] at h <;> first | cases h | (intros; contradiction)
mutual
theorem soundE : ∀ (e : E) {W : WX} {X : Cx} {s : SCx} {ex : Expr}, XOk tb g fa cc k pn W X s → chkE tb e s ex = true → PE X ex (tR g pn W (evalE tb.P cc e))
  | .nev, W, X, s, ex, hx, h => ⟨fun pins s σ H Q I ⟨sl, M, μ, Z0, hs, hm, q⟩ => q.elim⟩
  | .var i, W, X, s, ex, hx, h => by
    rw [chkE] at h
    split at h
    · rename_i e1
      rw [asName_eq e1]
      simp only [Bool.and_eq_true, decide_eq_true_eq] at h
      obtain ⟨v1, v2, v3⟩ := hx.vis h.2
      exact e_var (hx.at_ h.1) v1 v2 v3
    · cases h
  | .lit d, W, X, s, ex, hx, h => by
    rw [chkE] at h
    split at h
    · rename_i e1
      rw [asConst_eq e1]
      exact litB_ok h
    · cases h
  | .bin op a b, W, X, s, ex, hx, h => by
    rw [chkE] at h
    split at h
    · rename_i e1
      rw [asBin_eq e1]
      simp only [Bool.and_eq_true, decide_eq_true_eq] at h
      obtain ⟨⟨e2, h1⟩, h2⟩ := h
      subst e2
      exact e_bin hx.K (soundE a hx h1) (soundE b hx h2)
    · cases h
  | .un op a, W, X, s, ex, hx, h => by
    rw [chkE] at h
    split at h
    · rename_i e1
      rw [asUn_eq e1]
      simp only [Bool.and_eq_true, decide_eq_true_eq] at h
      obtain ⟨e2, h1⟩ := h
      subst e2
      exact e_un (soundE a hx h1)
    · cases h
  | .notv a, W, X, s, ex, hx, h => by
    rw [chkE] at h
    split at h
    · rename_i e1
      rw [asUn_eq e1]
      simp only [Bool.and_eq_true, decide_eq_true_eq] at h
      obtain ⟨e2, h1⟩ := h
      subst e2
      exact e_notv (soundE a hx h1)
    · cases h
  | .andv a b, W, X, s, ex, hx, h => by
    rw [chkE] at h
    split at h
    · rename_i x y r p e1
      rw [asBool_eq e1]
      obtain ⟨h1, h2⟩ := ands h
      refine e_and (soundE a hx h1) ?_
      cases r with
      | nil => exact pe_one (soundE b hx h2)
      | cons z r => exact soundE b hx h2
    · cases h
  | .orv a b, W, X, s, ex, hx, h => by
    rw [chkE] at h
    split at h
    · rename_i x y r p e1
      rw [asBool_eq e1]
      obtain ⟨h1, h2⟩ := ands h
      refine e_or (soundE a hx h1) ?_
      cases r with
      | nil => exact pe_one (soundE b hx h2)
      | cons z r => exact soundE b hx h2
    · cases h
  | .cmp op a b, W, X, s, ex, hx, h => by
    rw [chkE] at h
    split at h
    · rename_i e1
      rw [asCmp_eq e1]
      simp only [Bool.and_eq_true, decide_eq_true_eq, Bool.not_eq_true'] at h
      obtain ⟨⟨⟨e2, h0⟩, h1⟩, h2⟩ := h
      subst e2
      exact e_cmp hx.K (Nat.lt_of_le_of_lt (Nat.add_le_add_left (by decide) _) hx.un) h0 (soundE a hx h1) (soundE b hx h2)
    · cases h
  | .chn op op' a b c, W, X, s, ex, hx, h => by
    rw [chkE] at h
    split at h
    · rename_i e1
      rw [asCmp_eq e1]
      simp only [Bool.and_eq_true, decide_eq_true_eq, Bool.not_eq_true'] at h
      obtain ⟨⟨⟨⟨⟨e2, e3⟩, h0⟩, h1⟩, h2⟩, h3⟩ := h
      subst e2 e3
      exact e_chn hx.K (Nat.lt_of_le_of_lt (Nat.add_le_add_left (by decide) _) hx.un) h0 (soundE a hx h1) (soundE b hx h2) (soundE c hx h3)
    · cases h
  | .ife t a b, W, X, s, ex, hx, h => by
    rw [chkE] at h
    split at h
    · rename_i e1
      rw [asIf_eq e1]
      obtain ⟨h1, h3⟩ := ands h
      obtain ⟨h1, h2⟩ := ands h1
      exact e_ife (soundT t hx h1).1 (soundE a hx h2) (soundE b hx h3)
    · cases h
  | .tup es, W, X, s, ex, hx, h => by
    rw [chkE] at h
    split at h
    · rename_i e1
      rw [asTup_eq e1]
      exact e_tup (soundEs es hx h)
    · cases h
  | .lst es, W, X, s, ex, hx, h => by
    rw [chkE] at h
    split at h
    · rename_i e1
      rw [asLst_eq e1]
      exact e_lst (soundEs es hx h)
    · cases h
  | .bi f es, W, X, s, ex, hx, h => by
    rw [chkE] at h
    split at h
    · rename_i e1
      rw [asCall_eq e1]
      split at h
      · rename_i e2
        rw [asName_eq e2]
        simp only [Bool.and_eq_true, decide_eq_true_eq] at h
        obtain ⟨⟨⟨⟨⟨⟨e3, h1⟩, h2⟩, h3⟩, h4⟩, h5⟩, h6⟩ := h
        subst e3
        exact e_bi hx.K (Nat.lt_of_le_of_lt (Nat.add_le_add_left (by decide) _) hx.un) (hx.calm h1) (hx.glo h2).1 (hx.free _ h3) h4 h5 (soundEs es hx h6)
      · cases h
    · cases h
  | .isi e ts many, W, X, s, ex, hx, h => by
    rw [chkE] at h
    split at h
    · rename_i e1
      rw [asCall_eq e1]
      split at h
      · rename_i e2
        rw [asName_eq e2]
        simp only [Bool.and_eq_true, decide_eq_true_eq] at h
        obtain ⟨⟨⟨⟨⟨e3, h1⟩, h2⟩, h3⟩, h4⟩, h5⟩ := h
        subst e3
        cases many with
        | false =>
          dsimp only at h5
          split at h5
          · rename_i e5
            simp only [Bool.and_eq_true, decide_eq_true_eq] at h5
            obtain ⟨⟨⟨e6, h6⟩, h7⟩, h8⟩ := h5
            subst e6
            rw [asName_eq e5] at h3 ⊢
            exact e_isi1 hx.K (hx.glo h1).1 (hx.free _ h2) h3 h6 (hx.glo h7).1 (hx.free _ h8) (soundE e hx h4)
          · cases h5
        | true =>
          dsimp only at h5
          split at h5
          · rename_i e5
            simp only [Bool.and_eq_true, decide_eq_true_eq, Bool.not_eq_true', List.all_eq_true] at h5
            obtain ⟨⟨⟨h6, h7⟩, h8⟩, h9⟩ := h5
            rw [asTup_eq e5] at h3 ⊢
            exact e_isiN hx.K (hx.glo h1).1 (hx.free _ h2) h3 h6 (fun q => by rw [q] at h7; cases h7) h8 (fun t ht => ⟨(hx.glo (h9 t ht).1).1, hx.free _ (h9 t ht).2⟩) (soundE e hx h4)
          · cases h5
      · cases h
    · cases h
  | .call f es, W, X, s, ex, hx, h => by
    rw [chkE] at h
    split at h
    · rename_i xs pos e1
      rw [asCall_eq e1]
      split at h
      · rename_i e2
        rw [asName_eq e2]
        simp only [Bool.and_eq_true, decide_eq_true_eq] at h
        obtain ⟨⟨⟨⟨h1, h2⟩, h3⟩, h4⟩, h5⟩ := h
        obtain ⟨g1, g2⟩ := hx.fnm _ _ h3
        cases xs with
        | nil =>
          have e5 := nil_es h5
          subst e5
          exact e_call0 (hx.fns f) ((hx.room h1).mono (Nat.le_add_right _ 2)) hx.tk (hx.glo h2).1 g1 g2 (hx.glo h2).2
        | cons a xs => exact e_call (hx.fns f) ((hx.room h1).mono (Nat.le_add_right _ 2)) hx.tk (hx.glo h2).1 g1 g2 (hx.glo h2).2 h4 (soundEs es hx h5)
      · cases h
    · cases h
  | .make c es, W, X, s, ex, hx, h => by
    rw [chkE] at h
    split at h
    · rename_i xs pos e1
      rw [asCall_eq e1]
      split at h
      · rename_i e2
        rw [asName_eq e2]
        simp only [Bool.and_eq_true, decide_eq_true_eq] at h
        obtain ⟨⟨⟨⟨⟨h1, h2⟩, h3⟩, h0⟩, h4⟩, h5⟩ := h
        obtain ⟨i, hi⟩ := Option.isSome_iff_exists.mp h0
        cases xs with
        | nil =>
          have e5 := nil_es h5
          subst e5
          exact e_make0 hi (hx.cls c i hi) hx.fns ((hx.room h1).mono (Nat.le_succ _)) hx.tk (hx.glo h2).1 (hx.clm _ _ h3) (hx.glo h2).2
        | cons a xs => exact e_make hi (hx.cls c i hi) hx.fns ((hx.room h1).mono (Nat.le_succ _)) hx.tk (hx.glo h2).1 (hx.clm _ _ h3) (hx.glo h2).2 h4 (soundEs es hx h5)
      · cases h
    · cases h
  | .makev c j es, W, X, s, ex, hx, h => by
    rw [chkE] at h
    split at h
    · rename_i xs pos e1
      rw [asCall_eq e1]
      split at h
      · rename_i e2
        rw [asName_eq e2]
        simp only [Bool.and_eq_true, decide_eq_true_eq] at h
        obtain ⟨⟨⟨⟨⟨h1, h2⟩, h3⟩, h0⟩, h4⟩, h5⟩ := h
        obtain ⟨i, hi⟩ := Option.isSome_iff_exists.mp h0
        obtain ⟨v1, v2, v3⟩ := hx.vis h3
        exact e_makev hi (hx.cls c i hi) hx.fns ((hx.room h1).mono (Nat.le_succ _)) hx.tk (hx.at_ h2) v1 v2 v3 h4 (soundEs es hx h5)
      · cases h
    · cases h
  | .meth m o es, W, X, s, ex, hx, h => by
    rw [chkE] at h
    split at h
    · rename_i xs pos e1
      rw [asCall_eq e1]
      split at h
      · rename_i ox n ap e2
        rw [asAttr_eq e2]
        simp only [Bool.and_eq_true, decide_eq_true_eq] at h
        obtain ⟨⟨⟨⟨⟨⟨⟨h1, e3⟩, h2⟩, h3⟩, h4⟩, h5⟩, h6⟩, h7⟩ := h
        subst e3
        cases xs with
        | nil =>
          have e5 := nil_es h5
          subst e5
          exact e_meth0 hx.cls hx.fns ((hx.room h1).mono (Nat.le_add_right _ 2)) hx.tk (soundE o hx h4) (meth_sup h3 h6 h2 h7)
        | cons a xs => exact e_meth hx.cls hx.fns ((hx.room h1).mono (Nat.le_add_right _ 2)) hx.tk (soundE o hx h4) h2 (soundEs es hx h5) (meth_sup h3 h6 h2 h7)
      · cases h
    · cases h
  | .cmeth c m es, W, X, s, ex, hx, h => by
    rw [chkE] at h
    split at h
    · rename_i xs pos e1
      rw [asCall_eq e1]
      split at h
      · rename_i ox n ap e2
        rw [asAttr_eq e2]
        split at h
        · rename_i e4
          rw [asName_eq e4]
          simp only [Bool.and_eq_true, decide_eq_true_eq] at h
          obtain ⟨⟨⟨⟨⟨⟨⟨⟨h1, e3⟩, h2⟩, h3⟩, h4⟩, h5⟩, h6⟩, h7⟩, h8⟩ := h
          subst e3
          cases xs with
          | nil => cases h5
          | cons a xs => exact e_cmeth hx.cls hx.fns ((hx.room h1).mono (Nat.le_add_right _ 2)) hx.tk (hx.glo h2).1 (hx.clm _ _ h3) (hx.glo h2).2 h4 (soundEs es hx h6) (meth_sup rfl h7 h4 h8)
        · cases h
      · cases h
    · cases h
  | .mt m o es, W, X, s, ex, hx, h => by
    rw [chkE] at h
    split at h
    · rename_i xs pos e1
      rw [asCall_eq e1]
      split at h
      · rename_i ox n ap e2
        rw [asAttr_eq e2]
        simp only [Bool.and_eq_true, decide_eq_true_eq] at h
        obtain ⟨⟨⟨⟨⟨⟨e3, h2⟩, h3⟩, h4⟩, h5⟩, h6⟩, h7⟩ := h
        subst e3
        split at h7
        · have e5 := nil_es h6
          subst e5
          simp only [Bool.or_eq_true, decide_eq_true_eq] at h7
          rcases h7 with (e8 | e8) | e8 <;> subst e8
          · exact e_pop h3 h4 (soundE o hx h5)
          · exact e_reverse h3 h4 (soundE o hx h5)
          · exact e_bits h3 h4 (soundE o hx h5)
        · simp only [Bool.or_eq_true, decide_eq_true_eq] at h7
          rcases h7 with e8 | e8 <;> subst e8
          · exact e_append h3 h4 h2 (soundE o hx h5) (soundEs es hx h6)
          · exact e_index hx.K (Nat.lt_of_le_of_lt (Nat.add_le_add_left (by decide) _) hx.un) h3 h4 h2 (soundE o hx h5) (soundEs es hx h6)
        · cases h7
      · cases h
    · cases h
  | .fld o f, W, X, s, ex, hx, h => by
    rw [chkE] at h
    split at h
    · rename_i e1
      rw [asAttr_eq e1]
      simp only [Bool.and_eq_true, decide_eq_true_eq] at h
      obtain ⟨⟨e3, h3⟩, h4⟩ := h
      subst e3
      exact e_fld hx.cls h3 (soundE o hx h4)
    · cases h
  | .efld i f, W, X, s, ex, hx, h => by
    rw [chkE] at h
    split at h
    · rename_i e1
      rw [asAttr_eq e1]
      split at h
      · rename_i e2
        rw [asName_eq e2]
        simp only [Bool.and_eq_true, decide_eq_true_eq] at h
        obtain ⟨⟨h1, h2⟩, h3⟩ := h
        obtain ⟨v1, v2, v3⟩ := hx.vis h3
        subst h1
        exact e_efld hx.pin hx.xcs (hx.at_ h2) v1 v2 v3
      · cases h
    · cases h
  | .prop o f, W, X, s, ex, hx, h => by
    rw [chkE] at h
    split at h
    · rename_i e1
      rw [asAttr_eq e1]
      simp only [Bool.and_eq_true, decide_eq_true_eq] at h
      obtain ⟨⟨⟨h1, e3⟩, h3⟩, h4⟩ := h
      subst e3
      exact e_prop hx.cls hx.fns ((hx.room h1).mono (Nat.le_succ _)) h3 (soundE o hx h4)
    · cases h
  | .eqo a b, W, X, s, ex, hx, h => by
    rw [chkE] at h
    split at h
    · rename_i e1
      rw [asCmp_eq e1]
      simp only [Bool.and_eq_true, Bool.not_eq_true'] at h
      obtain ⟨⟨⟨h1, h2⟩, h3⟩, h4⟩ := h
      exact e_eqo hx.cls hx.fns ((hx.room h1).mono (Nat.le_add_right _ 2)) h2 (soundE a hx h3) (soundE b hx h4)
    · cases h
  | .methn m o, W, X, s, ex, hx, h => by
    rw [chkE] at h
    split at h
    · rename_i e1
      rw [asCall_eq e1]
      split at h
      · rename_i ox n ap e2
        rw [asAttr_eq e2]
        simp only [Bool.and_eq_true, decide_eq_true_eq] at h
        obtain ⟨⟨⟨⟨h1, e3⟩, h3⟩, h4⟩, h6⟩ := h
        subst e3
        exact e_methn hx.cls hx.fns ((hx.room h1).mono (Nat.le_add_right _ 2)) hx.tk (soundE o hx h4) (meth_sup h3 h6 (by rfl) (by decide))
      · cases h
    · cases h
  | .isc e c, W, X, s, ex, hx, h => by
    rw [chkE] at h
    split at h
    · rename_i e1
      rw [asCall_eq e1]
      split at h
      · rename_i e2
        rw [asName_eq e2]
        simp only [Bool.and_eq_true, decide_eq_true_eq] at h
        obtain ⟨⟨⟨⟨⟨e3, h1⟩, h2⟩, h3⟩, h4⟩, h5⟩ := h
        subst e3
        split at h5
        · rename_i e5
          simp only [Bool.and_eq_true, decide_eq_true_eq] at h5
          rw [asName_eq e5] at h3 ⊢
          exact e_isc hx.cls hx.K (hx.glo h1).1 (hx.free _ h2) h3 (hx.glo h5.1).1 (hx.clm _ _ h5.2) (hx.glo h5.1).2 (soundE e hx h4)
        · cases h5
      · cases h
    · cases h
  | .idx a b, W, X, s, ex, hx, h => by
    rw [chkE] at h
    split at h
    · rename_i e1
      rw [asSub_eq e1]
      obtain ⟨h1, h3⟩ := ands h
      obtain ⟨h1, h2⟩ := ands h1
      exact e_idx hx.K h1 (soundE a hx h2) (soundE b hx h3)
    · cases h
  | .slc a lo hi, W, X, s, ex, hx, h => by
    rw [chkE] at h
    split at h
    · rename_i e1
      rw [asSub_eq e1]
      split at h
      · rename_i e2
        rw [asSlice_eq e2]
        obtain ⟨h1, h3⟩ := ands h
        obtain ⟨h1, h2⟩ := ands h1
        exact e_slc hx.K (soundE a hx h1) (soundO lo hx h2) (soundO hi hx h3)
      · cases h
    · cases h
  | .lc own t it tt e, W, X, s, ex, hx, h => by
    rw [chkE] at h
    split at h
    · rename_i e1
      rw [asLc_eq e1]
      simp only [Bool.and_eq_true] at h
      obtain ⟨⟨⟨⟨⟨⟨⟨h1, h2⟩, h3⟩, h4⟩, h5⟩, h6⟩, h7⟩, h8⟩ := h
      refine pe_imp (pe_lc (hx.calm h1) hx.nd (soundI it hx h6) (blkOk_by (by rw [hx.N, hx.sc]; exact h2)) (fun s H C cl fp => g_ok (hx.blk h1 s H _ C cl fp) h3) (fun s H C cl fp => ?_) (fun s H C cl fp => soundE e (hx.blk h1 s H _ C cl fp) h8) (fun x => notSet_eq h5 _ x)) fun σ H Q q => lc_read rfl rfl rfl (slots_sub h4) σ H Q q
      split at h7
      · cases tt <;> first | exact pts_yes | cases h7
      · exact pts_one (soundT tt (hx.blk h1 s H _ C cl fp) h7).1
      · cases h7
    · cases h
  | .lc2 own t it tt t1 it1 tt1 e, W, X, s, ex, hx, h => by
    rw [chkE] at h
    split at h
    · rename_i e1
      rw [asLc_eq e1]
      simp only [Bool.and_eq_true] at h
      obtain ⟨⟨⟨⟨⟨⟨⟨⟨⟨⟨⟨⟨h1, h2⟩, h3⟩, h4⟩, h4'⟩, h5⟩, h5'⟩, h6⟩, h7⟩, h9⟩, h10⟩, h11⟩, h8⟩ := h
      refine pe_imp (pe_lc2 (vs1 := t1.slots) (hx.calm h1) hx.nd (soundI it hx h6) (blkOk_by (by rw [hx.N, hx.sc]; exact h2)) (slots_sub h4') (fun s H C cl fp => g_ok (hx.blk h1 s H _ C cl fp) h3) (fun s H C cl fp => ?_)
        (fun s H C cl fp => soundI it1 (hx.blk h1 s H _ C cl fp) h10) (fun s H C cl fp => g_ok (hx.blk h1 s H _ C cl fp) h9) (fun s H C cl fp => ?_) (fun s H C cl fp => soundE e (hx.blk h1 s H _ C cl fp) h8) (fun x => notSet_eq h5 _ x) (fun env x => notSet_eq h5' env x)) fun σ H Q q => lc2_read rfl rfl rfl rfl rfl (slots_sub h4) rfl σ H Q q
      · split at h7
        · cases tt <;> first | exact pts_yes | cases h7
        · exact pts_one (soundT tt (hx.blk h1 s H _ C cl fp) h7).1
        · cases h7
      · split at h11
        · cases tt1 <;> first | exact pts_yes | cases h11
        · exact pts_one (soundT tt1 (hx.blk h1 s H _ C cl fp) h11).1
        · cases h11
    · cases h
theorem soundO : ∀ (o : O) {W : WX} {X : Cx} {s : SCx} {ex : Option Expr}, XOk tb g fa cc k pn W X s → chkO tb o s ex = true → PO X ex (tOi g pn W (evalO tb.P cc o))
  | .no, W, X, s, ex, hx, h => by
    cases ex with
    | none => exact o_no
    | some _ => rw [chkO] at h <;> first | cases h | (intros; contradiction)
  | .some e, W, X, s, ex, hx, h => by
    cases ex with
    | none => rw [chkO] at h <;> first | cases h | (intros; contradiction)
    | some x =>
      rw [chkO] at h
      exact o_some (soundE e hx h)
theorem soundEs : ∀ (es : Es) {W : WX} {X : Cx} {s : SCx} {ex : List Expr}, XOk tb g fa cc k pn W X s → chkEs tb es s ex = true → PA X ex (tRs g pn W (evalEs tb.P cc es))
  | .nil, W, X, s, ex, hx, h => by
    cases ex with
    | nil => exact a_nil
    | cons _ _ => rw [chkEs] at h <;> first | cases h | (intros; contradiction)
  | .cons e es, W, X, s, ex, hx, h => by
    cases ex with
    | nil => cases nil_es h
    | cons x xs =>
      rw [chkEs] at h
      obtain ⟨h1, h3⟩ := ands h
      obtain ⟨h1, h2⟩ := ands h1
      exact a_cons (soundE e hx h2) (soundEs es hx h3) (star_no h1)
  | .star e es, W, X, s, ex, hx, h => by
    cases ex with
    | nil => cases nil_es h
    | cons x xs =>
      rw [chkEs] at h
      obtain ⟨h1, h3⟩ := ands h
      split at h1
      · rename_i e1
        rw [asStar_eq e1]
        exact a_star hx.K (soundE e hx h1) (soundEs es hx h3)
      · cases h1
/-- a test -/
theorem soundT : ∀ (t : T) {W : WX} {X : Cx} {s : SCx} {ex : Expr}, XOk tb g fa cc k pn W X s → chkT tb t s ex = true → PT X ex (tB g pn W (evalT tb.P cc t)) ∧ ∀ op r p, ex = .BoolOp op r p → PW X ex (tB g pn W (evalT tb.P cc t))
  | .yes, W, X, s, ex, hx, h => by rw [chkT] at h; cases h
  | .val e, W, X, s, ex, hx, h => by
    cases e with
    | cmp op a b =>
      have h : chkE tb (.cmp op a b) s ex = true := h
      rw [chkE] at h
      split at h
      · rename_i e1
        rw [asCmp_eq e1]
        simp only [Bool.and_eq_true, decide_eq_true_eq, Bool.not_eq_true'] at h
        obtain ⟨⟨⟨e2, h0⟩, h1⟩, h2⟩ := h
        subst e2
        exact ⟨t_cmp hx.K (Nat.lt_of_le_of_lt (Nat.add_le_add_left (by decide) _) hx.un) h0 (soundE a hx h1) (soundE b hx h2), fun _ _ _ q => by cases q⟩
      · cases h
    | chn op op' a b c =>
      have h : chkE tb (.chn op op' a b c) s ex = true := h
      rw [chkE] at h
      split at h
      · rename_i e1
        rw [asCmp_eq e1]
        simp only [Bool.and_eq_true, decide_eq_true_eq, Bool.not_eq_true'] at h
        obtain ⟨⟨⟨⟨⟨e2, e3⟩, h0⟩, h1⟩, h2⟩, h3⟩ := h
        subst e2 e3
        exact ⟨e_chn_t hx.K (Nat.lt_of_le_of_lt (Nat.add_le_add_left (by decide) _) hx.un) h0 (soundE a hx h1) (soundE b hx h2) (soundE c hx h3), fun _ _ _ q => by cases q⟩
      · cases h
    | _ =>
      obtain ⟨h1, h2⟩ := ands h
      exact ⟨t_val (soundE _ hx h2) (plainT_eq h1 _), fun _ _ _ q => by subst q; cases h1⟩
  | .tru e, W, X, s, ex, hx, h => by
    rw [chkT] at h
    obtain ⟨h1, h2⟩ := ands h
    exact ⟨t_tru hx.K (soundE e hx h2) (plainT_eq h1 _), fun _ _ _ q => by subst q; cases h1⟩
  | .nott t, W, X, s, ex, hx, h => by
    rw [chkT] at h
    split at h
    · rename_i e1
      rw [asUn_eq e1]
      simp only [Bool.and_eq_true, decide_eq_true_eq] at h
      obtain ⟨e2, h1⟩ := h
      subst e2
      exact ⟨t_not (soundT t hx h1).1, fun _ _ _ q => by cases q⟩
    · cases h
  | .and a b, W, X, s, ex, hx, h => by
    rw [chkT] at h
    split at h
    · rename_i x y r p e1
      rw [asBool_eq e1]
      obtain ⟨h1, h2⟩ := ands h
      have w : PW X (.BoolOp .And (x :: y :: r) p) (tB g pn W (evalT tb.P cc (.and a b))) := by
        refine w_and (soundT a hx h1).1 ?_
        cases r with
        | nil => exact w_one (soundT b hx h2).1
        | cons z r => exact (soundT b hx h2).2 _ _ _ rfl
      exact ⟨w.pt, fun _ _ _ _ => w⟩
    · cases h
  | .or a b, W, X, s, ex, hx, h => by
    rw [chkT] at h
    split at h
    · rename_i x y r p e1
      rw [asBool_eq e1]
      obtain ⟨h1, h2⟩ := ands h
      have w : PW X (.BoolOp .Or (x :: y :: r) p) (tB g pn W (evalT tb.P cc (.or a b))) := by
        refine w_or (soundT a hx h1).1 ?_
        cases r with
        | nil => exact w_one (soundT b hx h2).1
        | cons z r => exact (soundT b hx h2).2 _ _ _ rfl
      exact ⟨w.pt, fun _ _ _ _ => w⟩
    · cases h
theorem soundI : ∀ (t : I) {W : WX} {X : Cx} {s : SCx} {tg ex : Expr}, XOk tb g fa cc k pn W X s → chkI tb t s tg ex = true → PI X tg ex (tI g pn W (evalI tb.P cc t))
  | .seq e, W, X, s, tg, ex, hx, h => by
    rw [chkI] at h
    exact i_seq hx.K (soundE e hx h)
  | .rng1 a, W, X, s, tg, ex, hx, h => by
    rw [chkI] at h
    split at h
    · rename_i e1
      rw [asCall_eq e1]
      split at h
      · rename_i e2
        rw [asName_eq e2]
        simp only [Bool.and_eq_true, decide_eq_true_eq] at h
        obtain ⟨⟨⟨⟨e3, h1⟩, h2⟩, h3⟩, h4⟩ := h
        subst e3
        exact i_rng1 (hx.glo h1).1 (hx.free _ h2) h3 (soundE a hx h4)
      · cases h
    · cases h
  | .rng2 a b, W, X, s, tg, ex, hx, h => by
    rw [chkI] at h
    split at h
    · rename_i e1
      rw [asCall_eq e1]
      split at h
      · rename_i e2
        rw [asName_eq e2]
        simp only [Bool.and_eq_true, decide_eq_true_eq] at h
        obtain ⟨⟨⟨⟨⟨e3, h1⟩, h2⟩, h3⟩, h4⟩, h5⟩ := h
        subst e3
        exact i_rng2 (hx.glo h1).1 (hx.free _ h2) h3 (soundE a hx h4) (soundE b hx h5)
      · cases h
    · cases h
  | .rng3 a b c, W, X, s, tg, ex, hx, h => by
    rw [chkI] at h
    split at h
    · rename_i e1
      rw [asCall_eq e1]
      split at h
      · rename_i e2
        rw [asName_eq e2]
        simp only [Bool.and_eq_true, decide_eq_true_eq] at h
        obtain ⟨⟨⟨⟨⟨⟨e3, h1⟩, h2⟩, h3⟩, h4⟩, h5⟩, h6⟩ := h
        subst e3
        exact i_rng3 (hx.glo h1).1 (hx.free _ h2) h3 (soundE a hx h4) (soundE b hx h5) (soundE c hx h6)
      · cases h
    · cases h
  | .enum a, W, X, s, tg, ex, hx, h => by
    rw [chkI] at h
    split at h
    · rename_i e1
      rw [asCall_eq e1]
      split at h
      · rename_i e2
        rw [asName_eq e2]
        simp only [Bool.and_eq_true, decide_eq_true_eq] at h
        obtain ⟨⟨⟨⟨⟨e3, h1⟩, h2⟩, h3⟩, h4⟩, h5⟩ := h
        subst e3
        obtain ⟨q, eq⟩ := Option.isSome_iff_exists.mp h4
        obtain ⟨q1, q2, q3⟩ := q
        rw [asTup_eq eq]
        exact i_enum hx.K (hx.glo h1).1 (hx.free _ h2) h3 (soundE a hx h5)
      · cases h
    · cases h
end
end
end DI

/-! DI.H: statements: what is wanted, each construct -/
namespace DI
open PySem PySem.Spec PyProof.Rows L2
/-- what is wanted of a statement's result -/
def Sst (g : Gx) (pn : List (Addr × Obj)) (W : WX) (Z0 : Addr → Prop) (M : Sto) (μ : List Addr) (H : Hp) (r : SRes) (D : Ends) : Prop := match r with
  | .nx sl M' => ∀ μ' σ' H', RM g Z0 M' μ' H' → Stp M μ H M' μ' H' → RSl g pn Z0 M' μ' H' sl σ' → D.nx σ' H'
  | .bk sl M' => ∀ μ' σ' H', RM g Z0 M' μ' H' → Stp M μ H M' μ' H' → RSl g pn Z0 M' μ' H' sl σ' → D.bk σ' H'
  | .ct sl M' => ∀ μ' σ' H', RM g Z0 M' μ' H' → Stp M μ H M' μ' H' → RSl g pn Z0 M' μ' H' sl σ' → D.ct σ' H'
  | .rt a M' => ∀ μ' v H', RM g Z0 M' μ' H' → Stp M μ H M' μ' H' → RR g Z0 M' μ' H' a v → Fr g Z0 M' μ' H H' a v → D.rt v H'
  | .exc x sl M' => ∀ μ' σ' dx H', RM g Z0 M' μ' H' → Stp M μ H M' μ' H' → RSl g pn Z0 M' μ' H' sl σ' → RX g Z0 M' μ' H' x dx → W (.ref (g.xa x.c)) (some dx) σ' H'
  | .bad => False
def tS (g : Gx) (pn : List (Addr × Obj)) (W : WX) (ev : Slots → Sto → SRes) : TS := fun D σ H => ∃ sl M μ Z0, RSl g pn Z0 M μ H sl σ ∧ RM g Z0 M μ H ∧ Sst g pn W Z0 M μ H (ev sl M) D
section
variable {g : Gx} {pn : List (Addr × Obj)} {W : WX} {σ : L2.St} {Z0 : Addr → Prop} {sl : Slots} {M M1 M2 : Sto} {μ μ1 μ2 : List Addr} {H H1 H2 : Hp} {D D' : Ends}
theorem Sst.step {r : SRes} (h : Sst g pn W Z0 M μ H r D) (s : Stp M μ H M1 μ1 H1) : Sst g pn W Z0 M1 μ1 H1 r D := by
  cases r with
  | nx sl M' => exact fun μ' σ' H' m q => h μ' σ' H' m (s.trans q)
  | bk sl M' => exact fun μ' σ' H' m q => h μ' σ' H' m (s.trans q)
  | ct sl M' => exact fun μ' σ' H' m q => h μ' σ' H' m (s.trans q)
  | rt a M' => exact fun μ' v H' m q r f => h μ' v H' m (s.trans q) r (f.start fun a z => s.dom a z)
  | exc x sl M' => exact fun μ' σ' dx H' m q => h μ' σ' dx H' m (s.trans q)
  | bad => exact h
theorem Sst.imp {r : SRes} (h : Sst g pn W Z0 M μ H r D) (n : ∀ σ H, D.nx σ H → D'.nx σ H) (b : ∀ σ H, D.bk σ H → D'.bk σ H) (c : ∀ σ H, D.ct σ H → D'.ct σ H) (t : ∀ v H, D.rt v H → D'.rt v H) : Sst g pn W Z0 M μ H r D' := by
  cases r with
  | nx sl M' => exact fun μ' σ' H' m q r => n _ _ (h μ' σ' H' m q r)
  | bk sl M' => exact fun μ' σ' H' m q r => b _ _ (h μ' σ' H' m q r)
  | ct sl M' => exact fun μ' σ' H' m q r => c _ _ (h μ' σ' H' m q r)
  | rt a M' => exact fun μ' v H' m q r f => t _ _ (h μ' v H' m q r f)
  | exc x sl M' => exact h
  | bad => exact h
/-- an expression, then what follows it -/
theorem Sst.ex {α : Type} {r : Res α} {f : α → Sto → SRes} (hs : RSl g pn Z0 M μ H sl σ) (h : Sst g pn W Z0 M μ H (r.st sl f) D) : Pst g W σ Z0 M μ H r fun a M1 H1 => Sst g pn W Z0 M1 μ H1 (f a M1) D := by
  cases r with
  | ok a M1 => exact fun H1 m1 s1 => Sst.step h s1
  | exc x M1 => exact fun dx H1 m1 s1 rx => h μ σ dx H1 m1 s1 (s1.slots hs) rx
  | bad => exact h
theorem tR.stm {ev : Slots → Sto → Res RV} {f : RV → Sto → SRes} {Q : VK} (hs : RSl g pn Z0 M μ H sl σ) (hm : RM g Z0 M μ H) (h : Sst g pn W Z0 M μ H ((ev sl M).st sl f) D)
    (K : ∀ a M1 v H1, RM g Z0 M1 μ H1 → Stp M μ H M1 μ H1 → RSl g pn Z0 M1 μ H1 sl σ → RR g Z0 M1 μ H1 a v → Fr g Z0 M1 μ H H1 a v → Sst g pn W Z0 M1 μ H1 (f a M1) D → Q v H1) : tR g pn W ev σ H Q := by
  refine ⟨sl, M, μ, Z0, hs, hm, ?_⟩
  have h := h.ex hs
  cases e : ev sl M with
  | ok a M1 => rw [e] at h; exact fun H1 m1 s1 v ra fa => K a M1 v H1 m1 s1 (s1.slots hs) ra fa (h H1 m1 s1)
  | exc x M1 => rw [e] at h; exact h
  | bad => rw [e] at h; exact h
theorem tRs.stm {ev : Slots → Sto → Res (List RV)} {f : List RV → Sto → SRes} {Q : List V → Hp → Prop} (hs : RSl g pn Z0 M μ H sl σ) (hm : RM g Z0 M μ H) (h : Sst g pn W Z0 M μ H ((ev sl M).st sl f) D)
    (K : ∀ a M1 v H1, RM g Z0 M1 μ H1 → Stp M μ H M1 μ H1 → RSl g pn Z0 M1 μ H1 sl σ → RRs g Z0 M1 μ H1 a v → Sst g pn W Z0 M1 μ H1 (f a M1) D → Q v H1) : tRs g pn W ev σ H Q := by
  refine ⟨sl, M, μ, Z0, hs, hm, ?_⟩
  have h := h.ex hs
  cases e : ev sl M with
  | ok a M1 => rw [e] at h; exact fun H1 m1 s1 v ra => K a M1 v H1 m1 s1 (s1.slots hs) ra (h H1 m1 s1)
  | exc x M1 => rw [e] at h; exact h
  | bad => rw [e] at h; exact h
theorem tB.stm {ev : Slots → Sto → Res Bool} {f : Bool → Sto → SRes} {Q : Bool → Hp → Prop} (hs : RSl g pn Z0 M μ H sl σ) (hm : RM g Z0 M μ H) (h : Sst g pn W Z0 M μ H ((ev sl M).st sl f) D)
    (K : ∀ a M1 H1, RM g Z0 M1 μ H1 → Stp M μ H M1 μ H1 → RSl g pn Z0 M1 μ H1 sl σ → Sst g pn W Z0 M1 μ H1 (f a M1) D → Q a H1) : tB g pn W ev σ H Q := by
  refine ⟨sl, M, μ, Z0, hs, hm, ?_⟩
  have h := h.ex hs
  cases e : ev sl M with
  | ok a M1 => rw [e] at h; exact fun H1 m1 s1 => K a M1 H1 m1 s1 (s1.slots hs) (h H1 m1 s1)
  | exc x M1 => rw [e] at h; exact h
  | bad => rw [e] at h; exact h
theorem tI.stm {ev : Slots → Sto → Res (List DI.D)} {f : List DI.D → Sto → SRes} {R : It → Hp → Prop} (hs : RSl g pn Z0 M μ H sl σ) (hm : RM g Z0 M μ H) (h : Sst g pn W Z0 M μ H ((ev sl M).st sl f) D)
    (K : ∀ a M1 J H1, RM g Z0 M1 μ H1 → Stp M μ H M1 μ H1 → RSl g pn Z0 M1 μ H1 sl σ → IW g Z0 M1 μ H1 a J → Sst g pn W Z0 M1 μ H1 (f a M1) D → R J H1) : tI g pn W ev σ H R := by
  refine ⟨sl, M, μ, Z0, hs, hm, ?_⟩
  have h := h.ex hs
  cases e : ev sl M with
  | ok a M1 => rw [e] at h; exact fun H1 m1 s1 J w => K a M1 J H1 m1 s1 (s1.slots hs) w (h H1 m1 s1)
  | exc x M1 => rw [e] at h; exact h
  | bad => rw [e] at h; exact h
theorem Sst.nx (h : Sst g pn W Z0 M μ H (.nx sl M1) D) (m : RM g Z0 M1 μ1 H1) (s : Stp M μ H M1 μ1 H1) (hs : RSl g pn Z0 M1 μ1 H1 sl σ) : D.nx σ H1 := h μ1 σ H1 m s hs
end
theorem ps_imp {X : Cx} {st : Stmt} {t t' : TS} (h : PS X st t) (i : ∀ D σ H, t' D σ H → t D σ H) : PS X st t' := ⟨fun pins s σ H D I q => h.run pins s σ H D I (i D σ H q)⟩
theorem pss_imp {X : Cx} {st : List Stmt} {t t' : TS} (h : PSs X st t) (i : ∀ D σ H, t' D σ H → t D σ H) : PSs X st t' := ⟨fun pins s σ H D I q => h.run pins s σ H D I (i D σ H q)⟩
section
variable {g : Gx} {pn : List (Addr × Obj)} {W : WX} {X : Cx} {pos p : Pos} {a b e : Expr} {st : Stmt} {sts els : List Stmt} {eva evb : Slots → Sto → Res RV} {tva : Slots → Sto → Res Bool} {es0 es1 : Slots → Sto → SRes}
theorem s_nil : PSs X [] (tS g pn W fun sl M => .nx sl M) := pss_imp pss_nil fun D σ H ⟨sl, M, μ, Z0, hs, hm, h⟩ => h.nx hm .refl hs
theorem s_cons (h0 : PS X st (tS g pn W es0)) (h1 : PSs X sts (tS g pn W es1)) : PSs X (st :: sts) (tS g pn W fun sl M => (es0 sl M).next es1) := by
  refine pss_imp (pss_cons h0 h1) fun D σ H ⟨sl, M, μ, Z0, hs, hm, h⟩ => ⟨sl, M, μ, Z0, hs, hm, ?_⟩
  have h : Sst g pn W Z0 M μ H ((es0 sl M).next es1) D := h
  cases q : es0 sl M with
  | nx sl1 M1 => rw [q] at h; exact fun μ1 σ1 H1 m1 s1 hs1 => ⟨sl1, M1, μ1, Z0, hs1, m1, Sst.step h s1⟩
  | bk sl1 M1 => rw [q] at h; exact h
  | ct sl1 M1 => rw [q] at h; exact h
  | rt a M1 => rw [q] at h; exact h
  | exc x sl1 M1 => rw [q] at h; exact h
  | bad => rw [q] at h; exact h
theorem s_expr (ha : PE X a (tR g pn W eva)) (hs : swapsWith a none pos.line X.env = pure false) : PS X (.Expr a pos) (tS g pn W fun sl M => (eva sl M).st sl fun _ M1 => .nx sl M1) :=
  ps_imp (ps_expr ha hs) fun D σ H ⟨sl, M, μ, Z0, hs, hm, h⟩ => tR.stm hs hm h fun a M1 v H1 m1 s1 hs1 ra _ h1 => h1.nx m1 .refl hs1
theorem s_ret (ha : PE X a (tR g pn W eva)) : PS X (.Return (some a) pos) (tS g pn W fun sl M => (eva sl M).st sl fun a M1 => .rt a M1) := by
  refine ps_imp (ps_ret ha) fun D σ H ⟨sl, M, μ, Z0, hs, hm, h⟩ => ⟨sl, M, μ, Z0, hs, hm, ?_⟩
  have h : Sst g pn W Z0 M μ H ((eva sl M).st sl fun a M1 => .rt a M1) D := h
  cases q : eva sl M with
  | ok a M1 => rw [q] at h; exact fun H1 m1 s1 v r f => h μ v H1 m1 s1 r f
  | exc x M1 => rw [q] at h; exact fun dx H1 m1 s1 rx => h μ σ dx H1 m1 s1 (s1.slots hs) rx
  | bad => rw [q] at h; exact h
theorem s_retN : PS X (.Return none pos) (tS g pn W fun _ M => .rt (.p false .non) M) :=
  ps_imp ps_retN fun D σ H ⟨sl, M, μ, Z0, hs, hm, h⟩ => h μ .non H hm .refl (.p .non) (Fr.not rfl)
theorem s_pass : PS X (.Pass pos) (tS g pn W fun sl M => .nx sl M) := ps_imp ps_pass fun D σ H ⟨sl, M, μ, Z0, hs, hm, h⟩ => h.nx hm .refl hs
theorem s_brk : PS X (.Break pos) (tS g pn W fun sl M => .bk sl M) := ps_imp ps_break fun D σ H ⟨sl, M, μ, Z0, hs, hm, h⟩ => h μ σ H hm .refl hs
theorem s_cont : PS X (.Continue pos) (tS g pn W fun sl M => .ct sl M) := ps_imp ps_continue fun D σ H ⟨sl, M, μ, Z0, hs, hm, h⟩ => h μ σ H hm .refl hs
theorem s_if (ha : PT X a (tB g pn W tva)) (h0 : PSs X sts (tS g pn W es0)) (h1 : PSs X els (tS g pn W es1)) : PS X (.If a sts els pos) (tS g pn W fun sl M => (tva sl M).st sl fun k M1 => if k = true then es0 sl M1 else es1 sl M1) := by
  refine ps_imp (ps_if ha h0 h1) fun D σ H ⟨sl, M, μ, Z0, hs, hm, h⟩ => tB.stm hs hm h fun k M1 H1 m1 s1 hs1 h1 => ?_
  cases k with
  | true => exact ⟨sl, M1, μ, Z0, hs1, m1, h1⟩
  | false => exact ⟨sl, M1, μ, Z0, hs1, m1, h1⟩
theorem Stp.alloc {Z0 : Addr → Prop} {M M1 : Sto} {μ : List Addr} {H H1 : Hp} {d : D} {b : Addr} (hm : RM g Z0 M μ H) (m1 : RM g Z0 M1 μ H1) (s : Stp M μ H M1 μ H1) (hb : H b = none) : Stp M μ H (M1 ++ [.live d]) (μ ++ [b]) H1 :=
  ⟨⟨[b], rfl⟩, by rw [List.length_append]; have := s.len; omega, s.keep, s.dom, fun a ⟨k, e, h3, h4⟩ => by
    by_cases hk : k < M1.length
    · rw [List.getElem?_append_left hk] at h3
      rw [List.getElem?_append_left (by rw [m1.len]; exact hk)] at h4
      exact s.new a ⟨k, e, h3, h4⟩
    · rw [List.getElem?_append_right (by rw [m1.len]; omega)] at h4
      have : b = a := by
        cases q : k - μ.length with
        | zero => rw [q] at h4; simpa using h4
        | succ n => rw [q] at h4; simp at h4
      subst this
      exact .inr hb, fun k e h => by rw [List.getElem?_append_left (List.getElem?_eq_some_iff.mp (s.dead k e h)).1]; exact s.dead k e h⟩
/-- name = value, by either rule -/
theorem set_read {i : Nat} {al : Bool} {D : Ends} {σ : L2.St} {H : Hp} {te : TE} (hte : ∀ σ H Q, tR g pn W eva σ H Q → te σ H Q) (h : tS g pn W (fun sl M => (eva sl M).st sl fun a M1 => setR i al a sl M1) D σ H) : tAsg te (gName i) D σ H := by
  obtain ⟨sl, M, μ, Z0, hs, hm, h⟩ := h
  refine hte _ _ _ ⟨sl, M, μ, Z0, hs, hm, ?_⟩
  have h : Sst g pn W Z0 M μ H ((eva sl M).st sl fun a M1 => setR i al a sl M1) D := h
  cases e : eva sl M with
  | bad => rw [e] at h; exact h
  | exc x M1 => rw [e] at h; exact fun dx H1 m1 s1 rx => h μ σ dx H1 m1 s1 (s1.slots hs) rx
  | ok a M1 =>
    rw [e] at h
    intro H1 m1 s1 v ra fa
    show D.nx (σ.set i (some v)) H1
    have h1 : Sst g pn W Z0 M μ H (setR i al a sl M1) D := h
    unfold setR at h1
    cases ra with
    | own q => exact Sst.nx h1 m1 s1 ((s1.slots hs).set (.own q))
    | @p fr d _ q =>
      have plain : Sst g pn W Z0 M μ H (.nx (sl.set i (some (.p d))) M1) D → D.nx (σ.set i (some v)) H1 := fun h1 => h1.nx m1 s1 ((s1.slots hs).set (.p q))
      have stored : fr = true → (∀ xs, d ≠ .tup xs) → (∃ b, v = .ref b ∧ ¬ Zof Z0 M1 μ b) → Sst g pn W Z0 M μ H (.nx (sl.set i (some (.own M1.length))) (M1 ++ [.live d])) D → D.nx (σ.set i (some v)) H1 := fun ef nt eb k1 => by
        obtain ⟨b, eb, nz⟩ := eb
        subst ef
        subst eb
        obtain ⟨f1, f2, f3⟩ := fa d rfl b rfl
        obtain ⟨o, f4, f5⟩ := f3 nt
        have m2 := m1.alloc f2 f4 nz f5
        have s2 := Stp.alloc (d := d) hm m1 s1 f1
        exact Sst.nx k1 m2 s2 ((s2.slots hs).set (.own (by rw [← m1.len]; simp)))
      dsimp only at h1
      split at h1
      · rename_i e1
        refine stored (Bool.and_eq_true_iff.mp e1).2 (fun _ q => nomatch q) ?_ h1
        cases q with | lst h z r => exact ⟨_, rfl, z⟩
      · rename_i e1
        refine stored (Bool.and_eq_true_iff.mp e1).2 (fun _ q => nomatch q) ?_ h1
        cases q with | ins h z r => exact ⟨_, rfl, z⟩
      · exact plain h1
theorem s_set {i : Nat} {al : Bool} {x : Str} {p' : Pos} (hN : X.N.Nodup) (hi : X.N[i]? = some x) (hx : L2.Loc X.env.scope x) (hf : X.fn x = true ∨ X.env.scope.names.lookup x = some .local) (hs : swapsWith a (some (.Name x p')) pos.line X.env = pure false) (ha : PE X a (tR g pn W eva)) :
    PS X (.Assign [.Name x p'] a pos) (tS g pn W fun sl M => (eva sl M).st sl fun a M1 => setR i al a sl M1) :=
  ps_imp (ps_set hN hi hx ha hs hf) fun D σ H h => set_read (fun _ _ _ q => q) h
theorem s_unp {is : List Nat} {tg : Expr} (hs : swapsWith a (some tg) pos.line X.env = pure false) (hw : swappedStores [tg] a X.env = pure none) (h1 : (assignEach [tg] X.env).map (·.2) = [assign tg X.env]) (ha : PE X a (tR g pn W eva)) (hg : PG X tg (tG g pn (.tup is))) :
    PS X (.Assign [tg] a pos) (tS g pn W fun sl M => (eva sl M).st sl fun a M1 => match a with
      | .p _ d => (match bindG (.tup is) d sl with
        | some sl1 => .nx sl1 M1
        | none => .bad)
      | _ => .bad) := by
  refine ps_imp (ps_asg ha hg hs hw h1) fun D σ H ⟨sl, M, μ, Z0, hs, hm, h⟩ => tR.stm hs hm h fun a M1 v H1 m1 s1 hs1 ra _ h1 => ?_
  cases ra with
  | own q => exact h1.elim
  | @p fr d _ q =>
    dsimp only at h1
    cases e : bindG (.tup is) d sl with
    | none => rw [e] at h1; exact h1.elim
    | some sl1 =>
      rw [e] at h1
      exact ⟨sl, M1, μ, Z0, d, sl1, hs1, m1, q, e, fun σ' _ _ hs2 => h1.nx m1 .refl hs2⟩
theorem s_for {tg iter : Expr} {t : G} {evi : Slots → Sto → Res (List DI.D)} (hp : PassesOwn (model X.prog X.w) X.A X.env X.xe) (hc : X.calm = true) (hi : PI X tg iter (tI g pn W evi)) (hg : PG X tg (tG g pn t)) (hb : PSs X sts (tS g pn W es0)) (hs : ∀ x, foldedSetIterable iter X.env x = pure x) :
    PS X (.For tg iter sts [] pos) (tS g pn W fun sl M => (evi sl M).st sl fun xs M1 => forGo (fun x sl M => match bindG t x sl with
      | some sl1 => es0 sl1 M
      | none => .bad) xs sl M1) := by
  refine ps_imp (ps_for hp hc hi hg hb hs) fun D σ H ⟨sl, M, μ, Z0, hs, hm, h⟩ => tI.stm hs hm h fun xs M1 J H1 m1 s1 hs1 iw h1 => ?_
  obtain ⟨G, Y, w, hw⟩ := iw
  have hW : ∀ {Mi μi H'}, RM g Z0 Mi μi H' → Stp M1 μ H1 Mi μi H' → G H' ∧ ∀ i v H2, Y i H' v H2 → ∃ d, xs[i]? = some d ∧ Grow H' H2 ∧ RD g H2 (Zof Z0 Mi μi) d v := fun {Mi μi H'} m s => hw Z0 Mi μi H' m (fun a o e n => s.keep a o e fun q => n (.inl q)) fun a z => z.elim (fun z => (s.new a z).elim (fun q => .inl (.inl q)) .inr) fun z => .inl (.inr z)
  refine for_it w (fun i σ' H' => ∃ sli Mi μi, RM g Z0 Mi μi H' ∧ Stp M1 μ H1 Mi μi H' ∧ RSl g pn Z0 Mi μi H' sli σ' ∧ Sst g pn W Z0 Mi μi H' (forGo (fun x sl M => match bindG t x sl with
      | some sl1 => es0 sl1 M
      | none => .bad) (xs.drop i) sli Mi) D) ⟨sl, M1, μ, m1, .refl, hs1, h1⟩ (fun i σ' H' _ ⟨sli, Mi, μi, mi, si, _, _⟩ => (hW mi si).1) (fun i v σ' H' H2 hi ⟨sli, Mi, μi, mi, si, hsi, hi2⟩ y => ?_) fun σ' H' ⟨sli, Mi, μi, mi, si, hsi, hi2⟩ => ?_
  · obtain ⟨d, ex, gr, rd⟩ := (hW mi si).2 i v H2 y
    rw [drop_get ex] at hi2
    unfold forGo at hi2
    have mi2 := gr.rm mi
    have si2 := gr.stp mi
    have hi3 := hi2.step si2
    cases eb : bindG t d sli with
    | none => simp only [eb] at hi3; exact hi3.elim
    | some sl1 =>
      simp only [eb] at hi3
      refine ⟨sli, Mi, μi, Z0, d, sl1, si2.slots hsi, mi2, rd, eb, fun σ2 _ _ hs2 => ⟨sl1, Mi, μi, Z0, hs2, mi2, ?_⟩⟩
      cases q : es0 sl1 Mi with
      | nx sl3 M3 => simp only [q] at hi3; exact fun μ3 σ3 H3 m3 s3 hs3 => ⟨sl3, M3, μ3, m3, si.trans (si2.trans s3), hs3, hi3.step s3⟩
      | ct sl3 M3 => simp only [q] at hi3; exact fun μ3 σ3 H3 m3 s3 hs3 => ⟨sl3, M3, μ3, m3, si.trans (si2.trans s3), hs3, hi3.step s3⟩
      | bk sl3 M3 => simp only [q] at hi3; exact hi3
      | rt a M3 => simp only [q] at hi3; exact hi3
      | exc x sl3 M3 => simp only [q] at hi3; exact hi3
      | bad => simp only [q] at hi3; exact hi3
  · rw [List.drop_length] at hi2
    exact hi2.nx mi .refl hsi
/-- name[i] = e -/
theorem s_setIdx {k : Nat} {x : Str} {px tpos : Pos} (hN : X.N[k]? = some x) (hv : Vis X.env.scope x) (hd : (x == ("__debug__" : Str)) = false) (hcd : (x == ("__classdict__" : Str)) = false) (hb : noSl b = true) (hsw : swapsWith a (some (.Subscript (.Name x px) b tpos)) pos.line X.env = pure false) (hw : swappedStores [.Subscript (.Name x px) b tpos] a X.env = pure none)
    (ha : PE X a (tR g pn W eva)) (hi : PE X b (tR g pn W evb)) :
    PS X (.Assign [.Subscript (.Name x px) b tpos] a pos) (tS g pn W fun sl M => (eva sl M).st sl fun a M1 => match a.frz M1, sl[k]? with
      | some (d, M2), some (some (.own j)) => (evb sl M2).st sl fun x M3 => (match x, M3[j]? with
        | .p _ (.int n), some (.live (.lst xs)) => (match L2.ixN xs.length n with
          | some m => .nx sl (M3.set j (.live (.lst (xs.set m d))))
          | none => .bad)
        | _, _ => .bad)
      | _, _ => .bad) := by
  refine ps_imp (ps_asg ha (pg_sub (pos := tpos) (pe_var (pos := px) hN hv hd hcd) hi set_list (fun v => by cases b <;> first | rfl | cases hb)) hsw hw rfl) fun D σ H ⟨sl, M, μ, Z0, hs, hm, h⟩ => tR.stm hs hm h fun a M1 v H1 m1 s1 hs1 ra _ h1 => ?_
  cases ef : a.frz M1 with
  | none => simp only [ef] at h1; exact h1.elim
  | some q =>
    obtain ⟨d, M2⟩ := q
    obtain ⟨m2, s2, rd⟩ := ra.frz m1 ef
    have hs2 := s2.slots hs1
    have h2 := h1.step s2
    simp only [ef] at h2
    cases ek : sl[k]? with
    | none => simp only [ek] at h2; exact h2.elim
    | some o => cases o with
      | none => simp only [ek] at h2; exact h2.elim
      | some dv => cases dv with
        | p _ => simp only [ek] at h2; exact h2.elim
        | exc _ => simp only [ek] at h2; exact h2.elim
        | own j =>
          simp only [ek] at h2
          obtain ⟨u, e1, e2⟩ := hs2.at_ k _ ek
          cases e2 with | @own _ ad e2 =>
          refine ⟨_, e1, tR.stm hs2 m2 h2 fun x M3 w H3 m3 s3 hs3 rx _ h3 => ?_⟩
          cases x with
          | own _ => exact h3.elim
          | p fr dx => cases dx with
            | int n =>
              cases rx.pint
              cases ej : M3[j]? with
              | none => simp only [ej] at h3; exact h3.elim
              | some cl => cases cl with
                | dead _ => simp only [ej] at h3; exact h3.elim
                | live dl => cases dl with
                  | lst xs =>
                    simp only [ej] at h3
                    cases en : L2.ixN xs.length n with
                    | none => simp only [en] at h3; exact h3.elim
                    | some m =>
                      simp only [en] at h3
                      obtain ⟨_, ob, h4, h5⟩ := m3.live j _ ad ej e2
                      cases h5 with | @lst _ ws r5 =>
                      obtain ⟨m4, s4⟩ := m3.store (d' := .lst (xs.set m d)) (o := .lst (ws.set m v)) ej e2 (.lst (RDs.set (s3.rd rd) m r5))
                      exact ⟨ad, ws, n, m, rfl, rfl, h4, by rw [← r5.length]; exact en, h3.nx m4 s4 (s4.slots hs3)⟩
                  | _ => simp only [ej] at h3; exact h3.elim
            | _ => exact h3.elim
/-- name.f = e -/
theorem s_setFld {P : Prg} {fa : Nat → Addr} {k : Nat} {x f : Str} {px tpos : Pos} (hC : ∀ c i, P.cl c = some i → ClsF P g fa X.K c i) (hN : X.N[k]? = some x) (hv : Vis X.env.scope x) (hd : (x == ("__debug__" : Str)) = false) (hcd : (x == ("__classdict__" : Str)) = false) (hsw : swapsWith a (some (.Attribute (.Name x px) f tpos)) pos.line X.env = pure false)
    (ha : PE X a (tR g pn W eva)) :
    PS X (.Assign [.Attribute (.Name x px) f tpos] a pos) (tS g pn W fun sl M => (eva sl M).st sl fun a M1 => match a.frz M1, sl[k]? with
      | some (d, M2), some (some (.own j)) => (match M2[j]? with
        | some (.live (.ins cl fs)) => (match P.cl cl with
          | some i => if i.flds.contains f && decide (fs.length < 1000) then .nx sl (M2.set j (.live (.ins cl (putD f d fs)))) else .bad
          | none => .bad)
        | _ => .bad)
      | _, _ => .bad) := by
  refine ps_imp (ps_fld (pe_var (pos := px) hN hv hd hcd) ha hsw) fun D σ H ⟨sl, M, μ, Z0, hs, hm, h⟩ => tR.stm hs hm h fun a M1 v H1 m1 s1 hs1 ra _ h1 => ?_
  cases ef : a.frz M1 with
  | none => simp only [ef] at h1; exact h1.elim
  | some q =>
    obtain ⟨d, M2⟩ := q
    obtain ⟨m2, s2, rd⟩ := ra.frz m1 ef
    have hs2 := s2.slots hs1
    have h2 := h1.step s2
    simp only [ef] at h2
    cases ek : sl[k]? with
    | none => simp only [ek] at h2; exact h2.elim
    | some o => cases o with
      | none => simp only [ek] at h2; exact h2.elim
      | some dv => cases dv with
        | p _ => simp only [ek] at h2; exact h2.elim
        | exc _ => simp only [ek] at h2; exact h2.elim
        | own j =>
          simp only [ek] at h2
          obtain ⟨u, e1, e2⟩ := hs2.at_ k _ ek
          cases e2 with | @own _ ad e2 =>
          refine ⟨_, e1, ?_⟩
          cases ej : M2[j]? with
          | none => simp only [ej] at h2; exact h2.elim
          | some cl => cases cl with
            | dead _ => simp only [ej] at h2; exact h2.elim
            | live dl => cases dl with
              | ins c fs =>
                simp only [ej] at h2
                cases ei : P.cl c with
                | none => simp only [ei] at h2; exact h2.elim
                | some i =>
                  simp only [ei] at h2
                  split at h2
                  · rename_i ok
                    obtain ⟨k1, k2⟩ := Bool.and_eq_true_iff.mp ok
                    obtain ⟨_, ob, h4, h5⟩ := m2.live j _ ad ej e2
                    cases h5 with | @ins _ dx _ ws r5 =>
                    have F := hC c i ei
                    obtain ⟨m4, s4⟩ := m2.store (d' := .ins c (putD f d fs)) (o := .ins (g.ca c) dx (L2.putF f v ws)) ej e2 (.ins (r5.put rd))
                    exact ⟨ad, _, dx, ws, rfl, h4, F.cls, F.flds f k1, by rw [← r5.keys]; exact of_decide_eq_true k2, h2.nx m4 s4 (s4.slots hs2)⟩
                  · exact h2.elim
              | _ => simp only [ej] at h2; exact h2.elim
/-- name op= e, of ints -/
theorem s_aug {i : Nat} {op : Operator} {x : Str} {p' : Pos} (hop : op = .Add ∨ op = .Sub) (hN : X.N.Nodup) (hi : X.N[i]? = some x) (hx : L2.Loc X.env.scope x) (hf : X.fn x = true ∨ X.env.scope.names.lookup x = some .local) (ha : PE X a (tR g pn W eva)) :
    PS X (.AugAssign (.Name x p') op a pos) (tS g pn W fun sl M => match sl[i]? with
      | some (some (.p (.int x))) => (eva sl M).st sl fun a M1 => (match a with
        | .p _ (.int y) => (match opD op (.int x) (.int y) with
          | some z => .nx (sl.set i (some (.p z))) M1
          | none => .bad)
        | _ => .bad)
      | _ => .bad) := by
  have go : ∀ {ff : Int → Int → Int}, PIp X op (ipI ff) → (∀ x y, opD op (.int x) (.int y) = some (.int (ff x y))) → PS X (.AugAssign (.Name x p') op a pos) (tS g pn W fun sl M => match sl[i]? with
      | some (some (.p (.int x))) => (eva sl M).st sl fun a M1 => (match a with
        | .p _ (.int y) => (match opD op (.int x) (.int y) with
          | some z => .nx (sl.set i (some (.p z))) M1
          | none => .bad)
        | _ => .bad)
      | _ => .bad) := fun {ff} ip eo => by
    refine ps_imp (ps_aug hN hi hx ha ip hf) fun D σ H ⟨sl, M, μ, Z0, hs, hm, h⟩ => ?_
    dsimp only at h
    split at h
    · rename_i xi ek
      obtain ⟨u, e1, e2⟩ := hs.at_ i _ ek
      cases e2 with | p e2 =>
      cases e2
      refine ⟨_, e1, tR.stm hs hm h fun b M1 v H1 m1 s1 hs1 rb _ h1 => ?_⟩
      split at h1
      · cases rb.pint
        rw [eo] at h1
        exact ⟨_, _, rfl, rfl, h1.nx m1 .refl (hs1.set (.p (.int _)))⟩
      · exact h1.elim
    · exact h.elim
  rcases hop with e | e
  · subst e; exact go ip_add fun _ _ => rfl
  · subst e; exact go ip_sub fun _ _ => rfl
end
end DI

/-! DI.H0: several except clauses, with and without a name -/
namespace DIX
open PySem PySem.Spec PyProof.Rows L2
/-- a clause: the class, the slot of its name (if it has one), its suite -/
structure Cse where
  c : Value
  i : Option Nat
  ts : Addr → Value → Option Addr → TS
/-- the ends behind a named clause: its name is gone -/
def gone (i : Nat) (D : Ends) : Ends := { nx := fun z h => D.nx (z.set i none) h, rt := D.rt, bk := fun z h => D.bk (z.set i none) h, ct := fun z h => D.ct (z.set i none) h }
def wCs (K : PySem.W.Frag) (Wo : WX) (D : Ends) : List Cse → WX
  | [] => Wo
  | q :: r => fun cls d σ H => ∃ b, PySem.W.exmOne K cls q.c = some b ∧
      (b = true → ∀ a, H a = none → match q.i with
        | none => q.ts a cls d D σ H
        | some i => q.ts a cls d (gone i D) (σ.set i (some (.ref a))) H) ∧ (b = false → wCs K Wo D r cls d σ H)
inductive CsOk (X : Cx) : List ExceptHandler → List Cse → Prop
  | nil : CsOk X [] []
  | bare {x : Str} {c : Value} {ts : Addr → Value → Option Addr → TS} {b : Stmt} {bs : List Stmt} {np hp : Pos} {hs : List ExceptHandler} {l : List Cse} (hc : Names X x c)
      (go : ∀ (a : Addr) (oe : Obj) (cls : Value) (d : Option Addr) (pn : List (Addr × Obj)), Zc cls d oe → (∃ vs, oe.data = .fields vs) → PSs (X.suite a ((a, oe) :: pn)) (b :: bs) (ts a cls d)) (r : CsOk X hs l) :
      CsOk X (.ExceptHandler (some (.Name x np)) none (b :: bs) hp :: hs) (⟨c, none, ts⟩ :: l)
  | named {x n : Str} {i : Nat} {c : Value} {ts : Addr → Value → Option Addr → TS} {b : Stmt} {bs : List Stmt} {np hp : Pos} {hs : List ExceptHandler} {l : List Cse} (hc : Names X x c) (hN : X.N.Nodup) (hi : X.N[i]? = some n) (hn : X.env.kindOf n = some .local)
      (go : ∀ (a : Addr) (oe : Obj) (cls : Value) (d : Option Addr) (pn : List (Addr × Obj)), Zc cls d oe → (∃ vs, oe.data = .fields vs) → PSs (X.suite a ((a, oe) :: pn)) (b :: bs) (ts a cls d)) (r : CsOk X hs l) :
      CsOk X (.ExceptHandler (some (.Name x np)) (some n) (b :: bs) hp :: hs) (⟨c, some i, ts⟩ :: l)
section
variable {X : Cx} {body : List Stmt} {h0 : ExceptHandler} {hds : List ExceptHandler} {l : List Cse} {pos : Pos} {tb : WX → TS} {Wo : WX}
theorem ps_tryX (hs : X.stack = X.env :: X.outer) (hf : X.env.frame = some X.env.locals) (tk : Takes X Wo)
    (hb : ∀ (W : WX) (pn : List (Addr × Obj)) (xe : Value → Shared → Prop), Takes (X.tr pn xe) W → PassesOwn (model X.prog X.w) X.A X.env xe → PSs (X.tr pn xe) body (tb W)) (hh : CsOk X (h0 :: hds) l) :
    PS X (.Try body (h0 :: hds) [] [] pos) (fun D σ H => tb (wCs X.K Wo D l) D σ H) := by
  refine ⟨fun pins s σ H D I h => ?_⟩
  have ok := I.ok
  have frX : X.A.frames = some (X.env :: X.outer) := by rw [ok.frames, hs]
  refine wpAny_Try_except ?_
  refine wpAny_mono ((hb (wCs X.K Wo D l) (X.pn ++ pins) (fun e s1 => wpAny (model X.prog X.w) X.A (noteFrame e X.env) (fun _ s2 => wpAny (model X.prog X.w) X.A (setFlight e none)
    (fun _ s3 => wpAny (model X.prog X.w) X.A (handleBy e X.env (h0 :: hds)) (SP X pins D) X.xe s3) X.xe s2) X.xe s1) (fun u s' xx => ?_) PassesOwn.looking).run [] s σ H D (I.toTry _) h) (fun f s1 hsp => ?_) (fun e s1 he => he)
  · obtain ⟨a, B, sI, pins', σ', H', cls, d, rfl, J0, nb, up, sky, na, os, ag, w⟩ := xx
    have J : Inv X pins σ' H' sI := J0.ofTry ok
    have sky2 : Sky B (X.env :: X.outer) a (Zc cls d) X.env.locals s'.heap := by rw [← hs]; exact sky
    show wpAny (model X.prog X.w) X.A (noteFrame (.ref a) X.env) _ _ _
    refine Sky.land Zc.steady frX hf sky2 fun h3 fl3 up3 => ?_
    have J3 : Inv X pins σ' H' { s' with heap := h3 } := J.landed nb fl3.1 (up.trans up3) os ag
    obtain ⟨oe3, vs3, he3, hz3, hd3⟩ := fl3.there
    have out : a ∉ frs (X.env :: X.outer) := fun hm => by
      obtain ⟨_, o', e', hnf⟩ := fl3.2.2.1.mem hm
      rw [he3] at e'
      cases e'
      exact hnf _ hd3
    have nL : a ≠ X.env.locals := fun z => out (List.mem_filterMap.mpr ⟨X.env, List.mem_cons_self, by rw [hf, z]⟩)
    have nF : a ∉ X.fs := fun hm => by
      obtain ⟨e, he, q⟩ := List.mem_filterMap.mp hm
      exact out (List.mem_filterMap.mpr ⟨e, List.mem_cons_of_mem _ he, q⟩)
    have S3 := J3.suite he3 hd3 na nL nF
    have nameOf : ∀ {x : Str} {c : Value} {np : Pos} {Q : Value → Shared → Prop} {E : Value → Shared → Prop}, Names X x c → Q c { s' with heap := h3 } → wpAny (model X.prog X.w) (X.A.mark (some (.ref a))) (eval (.Name x np) X.env) Q E { s' with heap := h3 } := fun {x c np Q E} hc q => by
      obtain ⟨hg, hdbg, hm | ⟨hm, hv, hnn⟩⟩ := hc
      · exact ld_glob (X := X.suite a ((a, oe3) :: (X.pn ++ pins))) S3 hg hm q hdbg
      · exact ld_blt (X := X.suite a ((a, oe3) :: (X.pn ++ pins))) S3 hg hm hv q hnn hdbg
    have LT : PySem.W.Looks (model X.prog X.w) h3 (typeOf (.ref a)) cls := fun A Q E s k q => wpAny_typeOf_ref (k _ _ he3) (by rw [hz3.1]; exact q)
    have go : ∀ {hs' : List ExceptHandler} {l' : List Cse}, CsOk X hs' l' → wCs X.K Wo D l' cls d σ' H' → wpAny (model X.prog X.w) X.A (handleBy (.ref a) X.env hs') (SP X pins D) X.xe { s' with heap := h3 } := by
      intro hs' l' hk
      induction hk with
      | nil =>
        intro w
        refine wpAny_handleBy_nil ?_
        obtain ⟨k1, k2, k3, oe, vs, T, oT, ts', he, hz, hd, h1, hr⟩ := id fl3
        unfold PySem.passOn
        refine wpAny_bind (wpAny_field he hd h1 ?_)
        rw [if_neg (show ¬ ((Value.ref T == Value.none) = true) from by simp)]
        have fin : wpAny (model X.prog X.w) X.A (setFlight (.ref a) X.env.frame) (fun _ s4 => wpAny (model X.prog X.w) X.A (throw (.ref a) : Sem Flow) (SP X pins D) X.xe s4) X.xe { s' with heap := h3 } := by
          rw [hf]
          refine HandSPX.setFlight_upZ fl3 fun h4 hh4 up4 => wpAny_throw (tk _ _ ?_)
          exact ⟨a, B, sI, pins, σ', H', cls, d, rfl, J, nb, (up.trans up3).trans up4, .inr (.inr (by rw [hs]; exact hh4)), na, os, ag, w⟩
        first
          | exact wpAny_bind (wpAny_pure (wpAny_bind fin))
          | exact wpAny_bind fin
      | @bare x c ts b bs np hp hs2 l2 hc su r ih =>
        intro w
        obtain ⟨t, e1, yes, no⟩ := w
        refine wpAny_handleBy_cons (codeAny_handlers_test ?_) (by intro q; cases q)
        refine nameOf hc ((PySem.W.exm_one (M := model X.prog X.w) J3.kIn LT e1).here ?_)
        cases t with
        | false => exact ih (no rfl)
        | true =>
          refine codeAny_handlers_suite ?_
          refine HandSPX.lands_againZ fl3 fun h4 fl4 up4 => ?_
          have J4 : Inv X pins σ' H' { s' with heap := h4 } := J.landed nb fl4.1 ((up.trans up3).trans up4) os ag
          obtain ⟨oe4, vs4, he4, hz4, hd4⟩ := fl4.there
          refine wpAny_mono ((su a oe4 cls d (X.pn ++ pins) hz4 ⟨_, hd4⟩).run [] _ _ H' _ (J4.suite he4 hd4 na nL nF) (yes rfl a na)) (fun f s6 hsp => ?_) (fun _ _ z => False.elim z)
          cases f with
          | next => obtain ⟨_, _, S6, q6⟩ := hsp; exact ⟨_, _, S6.unsuite ok, q6⟩
          | brk => obtain ⟨_, _, S6, q6⟩ := hsp; exact ⟨_, _, S6.unsuite ok, q6⟩
          | cont => obtain ⟨_, _, S6, q6⟩ := hsp; exact ⟨_, _, S6.unsuite ok, q6⟩
          | ret u => obtain ⟨_, _, _, S6, r6, q6⟩ := hsp; exact ⟨_, _, _, S6.unsuite ok, r6, q6⟩
      | @named x n i c ts b bs np hp hs2 l2 hc hN hi hn su r ih =>
        intro w
        obtain ⟨t, e1, yes, no⟩ := w
        refine wpAny_handleBy_cons (codeAny_handlers_test ?_) (by intro q; cases q)
        refine nameOf hc ((PySem.W.exm_one (M := model X.prog X.w) J3.kIn LT e1).here ?_)
        cases t with
        | false => exact ih (no rfl)
        | true =>
          refine codeAny_handlers_suite_as ?_
          refine HandSPX.lands_againZ fl3 fun h4 fl4 up4 => ?_
          have J4 : Inv X pins σ' H' { s' with heap := h4 } := J.landed nb fl4.1 ((up.trans up3).trans up4) os ag
          obtain ⟨oe4, vs4, he4, hz4, hd4⟩ := fl4.there
          refine store_ok (X := X.suite a ((a, oe4) :: (X.pn ++ pins))) (v := .ref a) (J4.suite he4 hd4 na nL nF) hN hi (.inl hn) rfl (fun s5 S5 => ?_) (.inr hn)
          refine wpAny_mono ((su a oe4 cls d (X.pn ++ pins) hz4 ⟨_, hd4⟩).run [] s5 _ H' _ S5 (yes rfl a na)) (fun f s6 hsp => ?_) (fun _ _ z => False.elim z)
          have off : ∀ {σ6 : L2.St} {H6 : Hp} {Q : Shared → Prop}, Inv (X.suite a ((a, oe4) :: (X.pn ++ pins))) [] σ6 H6 s6 → (∀ s7, Inv X pins (σ6.set i none) H6 s7 → Q s7) →
              wpAny (model X.prog X.w) X.A (do bindName X.env n .none; unbindBehindTheSuite X.env n hp) (fun _ s7 => Q s7) X.xe s6 := fun {σ6 H6 Q} S6 hq => gone_ok (S6.unsuite ok) hN hi hn hq
          cases f with
          | next => obtain ⟨_, _, S6, q6⟩ := hsp; exact off S6 fun s7 J7 => ⟨_, _, J7, q6⟩
          | brk => obtain ⟨_, _, S6, q6⟩ := hsp; exact off S6 fun s7 J7 => ⟨_, _, J7, q6⟩
          | cont => obtain ⟨_, _, S6, q6⟩ := hsp; exact off S6 fun s7 J7 => ⟨_, _, J7, q6⟩
          | ret u => obtain ⟨_, _, _, S6, r6, q6⟩ := hsp; exact off S6 fun s7 J7 => ⟨_, _, _, J7, r6, q6⟩
    exact go hh w
  · cases f with
    | next => obtain ⟨_, _, J', q⟩ := hsp; exact wpAny_execs_nil ⟨_, _, J'.ofTry ok, q⟩
    | brk => obtain ⟨_, _, J', q⟩ := hsp; exact ⟨_, _, J'.ofTry ok, q⟩
    | cont => obtain ⟨_, _, J', q⟩ := hsp; exact ⟨_, _, J'.ofTry ok, q⟩
    | ret u => obtain ⟨_, _, _, J', r, q⟩ := hsp; exact ⟨_, _, _, J'.ofTry ok, r, q⟩
end
end DIX

/-! DI.H3: raise, try -/
namespace DI
open PySem PySem.Spec PyProof.Rows L2
theorem RDf.zip {g : Gx} {H : Hp} {Z : Addr → Prop} : ∀ {fs : List Str} {ds : List D} {vs : List V}, RDs g H Z ds vs → RDf g H Z (fs.zip ds) (fs.zip vs)
  | [], _, _, _ => .nil
  | _ :: _, _, _, .nil => .nil
  | _ :: fs, _, _, .cons h r => .cons h (RDf.zip r)
theorem RDf.app {g : Gx} {H : Hp} {Z : Addr → Prop} : ∀ {fs gs : List (Str × D)} {vs ws : List (Str × V)}, RDf g H Z fs vs → RDf g H Z gs ws → RDf g H Z (fs ++ gs) (vs ++ ws)
  | _, _, _, _, .nil, s => s
  | _, _, _, _, .cons h r, s => .cons h (RDf.app r s)
theorem RDf.rev {g : Gx} {H : Hp} {Z : Addr → Prop} : ∀ {fs : List (Str × D)} {vs : List (Str × V)}, RDf g H Z fs vs → RDf g H Z fs.reverse vs.reverse
  | _, _, .nil => .nil
  | _, _, .cons h r => by
    rw [List.reverse_cons, List.reverse_cons]
    exact RDf.app (RDf.rev r) (.cons h .nil)
theorem fmt_of {g : Gx} {H : Hp} {Z : Addr → Prop} : ∀ {ds : List D} {vs : List V}, RDs g H Z ds vs → ds.all fmtD = true → ∀ v ∈ vs, DIX.fmtB v = true
  | _, _, .nil, _, v, hv => by cases hv
  | d :: ds, w :: vs, .cons h r, q, v, hv => by
    obtain ⟨q1, q2⟩ := Bool.and_eq_true_iff.mp (show (fmtD d && ds.all fmtD) = true from q)
    rcases List.mem_cons.mp hv with e | hv
    · subst e
      cases h with
      | non => rfl
      | bl _ => rfl
      | str x => exact q1
      | int i =>
        unfold fmtD at q1
        simp only [Bool.and_eq_true, decide_eq_true_eq] at q1
        refine decide_eq_true ?_
        have hb : i.natAbs < 2 ^ 64 := by omega
        by_cases h0 : i.natAbs = 0
        · rw [h0]; decide
        · exact Nat.lt_trans ((Nat.log2_lt h0).mpr hb) (by decide)
      | _ => cases q1
    · exact fmt_of r q2 v hv
section
variable {g : Gx} {pn : List (Addr × Obj)} {W : WX} {X : Cx} {pos p pos' : Pos} {e : Expr} {es : List Expr} {evs : Slots → Sto → Res (List RV)} {k : Nat} {P : Prg} {n : Str}
theorem s_raise {xc : Nat} {xi : Xc} (hxi : P.xcs[xc]? = some xi) (hX : XcF X.prog X.K X.mg (g.xa xc) xi.fs) (hc : X.calm = true) (tk : Takes X W) (hr : Room (k + 2) X.A) (hg : Gl X n) (hm : X.mg n = some (.ref (g.xa xc))) (hd : (n == ("__debug__" : Str)) = false) (hn : noStar (e :: es) = true)
    (ha : PA X (e :: es) (tRs g pn W evs)) : PS X (.Raise (some (.Call (.Name n p) (e :: es) [] pos')) none pos) (tS g pn W fun sl M => (evs sl M).st sl fun as M1 => match frzs as M1, P.xcs[xc]? with
      | some (ds, M2), some i => if i.fs.length = ds.length ∧ ds.all fmtD = true then .exc ⟨xc, (i.fs.zip ds).reverse⟩ sl M2 else .bad
      | _, _ => .bad) := by
  obtain ⟨T, fI, cda, cc, me, name, qual, params, body, scope, oc, od, osl, kV, doc, pm, an, ct, F, f1, f2⟩ := hX
  refine ps_imp (ps_raise hc tk (DIX.pmk_x F f1 f2 hr hg hm hd ha (star_plain hn _) (plain_any (noStar_tl hn)))) fun D σ H ⟨sl, M, μ, Z0, hs, hm, h⟩ => tRs.stm hs hm h fun as M1 vs H1 m1 s1 hs1 ra h1 => ?_
  rw [hxi] at h1
  cases ef : frzs as M1 with
  | none => simp only [ef] at h1; exact h1.elim
  | some q =>
    obtain ⟨ds, M2⟩ := q
    simp only [ef] at h1
    obtain ⟨m2, s2, rd⟩ := RRs.frz m1 ra ef
    split at h1
    · rename_i ok
      refine ⟨by rw [← rd.length]; exact ok.1.symm, fmt_of rd ok.2, fun dx hdx => ?_⟩
      have gr : Grow H1 (upd H1 dx (.xd (xi.fs.zip vs).reverse)) := .new hdx
      have h2 := h1.step s2
      exact h2 μ σ dx _ (gr.rm m2) (gr.stp m2) ((gr.stp m2).slots (s2.slots hs1)) ⟨_, upd_same, fun z => m2.zdom z hdx, gr.rdf (RDf.zip rd).rev⟩
    · exact h1.elim
theorem RSl.noX {pn' : List (Addr × Obj)} {Z0 : Addr → Prop} {M : Sto} {μ : List Addr} {H : Hp} {sl : Slots} {σ : L2.St} (h : RSl g pn Z0 M μ H sl σ) : RSl g pn' Z0 M μ H (noX sl) σ := by
  refine ⟨by unfold DI.noX; rw [List.length_map]; exact h.len, fun i x e => ?_⟩
  unfold DI.noX at e
  rw [List.getElem?_map] at e
  cases q : sl[i]? with
  | none => rw [q] at e; cases e
  | some o =>
    rw [q] at e
    cases o with
    | none => cases e
    | some dv => cases dv with
      | p d =>
        cases e
        obtain ⟨v, e1, e2⟩ := h.at_ i _ q
        cases e2 with | p r => exact ⟨v, e1, .p r⟩
      | own k =>
        cases e
        obtain ⟨v, e1, e2⟩ := h.at_ i _ q
        cases e2 with | own r => exact ⟨_, e1, .own r⟩
      | exc _ => cases e
/-- the clauses, as readings -/
def csOf (g : Gx) (P : Prg) (cc : Orc) : Hs → List DIX.Cse
  | .nil => []
  | .cons xc i body r => ⟨.ref (g.xa xc), i, fun a cls d D σ H => ∀ oe, Zc cls d oe → (∃ vs, oe.data = .fields vs) → tS g [(a, oe)] noW (execSs P cc body) D σ H⟩ :: csOf g P cc r
theorem hs_ok {cc : Orc} {x : Ex} {D : Ends} {dx : Addr} {Z0 : Addr → Prop} {sl : Slots} {M : Sto} {μ : List Addr} {H : Hp} {σ : L2.St} (hm : RM g Z0 M μ H) (hs : RSl g [] Z0 M μ H sl σ) (rx : RX g Z0 M μ H x dx) (hE : ∀ i j b, exmD P i j = some b → PySem.W.exmOne X.K (.ref (g.xa i)) (.ref (g.xa j)) = some b) :
    ∀ (h : Hs), Sst g [] W Z0 M μ H (execHs P cc h x sl M) D → DIX.wCs X.K W D (csOf g P cc h) (.ref (g.xa x.c)) (some dx) σ H
  | .nil, q => q μ σ dx H hm .refl hs rx
  | .cons xc i body r, q => by
    unfold execHs at q
    cases e : exmD P x.c xc with
    | none => simp only [e] at q; exact q.elim
    | some b =>
      simp only [e] at q
      refine ⟨b, hE _ _ _ e, fun eb a ha => ?_, fun eb => ?_⟩
      · subst eb
        cases i with
        | none =>
          intro oe hz hd
          refine ⟨noX sl, M, μ, Z0, hs.noX, hm, ?_⟩
          dsimp only at q
          cases r2 : execSs P cc body (noX sl) M with
          | nx s2 M2 => rw [r2] at q; exact fun μ' σ' H' m' s' h' => q μ' σ' H' m' s' h'.noX
          | bk s2 M2 => rw [r2] at q; exact fun μ' σ' H' m' s' h' => q μ' σ' H' m' s' h'.noX
          | ct s2 M2 => rw [r2] at q; exact fun μ' σ' H' m' s' h' => q μ' σ' H' m' s' h'.noX
          | rt v M2 => rw [r2] at q; exact q
          | exc x2 s2 M2 => rw [r2] at q; exact q.elim
          | bad => rw [r2] at q; exact q.elim
        | some i =>
          intro oe hz hd
          refine ⟨(noX sl).set i (some (.exc x)), M, μ, Z0, hs.noX.set (.exc (List.mem_singleton.mpr rfl) hz hd rx), hm, ?_⟩
          dsimp only at q
          cases r2 : execSs P cc body ((noX sl).set i (some (.exc x))) M with
          | nx s2 M2 => rw [r2] at q; exact fun μ' σ' H' m' s' h' => q μ' _ H' m' s' h'.unset.noX
          | bk s2 M2 => rw [r2] at q; exact fun μ' σ' H' m' s' h' => q μ' _ H' m' s' h'.unset.noX
          | ct s2 M2 => rw [r2] at q; exact fun μ' σ' H' m' s' h' => q μ' _ H' m' s' h'.unset.noX
          | rt v M2 => rw [r2] at q; exact q
          | exc x2 s2 M2 => rw [r2] at q; exact q.elim
          | bad => rw [r2] at q; exact q.elim
      · subst eb
        exact hs_ok hm hs rx hE r q
theorem s_try {cc : Orc} {h : Hs} {body : List Stmt} {h0 : ExceptHandler} {hds : List ExceptHandler} {es0 : Slots → Sto → SRes} (hst : X.stack = X.env :: X.outer) (hf : X.env.frame = some X.env.locals) (tk : Takes X W) (hE : ∀ i j b, exmD P i j = some b → PySem.W.exmOne X.K (.ref (g.xa i)) (.ref (g.xa j)) = some b)
    (hb : ∀ (W : WX) (pn : List (Addr × Obj)) (xe : Value → Shared → Prop), Takes (X.tr pn xe) W → PassesOwn (model X.prog X.w) X.A X.env xe → PSs (X.tr pn xe) body (tS g [] W es0)) (hh : DIX.CsOk X (h0 :: hds) (csOf g P cc h)) :
    PS X (.Try body (h0 :: hds) [] [] pos) (tS g [] W fun sl M => match es0 sl M with
      | .exc x sl1 M1 => execHs P cc h x sl1 M1
      | r => r) := by
  refine ps_imp (DIX.ps_tryX hst hf tk hb hh) fun D σ H ⟨sl, M, μ, Z0, hs, hm, q⟩ => ⟨sl, M, μ, Z0, hs, hm, ?_⟩
  dsimp only at q
  cases r : es0 sl M with
  | exc x s1 M1 =>
    rw [r] at q
    exact fun μ' σ' dx H' m' s' h' rx => hs_ok m' h' rx hE h (Sst.step q s')
  | nx s1 M1 => rw [r] at q; exact q
  | bk s1 M1 => rw [r] at q; exact q
  | ct s1 M1 => rw [r] at q; exact q
  | rt v M1 => rw [r] at q; exact q
  | bad => rw [r] at q; exact q
end
end DI

/-! DI.H2: the checker for statements, and that it is right -/
namespace DI
open PySem PySem.Spec PyProof.Rows L2
def lcScope : Expr → Option Scope
  | .ListComp _ _ s _ => some s
  | .SetComp _ _ s _ => some s
  | .DictComp _ _ _ s _ => some s
  | _ => none
/-- is the comprehension's list bound ahead of its block's end? -/
def swB (sc : Scope) (ex : Expr) (x : Str) (np : Pos) : Bool := match lcScope ex with
  | none => false
  | some scope => (if sc.kind.isAnnotationScope then ScopeKind.function else sc.kind) == .function && sc.names.lookup x == some .local && np.line == ex.pos.line && !(scope.names.any fun (n, k) => n == x && (k == .local || k == .cell))
theorem swB_eq (ex : Expr) (x : Str) (np : Pos) (line : Nat) (env : Env) : swapsWith ex (some (.Name x np)) line env = pure (swB env.scope ex x np) := by
  cases ex <;> rfl
theorem sw_none {ex : Expr} (h : lcScope ex = none) (t : Option Expr) (line : Nat) (env : Env) : swapsWith ex t line env = pure false := by
  cases ex <;> first | rfl | cases h
def asExprS : Stmt → Option (Expr × Pos)
  | .Expr e p => some (e, p)
  | _ => none
def asAsg : Stmt → Option (Expr × Expr × Pos)
  | .Assign [t] e p => some (t, e, p)
  | _ => none
def asAug : Stmt → Option (Expr × Operator × Expr × Pos)
  | .AugAssign t o e p => some (t, o, e, p)
  | _ => none
def asIfS : Stmt → Option (Expr × List Stmt × List Stmt × Pos)
  | .If c a b p => some (c, a, b, p)
  | _ => none
def asFor : Stmt → Option (Expr × Expr × List Stmt × Pos)
  | .For t i b [] p => some (t, i, b, p)
  | _ => none
def asRet : Stmt → Option (Option Expr × Pos)
  | .Return e p => some (e, p)
  | _ => none
def asRaise : Stmt → Option (Expr × Pos)
  | .Raise (some e) none p => some (e, p)
  | _ => none
def asTry : Stmt → Option (List Stmt × List ExceptHandler × Pos)
  | .Try b h [] [] p => some (b, h, p)
  | _ => none
def asWord : Stmt → Option Nat
  | .Pass _ => some 0
  | .Break _ => some 1
  | .Continue _ => some 2
  | _ => none
section
variable {st : Stmt}
theorem asExprS_eq {e p} (h : asExprS st = some (e, p)) : st = .Expr e p := by cases st <;> first | (cases h; rfl) | cases h
theorem asAsg_eq {t e p} (h : asAsg st = some (t, e, p)) : st = .Assign [t] e p := by
  unfold asAsg at h
  split at h
  · cases h; rfl
  · cases h
theorem asAug_eq {t o e p} (h : asAug st = some (t, o, e, p)) : st = .AugAssign t o e p := by cases st <;> first | (cases h; rfl) | cases h
theorem asIfS_eq {c a b p} (h : asIfS st = some (c, a, b, p)) : st = .If c a b p := by cases st <;> first | (cases h; rfl) | cases h
theorem asFor_eq {t i b p} (h : asFor st = some (t, i, b, p)) : st = .For t i b [] p := by
  unfold asFor at h
  split at h
  · cases h; rfl
  · cases h
theorem asRet_eq {e p} (h : asRet st = some (e, p)) : st = .Return e p := by cases st <;> first | (cases h; rfl) | cases h
theorem asRaise_eq {e p} (h : asRaise st = some (e, p)) : st = .Raise (some e) none p := by
  unfold asRaise at h
  split at h
  · cases h; rfl
  · cases h
theorem asTry_eq {b hs p} (h : asTry st = some (b, hs, p)) : st = .Try b hs [] [] p := by
  unfold asTry at h
  split at h
  · cases h; rfl
  · cases h
theorem asWord_0 (h : asWord st = some 0) : ∃ p, st = .Pass p := by cases st <;> first | exact ⟨_, rfl⟩ | cases h
theorem asWord_1 (h : asWord st = some 1) : ∃ p, st = .Break p := by cases st <;> first | exact ⟨_, rfl⟩ | cases h
theorem asWord_2 (h : asWord st = some 2) : ∃ p, st = .Continue p := by cases st <;> first | exact ⟨_, rfl⟩ | cases h
end
def E.isLc : E → Bool
  | .lc _ _ _ _ _ => true
  | .lc2 _ _ _ _ _ _ _ _ => true
  | _ => false
def S.isClr : S → Option (List Nat)
  | .clr is => some is
  | _ => none
section
variable (tb : Tab)
mutual
def chkS : S → SCx → Stmt → Bool
  | .nev, _, _ => true
  | .expr e, s, st => (match asExprS st with | some (ex, _) => (lcScope ex).isNone && chkE tb e s ex | none => false)
  | .set i _ e, s, st => (match asAsg st with
    | some (tg, ex, _) => (match asName tg with
      | some (x, np) => decide (s.N[i]? = some x) && s.locs x && chkE tb e s ex && (!swB s.sc ex x np || e.isLc)
      | none => false)
    | none => false)
  | .unp is e, s, st => (match asAsg st with
    | some (tg, ex, _) => chkG s (.tup is) tg && (asTup ex).isNone && chkE tb e s ex
    | none => false)
  | .par _ _ _ _, _, _ => false
  | .setIdx k i e, s, st => (match asAsg st with
    | some (tg, ex, _) => (match asSub tg with
      | some (o, ix, _) => (match asName o with
        | some (x, _) => decide (s.N[k]? = some x) && s.vis x && noSl ix && chkE tb e s ex && chkE tb i s ix
        | none => false)
      | none => false)
    | none => false)
  | .setFld k f e, s, st => (match asAsg st with
    | some (tg, ex, _) => (match asAttr tg with
      | some (o, n, _) => (match asName o with
        | some (x, _) => decide (s.N[k]? = some x) && s.vis x && decide (n = f) && chkE tb e s ex
        | none => false)
      | none => false)
    | none => false)
  | .aug i op e, s, st => (match asAug st with
    | some (tg, o, ex, _) => (match asName tg with
      | some (x, _) => decide (s.N[i]? = some x) && s.locs x && decide (o = op) && (decide (op = .Add) || decide (op = .Sub)) && chkE tb e s ex
      | none => false)
    | none => false)
  | .ife t a b, s, st => (match asIfS st with
    | some (c, xs, ys, _) => chkT tb t s c && chkSs a s xs && chkSs b s ys
    | none => false)
  | .for_ g it body, s, st => (match asFor st with
    | some (tg, iter, xs, _) => s.calm && chkI tb it s tg iter && chkG s g tg && notSet iter && chkSs body s xs
    | none => false)
  | .ret e, s, st => (match asRet st with
    | some (some ex, _) => chkE tb e s ex
    | _ => false)
  | .retN, _, st => (match asRet st with
    | some (none, _) => true
    | _ => false)
  | .pass, _, st => asWord st == some 0
  | .brk, _, st => asWord st == some 1
  | .cont, _, st => asWord st == some 2
  | .raise xc es, s, st => (match asRaise st with
    | some (ex, _) => (match asCall ex with
      | some (fn, xs, [], _) => (match asName fn with
        | some (n, _) => s.calm && s.glo n && decide (tb.xcm.lookup n = some xc) && (match tb.P.xcs[xc]? with | some i => !i.fs.isEmpty | none => false) && noStar xs && !xs.isEmpty && chkEs tb es s xs
        | none => false)
      | _ => false)
    | none => false)
  | .try_ body hs, s, st => (match asTry st with
    | some (bs, hds, _) => s.calm && !hds.isEmpty && chkSs body s bs && chkHs hs { s with calm := false } hds
    | none => false)
  | .clr _, _, _ => false
def chkSs : Ss → SCx → List Stmt → Bool
  | .nev, _, _ => true
  | .nil, _, xs => xs.isEmpty
  | .cons st ss, s, xs => (match st.isClr with
    | some _ => chkSs ss s xs
    | none => (match xs with
      | x :: xs => chkS st s x && chkSs ss s xs
      | [] => false))
def chkHs : Hs → SCx → List ExceptHandler → Bool
  | .nil, _, hs => hs.isEmpty
  | .cons xc i body r, s, hs => (match hs with
    | .ExceptHandler (some ty) nm (b :: bs) _ :: hs => (match asName ty with
      | some (n, _) => s.glo n && decide (tb.xcm.lookup n = some xc) && (match i, nm with
        | none, none => true
        | some i, some m => decide (s.N[i]? = some m) && s.loc m
        | _, _ => false) && chkSs body s (b :: bs) && chkHs r s hs
      | none => false)
    | _ => false)
end
end
section
variable {tb : Tab} {g : Gx} {pn : List (Addr × Obj)} {fa : Nat → Addr} {cc : Orc} {k : Nat} {W : WX} {X : Cx} {s : SCx}
theorem swap_sub {o i : Expr} {p : Pos} (ex : Expr) (line : Nat) (env : Env) : swapsWith ex (some (.Subscript o i p)) line env = pure false := by cases ex <;> rfl
theorem swap_att {o : Expr} {f : Str} {p : Pos} (ex : Expr) (line : Nat) (env : Env) : swapsWith ex (some (.Attribute o f p)) line env = pure false := by cases ex <;> rfl
theorem swap_tup {es : List Expr} {n : Nat} {p : Pos} (ex : Expr) (line : Nat) (env : Env) : swapsWith ex (some (.Tuple es n p)) line env = pure false := by cases ex <;> rfl
theorem stores_tup {t ex : Expr} (h : asTup ex = none) (env : Env) : swappedStores [t] ex env = pure none := by
  cases ex <;> first | (cases t <;> rfl) | cases h
theorem stores_sub {o i : Expr} {p : Pos} (ex : Expr) (env : Env) : swappedStores [.Subscript o i p] ex env = pure none := by cases ex <;> rfl
theorem set_ok {i : Nat} {al : Bool} {x : Str} {np pos : Pos} {ex : Expr} {e : E} (hx : XOk tb g fa cc k pn W X s) (hN : X.N[i]? = some x) (hl : s.locs x = true) (h : chkE tb e s ex = true) (q : (!swB s.sc ex x np || e.isLc) = true) :
    PS X (.Assign [.Name x np] ex pos) (tS g pn W fun sl M => (evalE tb.P cc e sl M).st sl fun a M1 => setR i al a sl M1) := by
  obtain ⟨l1, l2⟩ := hx.locs hl
  cases sw : swB s.sc ex x np with
  | false => exact s_set hx.nd hN l1 l2 (by rw [swB_eq, hx.sc, sw]) (soundE e hx h)
  | true =>
    rw [sw] at q
    have hsw : swapsWith ex (some (.Name x np)) pos.line X.env = pure true := by rw [swB_eq, hx.sc, sw]
    have hxl : X.env.scope.names.lookup x = some .local := by
      unfold swB at sw
      split at sw
      · cases sw
      · simp only [Bool.and_eq_true, beq_iff_eq] at sw
        rw [hx.sc]
        exact sw.1.1.2
    cases e with
    | lc own t it tt e =>
      rw [chkE] at h
      split at h
      · rename_i e1
        have e1 := asLc_eq e1
        subst e1
        simp only [Bool.and_eq_true] at h
        obtain ⟨⟨⟨⟨⟨⟨⟨h1, h2⟩, h3⟩, h4⟩, h5⟩, h6⟩, h7⟩, h8⟩ := h
        refine ps_imp (ps_setLc (hx.calm h1) hx.nd hN hxl hsw (soundI (pn := pn) it hx h6) (blkOk_by (by rw [hx.N, hx.sc]; exact h2)) (fun s H C cl fp => g_ok (pn := pn) (hx.blk h1 s H _ C cl fp) h3) (fun s H C cl fp => ?_) (fun s H C cl fp => soundE (pn := pn) e (hx.blk h1 s H _ C cl fp) h8) (fun x => notSet_eq h5 _ x)) fun D σ H q => set_read (fun σ H Q q => lc_read rfl rfl rfl (slots_sub h4) σ H Q q) q
        split at h7
        · cases tt <;> first | exact pts_yes | cases h7
        · exact pts_one (soundT tt (hx.blk h1 s H _ C cl fp) h7).1
        · cases h7
      · cases h
    | lc2 own t it tt t1 it1 tt1 e =>
      rw [chkE] at h
      split at h
      · rename_i e1
        have e1 := asLc_eq e1
        subst e1
        simp only [Bool.and_eq_true] at h
        obtain ⟨⟨⟨⟨⟨⟨⟨⟨⟨⟨⟨⟨h1, h2⟩, h3⟩, h4⟩, h4'⟩, h5⟩, h5'⟩, h6⟩, h7⟩, h9⟩, h10⟩, h11⟩, h8⟩ := h
        refine ps_imp (ps_setLc2 (vs1 := t1.slots) (hx.calm h1) hx.nd hN hxl hsw (soundI (pn := pn) it hx h6) (blkOk_by (by rw [hx.N, hx.sc]; exact h2)) (slots_sub h4') (fun s H C cl fp => g_ok (pn := pn) (hx.blk h1 s H _ C cl fp) h3) (fun s H C cl fp => ?_)
          (fun s H C cl fp => soundI (pn := pn) it1 (hx.blk h1 s H _ C cl fp) h10) (fun s H C cl fp => g_ok (pn := pn) (hx.blk h1 s H _ C cl fp) h9) (fun s H C cl fp => ?_) (fun s H C cl fp => soundE (pn := pn) e (hx.blk h1 s H _ C cl fp) h8) (fun x => notSet_eq h5 _ x) (fun env x => notSet_eq h5' env x)) fun D σ H q => set_read (fun σ H Q q => lc2_read rfl rfl rfl rfl rfl (slots_sub h4) rfl σ H Q q) q
        · split at h7
          · cases tt <;> first | exact pts_yes | cases h7
          · exact pts_one (soundT tt (hx.blk h1 s H _ C cl fp) h7).1
          · cases h7
        · split at h11
          · cases tt1 <;> first | exact pts_yes | cases h11
          · exact pts_one (soundT tt1 (hx.blk h1 s H _ C cl fp) h11).1
          · cases h11
      · cases h
    | _ => cases q
theorem XOk.tr {W' : WX} {pn' : List (Addr × Obj)} {xe : Value → Shared → Prop} (h : XOk tb g fa cc k pn W X s) (tk : Takes (X.tr pn' xe) W') (po : PassesOwn (model X.prog X.w) X.A X.env xe) : XOk tb g fa cc k [] W' (X.tr pn' xe) s :=
  { K := h.K, N := h.N, nd := h.nd, sc := h.sc, calm := h.calm, tk := tk, un := h.un, room := h.room, cel := h.cel, free := h.free, fnm := h.fnm, clm := h.clm, fns := h.fns, cls := h.cls, own := po, xcm := h.xcm, exm := h.exm, pin := (fun _ q => by cases q), pns := (fun _ => rfl), xcs := h.xcs }
theorem XOk.suite {a : Addr} {oe : Obj} {pn' : List (Addr × Obj)} (h : XOk tb g fa cc k pn W X s) : XOk tb g fa cc k [(a, oe)] noW (X.suite a ((a, oe) :: pn')) { s with calm := false } :=
  { K := h.K, N := h.N, nd := h.nd, sc := h.sc, calm := (fun q => Bool.noConfusion q), tk := takes0, un := h.un, room := (fun q => Bool.noConfusion q), cel := h.cel, free := h.free, fnm := h.fnm, clm := h.clm, fns := h.fns, cls := h.cls, own := PassesOwn.never, xcm := h.xcm, exm := h.exm
    pin := (fun q hq => by rw [List.mem_singleton] at hq; subst hq; exact List.mem_cons_self), pns := (fun q => Bool.noConfusion q), xcs := h.xcs }
mutual
theorem soundS : ∀ (S : S) {pn : List (Addr × Obj)} {W : WX} {X : Cx} {s : SCx} {st : Stmt}, XOk tb g fa cc k pn W X s → X.stack = X.env :: X.outer ∧ X.env.frame = some X.env.locals → chkS tb S s st = true → PS X st (tS g pn W (execS tb.P cc S))
  | .nev, pn, W, X, s, st, hx, hst, h => ⟨fun pins s σ H D I ⟨sl, M, μ, Z0, hs, hm, q⟩ => q.elim⟩
  | .expr e, pn, W, X, s, st, hx, hst, h => by
    rw [chkS] at h
    split at h
    · rename_i e1
      rw [asExprS_eq e1]
      obtain ⟨h1, h2⟩ := ands h
      exact s_expr (soundE e hx h2) (sw_none (Option.isNone_iff_eq_none.mp h1) _ _ _)
    · cases h
  | .set i al e, pn, W, X, s, st, hx, hst, h => by
    rw [chkS] at h
    split at h
    · rename_i e1
      rw [asAsg_eq e1]
      split at h
      · rename_i e2
        rw [asName_eq e2]
        simp only [Bool.and_eq_true, decide_eq_true_eq] at h
        obtain ⟨⟨⟨h1, h2⟩, h3⟩, h4⟩ := h
        exact set_ok hx (hx.at_ h1) h2 h3 h4
      · cases h
    · cases h
  | .unp is e, pn, W, X, s, st, hx, hst, h => by
    rw [chkS] at h
    split at h
    · rename_i tg ex pos e1
      rw [asAsg_eq e1]
      simp only [Bool.and_eq_true] at h
      obtain ⟨⟨h1, h2⟩, h3⟩ := h
      have hg := g_ok (pn := pn) hx h1
      have ht : ∃ es n p, tg = .Tuple es n p := by
        unfold chkG at h1
        split at h1
        · rename_i q; cases q
        · split at h1
          · rename_i e2; exact ⟨_, _, _, asTup_eq e2⟩
          · cases h1
      obtain ⟨es, n, p, e2⟩ := ht
      subst e2
      exact s_unp (swap_tup (es := es) (n := n) (p := p) ex pos.line X.env) (stores_tup (Option.isNone_iff_eq_none.mp h2) _) rfl (soundE e hx h3) hg
    · cases h
  | .par _ _ _ _, pn, W, X, s, st, hx, hst, h => by rw [chkS] at h; cases h
  | .setIdx k i e, pn, W, X, s, st, hx, hst, h => by
    rw [chkS] at h
    split at h
    · rename_i e1
      rw [asAsg_eq e1]
      split at h
      · rename_i e2
        rw [asSub_eq e2]
        split at h
        · rename_i e3
          rw [asName_eq e3]
          simp only [Bool.and_eq_true, decide_eq_true_eq] at h
          obtain ⟨⟨⟨⟨h1, h2⟩, h3⟩, h4⟩, h5⟩ := h
          obtain ⟨v1, v2, v3⟩ := hx.vis h2
          exact s_setIdx (hx.at_ h1) v1 v2 v3 h3 (swap_sub _ _ _) (stores_sub _ _) (soundE e hx h4) (soundE i hx h5)
        · cases h
      · cases h
    · cases h
  | .setFld k f e, pn, W, X, s, st, hx, hst, h => by
    rw [chkS] at h
    split at h
    · rename_i e1
      rw [asAsg_eq e1]
      split at h
      · rename_i e2
        rw [asAttr_eq e2]
        split at h
        · rename_i e3
          rw [asName_eq e3]
          simp only [Bool.and_eq_true, decide_eq_true_eq] at h
          obtain ⟨⟨⟨h1, h2⟩, h3⟩, h4⟩ := h
          obtain ⟨v1, v2, v3⟩ := hx.vis h2
          subst h3
          exact s_setFld hx.cls (hx.at_ h1) v1 v2 v3 (swap_att _ _ _) (soundE e hx h4)
        · cases h
      · cases h
    · cases h
  | .aug i op e, pn, W, X, s, st, hx, hst, h => by
    rw [chkS] at h
    split at h
    · rename_i e1
      rw [asAug_eq e1]
      split at h
      · rename_i e2
        rw [asName_eq e2]
        simp only [Bool.and_eq_true, decide_eq_true_eq, Bool.or_eq_true] at h
        obtain ⟨⟨⟨⟨h1, h2⟩, h3⟩, h4⟩, h5⟩ := h
        subst h3
        exact s_aug h4 hx.nd (hx.at_ h1) (hx.locs h2).1 (hx.locs h2).2 (soundE e hx h5)
      · cases h
    · cases h
  | .ife t a b, pn, W, X, s, st, hx, hst, h => by
    rw [chkS] at h
    split at h
    · rename_i e1
      rw [asIfS_eq e1]
      obtain ⟨h1, h3⟩ := ands h
      obtain ⟨h1, h2⟩ := ands h1
      exact s_if (soundT t hx h1).1 (soundSs a hx hst h2) (soundSs b hx hst h3)
    · cases h
  | .for_ t it body, pn, W, X, s, st, hx, hst, h => by
    rw [chkS] at h
    split at h
    · rename_i e1
      rw [asFor_eq e1]
      simp only [Bool.and_eq_true] at h
      obtain ⟨⟨⟨⟨h1, h2⟩, h3⟩, h4⟩, h5⟩ := h
      exact s_for hx.own (hx.calm h1) (soundI it hx h2) (g_ok hx h3) (soundSs body hx hst h5) (fun x => notSet_eq h4 _ x)
    · cases h
  | .ret e, pn, W, X, s, st, hx, hst, h => by
    rw [chkS] at h
    split at h
    · rename_i e1
      rw [asRet_eq e1]
      exact s_ret (soundE e hx h)
    · cases h
  | .retN, pn, W, X, s, st, hx, hst, h => by
    rw [chkS] at h
    split at h
    · rename_i e1
      rw [asRet_eq e1]
      exact s_retN
    · cases h
  | .pass, pn, W, X, s, st, hx, hst, h => by
    rw [chkS, beq_iff_eq] at h
    obtain ⟨p, e⟩ := asWord_0 h
    rw [e]; exact s_pass
  | .brk, pn, W, X, s, st, hx, hst, h => by
    rw [chkS, beq_iff_eq] at h
    obtain ⟨p, e⟩ := asWord_1 h
    rw [e]; exact s_brk
  | .cont, pn, W, X, s, st, hx, hst, h => by
    rw [chkS, beq_iff_eq] at h
    obtain ⟨p, e⟩ := asWord_2 h
    rw [e]; exact s_cont
  | .raise xc es, pn, W, X, s, st, hx, hst, h => by
    rw [chkS] at h
    split at h
    · rename_i e1
      rw [asRaise_eq e1]
      split at h
      · rename_i fn xs cpos e2
        rw [asCall_eq e2]
        split at h
        · rename_i e3
          rw [asName_eq e3]
          simp only [Bool.and_eq_true, decide_eq_true_eq] at h
          obtain ⟨⟨⟨⟨⟨⟨h1, h2⟩, h3⟩, h4⟩, h5⟩, h6⟩, h7⟩ := h
          obtain ⟨xi, hxi, hne⟩ : ∃ xi, tb.P.xcs[xc]? = some xi ∧ xi.fs ≠ [] := by
            split at h4
            · rename_i xi e4
              exact ⟨xi, e4, fun q => by rw [q] at h4; cases h4⟩
            · cases h4
          cases xs with
          | nil => cases h6
          | cons e es' => exact s_raise hxi (hx.xcs _ _ hxi hne) (hx.calm h1) hx.tk (hx.room h1) (hx.glo h2).1 (hx.xcm _ _ h3) (hx.glo h2).2 h5 (soundEs es hx h7)
        · cases h
      · cases h
    · cases h
  | .try_ body hs, pn, W, X, s, st, hx, hst, h => by
    rw [chkS] at h
    split at h
    · rename_i bs hds _ e1
      rw [asTry_eq e1]
      simp only [Bool.and_eq_true] at h
      obtain ⟨⟨⟨h1, h2⟩, h3⟩, h4⟩ := h
      obtain rfl := hx.pns h1
      cases hds with
      | nil => cases h2
      | cons h0 hds => exact s_try hst.1 hst.2 hx.tk hx.exm (fun W' pn' xe tk po => soundSs body (hx.tr tk po) hst h3) (soundHs hs hx hst h4)
    · cases h
  | .clr _, pn, W, X, s, st, hx, hst, h => by rw [chkS] at h; cases h
theorem soundSs : ∀ (S : Ss) {pn : List (Addr × Obj)} {W : WX} {X : Cx} {s : SCx} {sts : List Stmt}, XOk tb g fa cc k pn W X s → X.stack = X.env :: X.outer ∧ X.env.frame = some X.env.locals → chkSs tb S s sts = true → PSs X sts (tS g pn W (execSs tb.P cc S))
  | .nev, pn, W, X, s, sts, hx, hst, h => ⟨fun pins s σ H D I ⟨sl, M, μ, Z0, hs, hm, q⟩ => q.elim⟩
  | .nil, pn, W, X, s, sts, hx, hst, h => by
    have h : sts.isEmpty = true := h
    rw [List.isEmpty_iff] at h
    subst h
    exact s_nil
  | .cons st ss, pn, W, X, s, sts, hx, hst, h => by
    unfold chkSs at h
    split at h
    · rename_i is e1
      have e2 : st = .clr is := by cases st <;> first | cases e1 <;> rfl | cases e1
      subst e2
      exact pss_imp (soundSs ss hx hst h) fun D σ H ⟨sl, M, μ, Z0, hs, hm, q⟩ => ⟨wipe sl is, M, μ, Z0, hs.forgets is, hm, q⟩
    · split at h
      · obtain ⟨h1, h2⟩ := ands h
        exact s_cons (soundS st hx hst h1) (soundSs ss hx hst h2)
      · cases h
theorem soundHs : ∀ (h : Hs) {pn : List (Addr × Obj)} {W : WX} {X : Cx} {s : SCx} {hds : List ExceptHandler}, XOk tb g fa cc k pn W X s → X.stack = X.env :: X.outer ∧ X.env.frame = some X.env.locals → chkHs tb h { s with calm := false } hds = true → DIX.CsOk X hds (csOf g tb.P cc h)
  | .nil, pn, W, X, s, hds, hx, hst, h => by
    have h : hds.isEmpty = true := h
    rw [List.isEmpty_iff] at h
    subst h
    exact .nil
  | .cons xc i body r, pn, W, X, s, hds, hx, hst, h => by
    unfold chkHs at h
    split at h
    · rename_i ty nm b bs hp hs
      split at h
      · rename_i e1
        rw [asName_eq e1]
        simp only [Bool.and_eq_true, decide_eq_true_eq] at h
        obtain ⟨⟨⟨⟨h1, h2⟩, h3⟩, h4⟩, h5⟩ := h
        have hg := hx.glo (x := _) (show s.glo _ = true from h1)
        have nms : Names X _ (.ref (g.xa xc)) := ⟨hg.1, hg.2, .inl (hx.xcm _ _ h2)⟩
        have go : ∀ (a : Addr) (oe : Obj) (cls : Value) (d : Option Addr) (pn' : List (Addr × Obj)), Zc cls d oe → (∃ vs, oe.data = .fields vs) → PSs (X.suite a ((a, oe) :: pn')) (b :: bs) (fun D σ H => ∀ oe, Zc cls d oe → (∃ vs, oe.data = .fields vs) → tS g [(a, oe)] noW (execSs tb.P cc body) D σ H) := fun a oe cls d pn' hz hd =>
          pss_imp (soundSs body (hx.suite (a := a) (oe := oe) (pn' := pn')) hst h4) fun D σ H q => q oe hz hd
        cases i with
        | none => cases nm with
          | none => exact .bare nms go (soundHs r hx hst h5)
          | some _ => cases h3
        | some j => cases nm with
          | none => cases h3
          | some m =>
            dsimp only at h3
            simp only [Bool.and_eq_true, decide_eq_true_eq] at h3
            have hl : X.env.kindOf m = some .local := by
              have q := h3.2
              unfold SCx.loc at q
              show X.env.scope.names.lookup m = some .local
              rw [hx.sc]
              split at q
              · assumption
              · cases q
            exact .named nms hx.nd (hx.at_ h3.1) hl go (soundHs r hx hst h5)
      · cases h
    · cases h
end
end
end DI

/-! DI.I: the head's facts as one test; every def does what the evaluator says -/
namespace DI
open PySem PySem.Spec PyProof.Rows L2
/-- where a def stands -/
inductive At where
  | glo (x : Str) | meth (c m : Str) | prop (c m : Str) | cm (c m : Str)
/-- a classmethod's def -/
def cmA (K : PySem.W.Frag) (C : Addr) (m : Str) : Addr := match PySem.W.findCls K (.ref C) (.type "type") m with
  | some (.get _ (.ref p) _ _) => (match PySem.W.recIn K p "classmethod" with
    | some (.ref g :: _) => g
    | _ => 0)
  | _ => 0
def pa (K : PySem.W.Frag) (C : Addr) (m : Str) : Addr := match PySem.W.findIn K (.ref C) m with
  | some (some (.ref p)) => (match PySem.W.recIn K p "property" with
    | some (.ref g :: _) => g
    | _ => 0)
  | _ => 0
def At.ad (K : PySem.W.Frag) : At → Addr
  | .glo x => He.ga K x
  | .meth c m => He.ma K (He.ga K c) m
  | .prop c m => pa K (He.ga K c) m
  | .cm c m => cmA K (He.ga K c) m
structure FD where
  loc : At
  dfl : List D
  fn : Fn
/-- data as a value -/
def toV : Value → V
  | .none => .non
  | .bool b => .bl b
  | .int i _ => .int i
  | .str x _ => .str x
  | .ref a => .ref a
  | _ => .non
mutual
def relD (K : PySem.W.Frag) : D → Value → Bool
  | .non, .none => true
  | .bl b, .bool c => b == c
  | .int i, .int j _ => decide (i = j)
  | .str x, .str y _ => decide (x = y)
  | .tup xs, .ref a => (match K.lookup a with
    | some ⟨.type c, _, .seq its _, _⟩ => decide (c = "tuple") && decide (its.size ≤ sizeLine) && relDs K xs its.toList
    | _ => false)
  | _, _ => false
def relDs (K : PySem.W.Frag) : List D → List Value → Bool
  | [], [] => true
  | x :: xs, u :: us => relD K x u && relDs K xs us
  | _, _ => false
end
def cellsOf (sc : Scope) : List Str := (sc.names.map (·.1)).filter fun x => sc.names.lookup x == some .cell
def scx (N : List Str) (sc : Scope) : SCx := ⟨N, sc, true, cellsOf sc⟩
def scOk (N ps : List Str) (sc : Scope) : Bool := (match sc.kind with | .function => true | _ => false) && !sc.isCoroutine && !sc.isGenerator && decide N.Nodup && decide (N.take ps.length = ps) &&
  (ps.all fun x => match sc.names.lookup x with | some .local => true | some .cell => true | _ => false) && sc.names.all fun y => !(y.2 == .free)
def dflOk (K : PySem.W.Frag) (dV : Value) (dfl : List D) : Bool := match dV with
  | .none => dfl.isEmpty
  | .ref T => (match K.lookup T with
    | some ⟨_, _, .seq its _, _⟩ => !dfl.isEmpty && relDs K dfl its.toList
    | _ => false)
  | _ => false
def okFn (K : PySem.W.Frag) (tb : Tab) (d : FD) : Bool := PySem.W.keepIn K (.ref (d.loc.ad K)) && (match K.lookup (d.loc.ad K) with
  | some ⟨_, _, .func fd, _⟩ => (match fd.body with
    | .stmts body => chkSs tb d.fn.body (scx d.fn.N fd.scope) body
    | _ => false) && PySem.W.codeIn K fd.code fd.qualname && decide (fd.globals = mainGlobals) && fd.closure.isEmpty && decide (fd.builtins = builtinsNs) && dflOk K fd.defaults d.dfl && scOk d.fn.N (fd.params.args.map (·.arg)) fd.scope &&
      plainPar fd.params && decide (fd.params.args.length = d.fn.np) && decide (d.dfl.length ≤ d.fn.np) && decide (d.fn.np ≤ d.fn.N.length)
  | _ => false)
theorem relV_toV {K : PySem.W.Frag} {d : D} {u : Value} (h : relD K d u = true) : RelV (toV u) u := by
  cases u with
  | none => rfl
  | bool _ => rfl
  | int _ t => exact ⟨t, rfl⟩
  | str _ t => exact ⟨t, rfl⟩
  | ref _ => rfl
  | _ => cases d <;> (rw [relD] at h <;> first | cases h | (intros; contradiction))
mutual
theorem relD_ok {g : Gx} {H : Hp} {Z : Addr → Prop} : ∀ (d : D) {u : Value}, relD g.K d u = true → RD g H Z d (toV u) ∧ RelV (toV u) u
  | .non, u, h => by
    refine ⟨?_, relV_toV h⟩
    cases u <;> first | exact .non | (rw [relD] at h <;> first | cases h | (intros; contradiction))
  | .bl b, u, h => by
    refine ⟨?_, relV_toV h⟩
    cases u with
    | bool c => rw [relD, beq_iff_eq] at h; subst h; exact .bl _
    | _ => rw [relD] at h <;> first | cases h | (intros; contradiction)
  | .int i, u, h => by
    refine ⟨?_, relV_toV h⟩
    cases u with
    | int c t => rw [relD, decide_eq_true_eq] at h; subst h; exact .int _
    | _ => rw [relD] at h <;> first | cases h | (intros; contradiction)
  | .str i, u, h => by
    refine ⟨?_, relV_toV h⟩
    cases u with
    | str c t => rw [relD, decide_eq_true_eq] at h; subst h; exact .str _
    | _ => rw [relD] at h <;> first | cases h | (intros; contradiction)
  | .tup xs, u, h => by
    refine ⟨?_, relV_toV h⟩
    cases u with
    | ref a =>
      rw [relD] at h
      cases q : g.K.lookup a with
      | none => rw [q] at h; cases h
      | some o =>
        obtain ⟨oc, od, dt, osl⟩ := o
        rw [q] at h
        cases oc with
        | type c => cases dt with
          | seq its n =>
            simp only [Bool.and_eq_true, decide_eq_true_eq] at h
            obtain ⟨⟨h1, h2⟩, h3⟩ := h
            subst h1
            obtain ⟨r1, r2⟩ := relDs_ok xs h3
            exact .ktup ⟨_, its, n, q, rfl, rfl, h2, r2⟩ r1
          | _ => cases h
        | _ => cases h
    | _ => rw [relD] at h <;> first | cases h | (intros; contradiction)
  | .lst _, u, h => by rw [relD] at h <;> first | cases h | (intros; contradiction)
  | .ins _ _, u, h => by rw [relD] at h <;> first | cases h | (intros; contradiction)
  | .scr _, u, h => by rw [relD] at h <;> first | cases h | (intros; contradiction)
  | .cls _, u, h => by rw [relD] at h <;> first | cases h | (intros; contradiction)
theorem relDs_ok {g : Gx} {H : Hp} {Z : Addr → Prop} : ∀ (ds : List D) {us : List Value}, relDs g.K ds us = true → RDs g H Z ds (us.map toV) ∧ Vals (us.map toV) us
  | [], [], _ => ⟨.nil, .nil⟩
  | [], _ :: _, h => by rw [relDs] at h <;> first | cases h | (intros; contradiction)
  | _ :: _, [], h => by rw [relDs] at h <;> first | cases h | (intros; contradiction)
  | d :: ds, u :: us, h => by
    rw [relDs] at h
    obtain ⟨h1, h2⟩ := ands h
    obtain ⟨r1, r2⟩ := relD_ok d h1
    obtain ⟨r3, r4⟩ := relDs_ok ds h2
    exact ⟨.cons r1 r3, .cons r2 r4⟩
end
/-- what the test says of a def -/
structure FnF (K : PySem.W.Frag) (tb : Tab) (d : FD) (oc : Value) (od : Option Addr) (osl : Array (Option Value)) (name qual : Str) (params : Arguments) (body : List Stmt) (scope : Scope) (dV kV doc pm : Value) (an : Option Addr) (cdv ct : Value) (ps : List Str) : Prop where
  lk : K.lookup (d.loc.ad K) = some ⟨oc, od, .func (PySem.W.fnOf name qual params body scope dV kV doc pm an cdv ct), osl⟩
  kp : PySem.W.keepIn K (.ref (d.loc.ad K)) = true
  chk : chkSs tb d.fn.body (scx d.fn.N scope) body = true
  cd : PySem.W.codeIn K cdv qual = true
  dfl : dflOk K dV d.dfl = true
  sc : FnScope d.fn.N ps scope
  par : plainPar params = true
  pse : params.args.map (·.arg) = ps
  np : ps.length = d.fn.np
  dz : d.dfl.length ≤ d.fn.np
  nz : d.fn.np ≤ d.fn.N.length
theorem scOk_ok {N ps : List Str} {sc : Scope} (h : scOk N ps sc = true) : FnScope N ps sc := by
  unfold scOk at h
  simp only [Bool.and_eq_true, Bool.not_eq_true', decide_eq_true_eq, List.all_eq_true] at h
  obtain ⟨⟨⟨⟨⟨⟨h1, h2⟩, h3⟩, h4⟩, h5⟩, h6⟩, h7⟩ := h
  refine ⟨?_, h2, h3, h4, h5, fun x hx => ?_, fun y hy e => ?_⟩
  · split at h1
    · assumption
    · cases h1
  · have := h6 x hx
    split at this
    · exact .inl (by assumption)
    · exact .inr (by assumption)
    · cases this
  · have := h7 y hy
    rw [e] at this
    exact absurd this (by decide)
theorem okFn_ok {K : PySem.W.Frag} {tb : Tab} {d : FD} (h : okFn K tb d = true) : ∃ oc od osl name qual params body scope dV kV doc pm an cdv ct ps, FnF K tb d oc od osl name qual params body scope dV kV doc pm an cdv ct ps := by
  unfold okFn at h
  obtain ⟨kp, h⟩ := ands h
  cases q : K.lookup (d.loc.ad K) with
  | none => rw [q] at h; cases h
  | some o =>
    obtain ⟨oc, od, dt, osl⟩ := o
    rw [q] at h
    cases dt with
    | func fd =>
      obtain ⟨n1, n2, n3, n4, n5, n6, n7, n8, n9, n10, n11, n12, n13, n14, n15⟩ := fd
      simp only [Bool.and_eq_true, decide_eq_true_eq, List.isEmpty_iff] at h
      obtain ⟨⟨⟨⟨⟨⟨⟨⟨⟨⟨h1, h2⟩, h3⟩, h4⟩, h5⟩, h6⟩, h7⟩, h8⟩, h9⟩, h10⟩, h11⟩ := h
      cases n4 with
      | stmts body =>
        subst h3 h4 h5
        exact ⟨oc, od, osl, n1, n2, n3, body, n5, n8, n9, n10, n11, n12, n13, n14, _, q, kp, h1, h2, h6, scOk_ok h7, h8, rfl, by rw [List.length_map]; exact h9, h10, h11⟩
      | _ => cases h1
    | _ => cases h
end DI

/-! DI.I2: every def does what the evaluator says -/
namespace DI
open PySem PySem.Spec PyProof.Rows L2
/-- a program's tables -/
structure Pk where
  cls : List Cl
  xcs : List Xc
  exm : List (Nat × Nat × Bool)
  fds : List FD
  fnm : List (Str × Nat)
  clm : List (Str × Nat)
  xcm : List (Str × Nat)
  free : List Str
  file : Str
def Pk.prg (p : Pk) : Prg := ⟨p.cls, p.xcs, p.fds.map fun d => (d.fn.np, d.dfl), p.exm⟩
def Pk.tab (p : Pk) : Tab := ⟨p.prg, p.fnm, p.clm, p.xcm, p.free⟩
def Pk.fs (p : Pk) : Nat → Option Fn := fun f => (p.fds[f]?).map (·.fn)
def Pk.fa (p : Pk) (K : PySem.W.Frag) (f : Nat) : Addr := match p.fds[f]? with
  | some d => d.loc.ad K
  | none => 0
def Pk.ca (p : Pk) (K : PySem.W.Frag) (c : Nat) : Addr := match p.cls[c]? with
  | some i => He.ga K i.name
  | none => 0
def Pk.xa (p : Pk) (K : PySem.W.Frag) (c : Nat) : Addr := match p.xcs[c]? with
  | some i => He.ga K i.name
  | none => 0
def Pk.gx (p : Pk) (K : PySem.W.Frag) : Gx := ⟨K, p.ca K, p.xa K⟩
def okProp (K : PySem.W.Frag) (C : Addr) (m : Str) (f : Addr) : Bool := match PySem.W.findIn K (.ref C) m with
  | some (some (.ref p)) => decide (PySem.W.specialIn K (.ref p) "__get__" = some (some (.builtin "property.__get__"))) && decide (PySem.W.takesIn K (.ref p) = some true) && (match PySem.W.recIn K p "property" with
    | some (.ref g :: _) => decide (g = f)
    | _ => false)
  | _ => false
def okCms (K : PySem.W.Frag) (C : Addr) (m : Str) (f : Addr) : Bool := PySem.W.readsIn K C (.type "type") && decide (PySem.W.specialIn K (.ref C) "__getattribute__" = some (some (.builtin "type.__getattribute__"))) && (match PySem.W.findCls K (.ref C) (.type "type") m with
  | some (.get (.builtin b) (.ref p) .none (.ref C')) => decide (b = "classmethod.__get__") && decide (C' = C) && (match PySem.W.recIn K p "classmethod" with
    | some (.ref g :: _) => decide (g = f)
    | _ => false)
  | _ => false) && PySem.W.fnIn K f
theorem okCms_ok {K : PySem.W.Frag} {C : Addr} {m : Str} {f : Addr} (h : okCms K C m f = true) : ∃ mc p, ClX.CRead K C mc ∧ ClX.CMet K C mc m p f := by
  unfold okCms at h
  simp only [Bool.and_eq_true, decide_eq_true_eq] at h
  obtain ⟨⟨⟨h1, h2⟩, h3⟩, h4⟩ := h
  split at h3
  · rename_i b p C' e1
    simp only [Bool.and_eq_true, decide_eq_true_eq] at h3
    obtain ⟨⟨k1, k2⟩, k3⟩ := h3
    subst k1 k2
    split at k3
    · rename_i gg rest e2
      rw [decide_eq_true_eq] at k3
      subst k3
      exact ⟨_, p, ⟨h1, h2⟩, ⟨e1, ⟨rest, e2⟩, h4⟩⟩
    · cases k3
  · cases h3
def okCls (K : PySem.W.Frag) (fa : Nat → Addr) (i : Cl) : Bool := (He.Fa.cls i.name).ok K && PySem.W.makesIn K (He.ga K i.name) && He.eqO (PySem.W.findIn K (.ref (He.ga K i.name)) "__init__") (some (some (.ref (fa i.init)))) && PySem.W.isFn K (.ref (fa i.init)) && PySem.W.keepIn K (.ref (He.ga K i.name)) &&
  (i.meths.all fun q => He.eqO (PySem.W.findIn K (.ref (He.ga K i.name)) q.1) (some (some (.ref (fa q.2)))) && PySem.W.isFn K (.ref (fa q.2)) && PySem.W.keepIn K (.ref (fa q.2))) &&
  (i.props.all fun q => okProp K (He.ga K i.name) q.1 (fa q.2)) && (i.flds.all fun f => He.eqO (PySem.W.findIn K (.ref (He.ga K i.name)) f) (some none)) && (i.cms.all fun q => okCms K (He.ga K i.name) q.1 (fa q.2)) &&
  (!i.isk || (He.eqO (PySem.W.findIn K (.ref (He.ga K i.name)) "__class__") (some (some (.builtin "object.__class__"))) && He.eqO (PySem.W.specialIn K (.builtin "object.__class__") "__get__") (some (some (.builtin "getset_descriptor.__get__"))) && decide (PySem.W.takesIn K (.builtin "object.__class__") = some true) && decide (PySem.W.mroIn K (He.ga K i.name) (.type "object") = some true)))
/-- an exception class of the text -/
def okXc (K : PySem.W.Frag) (file : Str) (i : Xc) : Bool := i.fs.isEmpty || (L2.xfB K (He.ga K i.name) && DIX.oexB K (He.ga K i.name) && (match K.lookup (He.ma K (He.ga K i.name) "__init__") with
  | some ⟨_, _, .func fd, _⟩ => (match fd.body, fd.closure, fd.code, fd.params.args.map (·.arg), fd.defaults with
    | .stmts body, [(cn, cc)], .ref cda, me :: ps, .none => decide (cn = ("__class__" : Str)) && decide (ps = i.fs) && decide (fd.globals = mainGlobals) && decide (fd.builtins = builtinsNs) && PySem.W.codeIn K (.ref cda) fd.qualname && plainPar fd.params &&
      NdefX.nscB (me :: i.fs ++ [("__class__" : Str)]) (me :: i.fs) [("__class__" : Str)] fd.scope && (me :: i.fs).all DIX.nameB && DIX.bodyB me i.fs body && decide (fd.scope.names.lookup ("super" : Str) = some .globalImplicit) &&
      (match K.lookup cc with
        | some ⟨_, _, .cell (some (.ref C)), _⟩ => decide (C = He.ga K i.name)
        | _ => false) && (match K.lookup cda with
        | some ⟨_, _, .fields vs, _⟩ => (match (vs[2]? : Option Value) with
          | some (Value.str f _) => f == file
          | _ => false)
        | _ => false)
    | _, _, _, _, _ => false)
  | _ => false) && (He.Fa.free "super").ok K && decide (PySem.W.ks_superIn K (He.ga K i.name) (He.ga K i.name) "__init__" = some (some (.builtin "Exception.__init__"))) && He.eqO (PySem.W.nsIn K PySem.cStatics "thirdparty.any") (some none) &&
    (i.fs.all fun f => He.eqO (PySem.W.findIn K (.ref (He.ga K i.name)) f) (some none)) && decide (i.fs.length ≤ 100) && He.eqO (PySem.W.findIn K (.ref (He.ga K i.name)) "__init__") (some (some (.ref (He.ma K (He.ga K i.name) "__init__")))) &&
    decide (PySem.W.typeIn K (.ref (He.ma K (He.ga K i.name) "__init__")) = some (.type "function")))
theorem okXc_ok {P : Program} {K : PySem.W.Frag} {h : Heap} {mg : Str → Option Value} {file : Str} {i : Xc} (X : K.In h) (G : h.Ns mainGlobals mg) (hf : P.main.file = file) (ht : (P.main.scope.names.lookup ("super" : Str)).isSome = false) (ok : okXc K file i = true) (hne : i.fs ≠ []) : XcF P K mg (He.ga K i.name) i.fs := by
  unfold okXc at ok
  rw [Bool.or_eq_true] at ok
  rcases ok with q | ok
  · rw [List.isEmpty_iff] at q; exact absurd q hne
  · simp only [Bool.and_eq_true, decide_eq_true_eq] at ok
    obtain ⟨⟨⟨⟨⟨⟨⟨⟨⟨o1, o2⟩, o3⟩, o4⟩, o5⟩, o6⟩, o7⟩, o8⟩, o9⟩, o10⟩ := ok
    refine ⟨L2.xfB_ok o1, ?_⟩
    cases q : K.lookup (He.ma K (He.ga K i.name) "__init__") with
    | none => rw [q] at o3; cases o3
    | some o =>
      obtain ⟨oc, od, dt, osl⟩ := o
      rw [q] at o3
      cases dt with
      | func fd =>
        obtain ⟨n1, n2, n3, n4, n5, n6, n7, n8, n9, n10, n11, n12, n13, n14, n15⟩ := fd
        dsimp only at o3
        split at o3
        · rename_i body cn cc cda me ps e2
          simp only [Bool.and_eq_true, decide_eq_true_eq] at o3
          obtain ⟨⟨⟨⟨⟨⟨⟨⟨⟨⟨⟨c1, c2⟩, c3⟩, c4⟩, c5⟩, c6⟩, c7⟩, c8⟩, c9⟩, c10⟩, c11⟩, c12⟩ := o3
          subst c1 c2 c3 c4
          refine ⟨_, cda, cc, me, n1, n2, n3, body, n5, oc, od, osl, n9, n10, n11, n12, n14, ⟨q, c5, c6, e2, NdefX.nscope_by c7, c8, c9, c10, ?_, ?_, ht, He.free_ok X G o4, o5, He.eqO_ok o6, DIX.oexB_ok o2, fun f hf => He.eqO_ok (List.all_eq_true.mp o7 f hf), o8, hne⟩, He.eqO_ok o9, o10⟩
          · split at c11
            · rename_i e3
              rw [decide_eq_true_eq] at c11
              subst c11
              exact ⟨_, _, _, e3⟩
            · cases c11
          · split at c12
            · rename_i e3
              split at c12
              · rename_i e4
                exact ⟨_, _, _, _, _, _, e3, e4, by rw [hf, beq_iff_eq]; exact (beq_iff_eq.mp c12).symm⟩
              · cases c12
            · cases c12
        · cases o3
      | _ => cases o3
def okAll (p : Pk) (K : PySem.W.Frag) : Bool := (p.fds.all fun d => okFn K p.tab d) && (p.cls.all fun i => okCls K (p.fa K) i) && (p.free.all fun x => (He.Fa.free x).ok K) &&
  (p.fnm.all fun q => (He.Fa.glo q.1).ok K && decide (He.ga K q.1 = p.fa K q.2) && PySem.W.keepIn K (.ref (p.fa K q.2))) && (p.clm.all fun q => (He.Fa.glo q.1).ok K && decide (He.ga K q.1 = p.ca K q.2)) &&
  (p.xcs.all fun i => okXc K p.file i) && (p.xcm.all fun q => (He.Fa.glo q.1).ok K && decide (He.ga K q.1 = p.xa K q.2)) && p.exm.all fun q => decide (PySem.W.exmOne K (.ref (p.xa K q.1)) (.ref (p.xa K q.2.1)) = some q.2.2)
theorem cls_of {K : PySem.W.Frag} {p : Pk} (h : okAll p K = true) (c : Nat) (i : Cl) (e : p.prg.cl c = some i) : ClsF p.prg (p.gx K) (p.fa K) K c i := by
  have e : p.cls[c]? = some i := e
  unfold okAll at h
  simp only [Bool.and_eq_true, List.all_eq_true] at h
  have hi := h.1.1.1.1.1.1.2 i (List.mem_of_getElem? e)
  have ec : (p.gx K).ca c = He.ga K i.name := by show p.ca K c = _; unfold Pk.ca; rw [e]
  unfold okCls at hi
  simp only [Bool.and_eq_true, List.all_eq_true] at hi
  obtain ⟨⟨⟨⟨⟨⟨⟨⟨⟨h1, h2⟩, h3⟩, h4⟩, h5⟩, h6⟩, h7⟩, h8⟩, h9⟩, h10⟩ := hi
  refine ⟨?_, ?_, fun m f e => ?_, fun m f e => ?_, fun f e => ?_, fun m f e => ?_, fun e => ?_⟩
  · rw [ec]; exact He.cls_ok h1
  · rw [ec]; exact ⟨h2, He.eqO_ok h3, h4, h5⟩
  · rw [ec]
    have := h6 (m, f) (PySem.mem_of_lookup e)
    exact ⟨He.eqO_ok this.1.1, this.1.2, this.2⟩
  · rw [ec]
    have := h7 (m, f) (PySem.mem_of_lookup e)
    unfold okProp at this
    split at this
    · rename_i q e1
      simp only [Bool.and_eq_true, decide_eq_true_eq] at this
      obtain ⟨⟨k1, k2⟩, k3⟩ := this
      split at k3
      · rename_i gg rest e2
        rw [decide_eq_true_eq] at k3
        exact ⟨q, e1, k1, k2, rest, by rw [e2, k3]⟩
      · cases k3
    · cases this
  · rw [ec]
    exact He.eqO_ok (h8 f (List.contains_iff_mem.mp e))
  · rw [ec]
    exact okCms_ok (h9 (m, f) (PySem.mem_of_lookup e))
  · rw [ec]
    rw [e] at h10
    simp only [Bool.not_true, Bool.false_or, Bool.and_eq_true, decide_eq_true_eq] at h10
    obtain ⟨⟨⟨k1, k2⟩, k3⟩, k4⟩ := h10
    exact ⟨He.eqO_ok k1, He.eqO_ok k2, k3, k4⟩
/-- what the evaluator says of a body -/
theorem prd_app {α β : Type} {F : α → β → Prop} : ∀ {l : List α} {m : List β} {l' : List α} {m' : List β}, Paired F l m → Paired F l' m' → Paired F (l ++ l') (m ++ m')
  | _, _, _, _, .nil, h => h
  | _, _, _, _, .cons a b, h => .cons a (prd_app b h)
theorem prd_len {α β : Type} {F : α → β → Prop} : ∀ {l : List α} {m : List β}, Paired F l m → l.length = m.length
  | _, _, .nil => rfl
  | _, _, .cons _ r => congrArg Nat.succ (prd_len r)
theorem prd_get {α β : Type} {F : α → β → Prop} : ∀ {l : List α} {m : List β} {i : Nat} {a : α}, Paired F l m → l[i]? = some a → ∃ b, m[i]? = some b ∧ F a b
  | _, _, _, _, .nil, e => by simp at e
  | _, _, 0, _, .cons h _, e => by simp at e; subst e; exact ⟨_, rfl, h⟩
  | _, _, i + 1, _, .cons _ r, e => by
    obtain ⟨v, h1, h2⟩ := prd_get (i := i) r (by simpa using e)
    exact ⟨v, by simpa using h1, h2⟩
theorem prd_ps {g : Gx} {Z0 : Addr → Prop} {M : Sto} {μ : List Addr} {H : Hp} : ∀ {ds : List D} {vs : List V}, RDs g H (Zof Z0 M μ) ds vs → Paired (RN g [] Z0 M μ H) (ds.map DV.p) vs
  | _, _, .nil => .nil
  | _, _, .cons h r => .cons (.p h) (prd_ps r)
theorem dfl_looks {K : PySem.W.Frag} {dV : Value} {dfl : List D} (h : dflOk K dV dfl = true) : ∃ (its : List Value) (o : Option (Array Value)), relDs K dfl its = true ∧ (o.getD #[]).toList = its ∧
    ∀ {M : Model} {hp : Heap} {α : Type} (k : Option (Array Value) → Sem α) (r : α), K.In hp → PySem.W.Looks M hp (k o) r → PySem.W.Looks M hp (seqItems? dV >>= k) r := by
  unfold dflOk at h
  split at h
  · rw [List.isEmpty_iff] at h
    subst h
    refine ⟨[], none, by rw [relDs], rfl, fun k r _ l => ?_⟩
    exact l
  · rename_i T
    cases q : K.lookup T with
    | none => rw [q] at h; cases h
    | some o =>
      obtain ⟨oc, od, dt, osl⟩ := o
      rw [q] at h
      cases dt with
      | seq its n => exact ⟨its.toList, some its, (ands h).2, rfl, fun k r X l => looks_items X q rfl l⟩
      | _ => cases h
  · cases h
theorem relDs_len {K : PySem.W.Frag} : ∀ {ds : List D} {us : List Value}, relDs K ds us = true → us.length = ds.length
  | [], [], _ => rfl
  | [], _ :: _, h => by rw [relDs] at h <;> first | cases h | (intros; contradiction)
  | _ :: _, [], h => by rw [relDs] at h <;> first | cases h | (intros; contradiction)
  | d :: ds, u :: us, h => by
    rw [relDs] at h
    exact congrArg Nat.succ (relDs_len (ands h).2)
theorem slots_start {g : Gx} {Z0 : Addr → Prop} {M : Sto} {μ : List Addr} {H : Hp} {as : List DV} {vs : List V} {N : List Str} (h : Paired (RN g [] Z0 M μ H) as vs) : RSl g [] Z0 M μ H (as.map some ++ List.replicate (N.length - as.length) none) (L2.start N vs) := by
  have hl := prd_len h
  unfold L2.start
  refine ⟨by simp [hl], fun i x e => ?_⟩
  by_cases hi : i < as.length
  · rw [List.getElem?_append_left (by simpa using hi), List.getElem?_map] at e
    cases q : as[i]? with
    | none => rw [q] at e; cases e
    | some a =>
      rw [q] at e; cases e
      obtain ⟨v, e1, e2⟩ := prd_get h q
      exact ⟨v, by rw [List.getElem?_append_left (by simpa [← hl] using hi), List.getElem?_map, e1]; rfl, e2⟩
  · rw [List.getElem?_append_right (by simpa using hi), List.getElem?_replicate] at e
    split at e <;> cases e
theorem RM.cut_at {g : Gx} {Z0 : Addr → Prop} {M1 : Sto} {μ ν : List Addr} {H : Hp} {n : Nat} (hn : μ.length = n) (m : RM g Z0 M1 (μ ++ ν) H) : RM g Z0 (M1.take n) μ H := by
  have c := m.cut n
  rw [← hn, List.take_left] at c
  rw [← hn]; exact c
/-- from a body's end to its caller -/
theorem end_ok {g : Gx} {Z0 : Addr → Prop} {M : Sto} {μ : List Addr} {H : Hp} {r : SRes} {Q : VK} {E : XK} (hm : RM g Z0 M μ H)
    (h : match endR M.length r with
      | .ok a M' => ∀ H' v, RM g Z0 M' μ H' → Stp M μ H M' μ H' → RR g Z0 M' μ H' a v → Fr g Z0 M' μ H H' a v → Q v H'
      | .exc x M' => ∀ dx H', RM g Z0 M' μ H' → Stp M μ H M' μ H' → RX g Z0 M' μ H' x dx → E (.ref (g.xa x.c)) (some dx) H'
      | .bad => False) : Sst g [] (fun cls d _ H => E cls d H) Z0 M μ H r { nx := fun _ H' => Q .non H', rt := Q } := by
  cases r with
  | nx sl M1 =>
    intro μ' σ' H' m1 s1 _
    obtain ⟨ν, rfl⟩ := s1.pre
    obtain ⟨q1, q2, _⟩ := back_own hm m1 s1
    exact h H' .non q1 q2 (.p .non) (Fr.not rfl)
  | bk sl M1 => exact h.elim
  | ct sl M1 => exact h.elim
  | bad => exact h.elim
  | exc x sl M1 =>
    intro μ' σ' dx H' m1 s1 _ rx
    obtain ⟨ν, rfl⟩ := s1.pre
    obtain ⟨q1, q2, _⟩ := back_own hm m1 s1
    obtain ⟨ws, r1, r2, r3⟩ := rx
    exact h dx H' q1 q2 ⟨ws, r1, fun q => r2 (zof_take q), r3.mono (fun _ _ e _ => e) fun b _ _ q z => q (zof_take z)⟩
  | rt a M1 =>
    intro μ' v H' m1 s1 ra fa
    obtain ⟨ν, rfl⟩ := s1.pre
    obtain ⟨q1, q2, q3⟩ := back_own hm m1 s1
    cases a with
    | p fr d =>
      cases ra with | p rd =>
      refine h H' v q1 q2 (.p (rd.mono (fun _ _ e _ => e) fun b _ _ q z => q (zof_take z))) fun d' e b eb => ?_
      obtain ⟨f1, f2, f3⟩ := fa d' e b eb
      refine ⟨f1, f2.cut_at hm.len, fun nt => ?_⟩
      obtain ⟨o, f4, f5⟩ := f3 nt
      exact ⟨o, f4, f5.mono (fun _ _ e _ => e) fun c _ _ q z => q (zof_take z)⟩
    | own k =>
      cases ra with | @own _ ad hk =>
      have h : match (if k < M.length then Res.ok (RV.own k) (M1.take M.length) else match M1[k]? with
        | some (.live d) => .ok (.p true d) (M1.take M.length)
        | some (.dead d) => .ok (.p false d) (M1.take M.length)
        | none => .bad) with
      | .ok a M' => ∀ H' v, RM g Z0 M' μ H' → Stp M μ H M' μ H' → RR g Z0 M' μ H' a v → Fr g Z0 M' μ H H' a v → Q v H'
      | .exc x M' => ∀ dx H', RM g Z0 M' μ H' → Stp M μ H M' μ H' → RX g Z0 M' μ H' x dx → E (.ref (g.xa x.c)) (some dx) H'
      | .bad => False := h
      by_cases lt : k < M.length
      · rw [if_pos lt] at h
        refine h H' _ q1 q2 (.own ?_) Fr.own
        rw [List.getElem?_append_left (by rw [hm.len]; exact lt)] at hk
        exact hk
      · rw [if_neg lt] at h
        cases ek : M1[k]? with
        | none => rw [ek] at h; exact h.elim
        | some c =>
          obtain ⟨k1, k2⟩ := q3 k ad c (by omega) ek hk
          rw [ek] at h
          cases c with
          | live d =>
            obtain ⟨k3, k4, k5⟩ := k2 d rfl
            refine h H' _ q1 q2 (.p k1) fun d' e b eb => ?_
            cases eb
            cases e
            exact ⟨k3, k4, k5⟩
          | dead d => exact h H' _ q1 q2 (.p k1) (Fr.not rfl)
section
variable {P : Program} {w : World} {K : PySem.W.Frag} {mg : Str → Option Value} {base : Heap} {p : Pk}
/-- the program's file and top -/
def FileF (P : Program) (p : Pk) : Prop := P.main.file = p.file ∧ (P.main.scope.names.lookup ("super" : Str)).isSome = false
theorem xok_of {N ps : List Str} {qual : Str} {scope : Scope} {f : Addr} {cdv : Value} {A : Around} {outer : List Env} {s : Shared} {H : Hp} {E : XK} {cc : Orc} {k : Nat} (X : K.In base) (G : base.Ns mainGlobals mg) (hP : FileF P p) (ok : okAll p K = true) (S : FnScope N ps scope)
    (hr : Room (k + 2) (A.deeper (envOfC qual scope s.heap.objs.size f cdv))) (ih : ∀ f, FnR P w K mg base (L2.CX P w) k (p.fa K f) (spC (p.gx K) (callR p.prg cc f))) :
    XOk p.tab (p.gx K) (p.fa K) cc k [] (fun cls d _ H => E cls d H) (cxOf (L2.CX P w) P w K mg base N qual scope f cdv A outer s H E) (scx N scope) := by
  have okb := ok
  unfold okAll at ok
  simp only [Bool.and_eq_true, List.all_eq_true, decide_eq_true_eq] at ok
  obtain ⟨⟨⟨⟨⟨⟨⟨o1, o2⟩, o3⟩, o4⟩, o5⟩, o6⟩, o7⟩, o8⟩ := ok
  exact {
    K := rfl
    N := rfl
    nd := S.nd
    sc := rfl
    calm := fun _ => rfl
    tk := takes_of rfl rfl rfl rfl
    un := by have := hr.un; show (A.deeper _).units + 100 < _; omega
    room := fun _ => hr
    cel := fun x _ => rfl
    free := fun n hn => He.free_ok X G (o3 n (List.contains_iff_mem.mp hn))
    fnm := fun n f e => by
      obtain ⟨⟨k1, k2⟩, k3⟩ := o4 (n, f) (PySem.mem_of_lookup e)
      exact ⟨by rw [← k2]; exact He.glo_ok X G k1, k3⟩
    clm := fun n c e => by
      obtain ⟨k1, k2⟩ := o5 (n, c) (PySem.mem_of_lookup e)
      show mg n = some (.ref (p.ca K c))
      rw [← k2]; exact He.glo_ok X G k1
    fns := ih
    cls := cls_of okb
    own := passes_of rfl
    xcm := fun n c e => by
      obtain ⟨k1, k2⟩ := o7 (n, c) (PySem.mem_of_lookup e)
      show mg n = some (.ref (p.xa K c))
      rw [← k2]; exact He.glo_ok X G k1
    exm := fun i j b e => by
      unfold exmD at e
      cases q : (p.prg.exm.find? fun q => q.1 == i && q.2.1 == j) with
      | none => rw [show p.tab.P.exm = p.prg.exm from rfl, q] at e; cases e
      | some r =>
        rw [show p.tab.P.exm = p.prg.exm from rfl, q] at e
        have h1 := List.find?_some q
        have h2 := o8 r (List.mem_of_find?_eq_some q)
        simp only [Bool.and_eq_true, beq_iff_eq] at h1
        obtain ⟨h3, h4⟩ := h1
        cases e
        rw [← h3, ← h4]
        exact h2
    pin := fun q hq => by cases hq
    pns := fun _ => rfl
    xcs := fun c i e hne => by
      have e : p.xcs[c]? = some i := e
      have ex : (p.gx K).xa c = He.ga K i.name := by show p.xa K c = _; unfold Pk.xa; rw [e]
      rw [ex]
      exact okXc_ok X G hP.1 hP.2 (o6 i (List.mem_of_getElem? e)) hne }
theorem fn_ok {cc : Orc} {k : Nat} {d : FD} {oc : Value} {od : Option Addr} {osl : Array (Option Value)} {name qual : Str} {params : Arguments} {body : List Stmt} {scope : Scope} {dV kV doc pm : Value} {an : Option Addr} {cdv ct : Value} {ps : List Str} (X : K.In base) (G : base.Ns mainGlobals mg) (hP : FileF P p) (ok : okAll p K = true)
    (ih : ∀ f, FnR P w K mg base (L2.CX P w) k (p.fa K f) (spC (p.gx K) (callR p.prg cc f))) (F : FnF K p.tab d oc od osl name qual params body scope dV kV doc pm an cdv ct ps) :
    FnOk P w K mg base (L2.CX P w) (k + 2 + 1) (d.loc.ad K) (PySem.W.fnOf name qual params body scope dV kV doc pm an cdv ct) ps (spF (p.gx K) d.fn.np (runFn p.prg cc d.fn)) := by
  refine fn_of F.lk F.cd F.sc (fun vs H Q E q => by rw [F.np]; exact q.1) fun A outer s H vs Q E hr hsp => ?_
  obtain ⟨l1, as, M, μ, Z0, h1, h2, h3⟩ := hsp
  have hxo := xok_of (P := P) (w := w) (mg := mg) (qual := qual) (f := d.loc.ad K) (cdv := cdv) (A := A) (outer := outer) (s := s) (H := H) (E := E) (cc := cc) (k := k) X G hP ok F.sc hr ih
  refine ⟨_, soundSs (pn := []) d.fn.body hxo ⟨rfl, rfl⟩ F.chk, as.map some ++ List.replicate (d.fn.N.length - as.length) none, M, μ, Z0, slots_start h1, h2, ?_⟩
  have la : as.length = d.fn.np := by rw [prd_len h1]; exact l1
  unfold runFn at h3
  rw [if_pos la] at h3
  rw [la]
  exact end_ok h2 h3
theorem defs_ok (X : K.In base) (G : base.Ns mainGlobals mg) (hP : FileF P p) (ok : okAll p K = true) : ∀ (n f : Nat), FnR P w K mg base (L2.CX P w) (3 * n) (p.fa K f) (spC (p.gx K) (callR p.prg (run p.prg p.fs n) f))
  | 0, f => fun A outer s H us vs Q E hr e0 r hs => by
    exfalso
    obtain ⟨as, M, μ, Z0, h1, h2, h3⟩ := hs
    unfold callR at h3
    cases q : p.prg.fns[f]? with
    | none => rw [q] at h3; exact h3
    | some x =>
      rw [q] at h3
      dsimp only at h3
      split at h3
      · rename_i q2
        split at q2 <;> cases q2
      · rename_i q2
        split at q2 <;> cases q2
      · exact h3
  | n + 1, f => fun A outer s H us vs Q E hr e0 r hs => by
    obtain ⟨as, M, μ, Z0, h1, h2, h3⟩ := hs
    unfold callR at h3
    cases q : p.fds[f]? with
    | none =>
      have q' : p.prg.fns[f]? = none := by show (p.fds.map _)[f]? = none; rw [List.getElem?_map, q]; rfl
      rw [q'] at h3; exact h3.elim
    | some d =>
      have q' : p.prg.fns[f]? = some (d.fn.np, d.dfl) := by show (p.fds.map _)[f]? = _; rw [List.getElem?_map, q]; rfl
      have ef : p.fa K f = d.loc.ad K := by unfold Pk.fa; rw [q]
      have es : p.fs f = some d.fn := by unfold Pk.fs; rw [q]; rfl
      rw [q'] at h3
      dsimp only at h3
      have okd : okFn K p.tab d = true := by
        have ok := ok
        unfold okAll at ok
        simp only [Bool.and_eq_true, List.all_eq_true] at ok
        exact ok.1.1.1.1.1.1.1 d (List.mem_of_getElem? q)
      obtain ⟨oc, od, osl, name, qual, params, body, scope, dV, kV, doc, pm, an, cdv, ct, ps, F⟩ := okFn_ok okd
      by_cases hc : as.length ≤ d.fn.np ∧ d.fn.np ≤ as.length + d.dfl.length
      · rw [if_pos hc] at h3
        have h3 : match (match p.fs f with
          | some i => runFn p.prg (run p.prg p.fs n) i (as ++ (d.dfl.drop (as.length + d.dfl.length - d.fn.np)).map DV.p) M
          | none => .bad) with
          | .ok a M' => ∀ H' v, RM (p.gx K) Z0 M' μ H' → Stp M μ H M' μ H' → RR (p.gx K) Z0 M' μ H' a v → Fr (p.gx K) Z0 M' μ H H' a v → Q v H'
          | .exc x M' => ∀ dx H', RM (p.gx K) Z0 M' μ H' → Stp M μ H M' μ H' → RX (p.gx K) Z0 M' μ H' x dx → E (.ref ((p.gx K).xa x.c)) (some dx) H'
          | .bad => False := h3
        rw [es] at h3
        dsimp only at h3
        -- the defaults that fill up
        have lv : as.length = vs.length := prd_len h1
        have lu : us.length = vs.length := r.length.symm
        obtain ⟨its, o, rel, eo, hL⟩ := dfl_looks F.dfl
        have li : its.length = d.dfl.length := relDs_len rel
        have nd : ps.Nodup := by rw [← F.sc.pre]; exact F.sc.nd.sublist (List.take_sublist _ _)
        obtain ⟨kk, e1, e2⟩ := bind_gen (fd := PySem.W.fnOf name qual params body scope dV kV doc pm an cdv ct) (us := us) F.par F.pse nd (by rw [F.np, lu, ← lv]; exact hc.1)
        have sz : (o.getD #[]).size = d.dfl.length := by rw [← li, ← eo]; simp
        have e3 := e2 o _ rfl (by rw [sz, F.np]; exact F.dz) (by rw [sz, F.np, lu, ← lv]; exact hc.2)
        rw [eo] at e3
        have ej : us.length + (o.getD #[]).size - ps.length = as.length + d.dfl.length - d.fn.np := by rw [sz, F.np, lu, ← lv]
        rw [ej] at e3
        generalize hj : as.length + d.dfl.length - d.fn.np = j at e3 h3
        have hb : BindsTo s (PySem.W.fnOf name qual params body scope dV kV doc pm an cdv ct) ⟨us, []⟩ (ps.zip (us ++ its.drop j)) := BindsTo.of_looks fun Mo => by
          rw [e1]
          exact hL _ _ (X.keeps fun b o' e => (e0.bs b o' e).1) (.of_pure e3)
        obtain ⟨rd, rv⟩ := relDs_ok (g := p.gx K) (H := H) (Z := Zof Z0 M μ) d.dfl rel
        have pa := prd_app h1 (prd_ps (rd.drop j))
        have rv2 : Vals (vs ++ (its.drop j).map toV) (us ++ its.drop j) := r.append (by rw [List.map_drop]; exact rv.drop j)
        rw [← List.map_drop] at pa
        have F' := fn_ok (P := P) (w := w) (mg := mg) X G hP ok (defs_ok X G hP ok n) F
        rw [ef]
        exact F'.run A outer s H ⟨us, []⟩ (us ++ its.drop j) (vs ++ (its.drop j).map toV) Q E hr e0 hb rv2 ⟨by rw [List.length_append, List.length_map, List.length_drop, li, ← lv]; omega, _, M, μ, Z0, pa, h2, h3⟩
      · rw [if_neg hc] at h3; exact h3.elim
end
end DI

/-! DI.I3: the law's end -/
namespace DI
open PySem PySem.Spec PyProof.Rows L2
/-- the part of the heap, object by object, then what is asked -/
def ford {β : Type} (g : Addr → Option Obj) : List Addr → (PySem.W.Frag → β) → β
  | [], k => k []
  | a :: as, k => match g a with
    | some o => ford g as fun r => k ((a, o) :: r)
    | none => ford g as k
theorem ford_eq {β : Type} {g : Addr → Option Obj} : ∀ (as : List Addr) (k : PySem.W.Frag → β), ford g as k = k (He.frG g as)
  | [], k => rfl
  | a :: as, k => by
    unfold ford
    cases q : g a with
    | none =>
      show ford g as k = _
      rw [ford_eq as k]
      unfold He.frG
      rw [List.filterMap_cons, q]; rfl
    | some o =>
      show ford g as (fun r => k ((a, o) :: r)) = _
      rw [ford_eq as]
      unfold He.frG
      rw [List.filterMap_cons, q]; rfl
def hkD (p : Pk) (as : List Addr) : PySem.W.Hook where
  α := Bool
  obs := fun s => ford s.heap.get? as (okAll p)
  val := fun _ => true
  says := fun _ h => ∃ K : PySem.W.Frag, K.In h ∧ okAll p K = true
  of := fun _ s e => ⟨_, He.frG_in, (ford_eq as (okAll p)).symm.trans e⟩
  keeps := fun _ _ _ ⟨K, hK, c⟩ k => ⟨K, PySem.W.Frag.In.keeps hK k, c⟩
def obD (p : Pk) (as : List Addr) (s : PySem.W.SharedT) : Bool := ford (HandSHeadRun.getT s) as (okAll p)
theorem obD_eq (p : Pk) (as : List Addr) (s : PySem.W.SharedT) : obD p as s = (hkD p as).obs s.abs := by
  have e : HandSHeadRun.getT s = s.abs.heap.get? := funext (HandSHeadRun.getT_eq s)
  show ford (HandSHeadRun.getT s) as (okAll p) = ford s.abs.heap.get? as (okAll p)
  rw [e]
/-- the law's def, run, says True -/
def Says (p : Pk) (f n : Nat) : Prop := ∀ ns : List Int, ns.length ≤ 63 → ∃ fr M, run p.prg p.fs (n + 1) f [.p (.scr ns)] [] = .ok (.p fr (.bl true)) M
theorem law_facts {P : Program} {w : World} {K : PySem.W.Frag} {mg : Str → Option Value} {h : Heap} {fa : Addr} {p : Pk} {f n : Nat} {d : FD} {lw : Str} (X : K.In h) (G : h.Ns mainGlobals mg) (hmg : mg lw = some (.ref fa)) (hP : FileF P p) (ok : okAll p K = true)
    (hf : p.fnm.lookup lw = some f) (hd : p.fds[f]? = some d) (hN : d.fn.N.head? = some ("script" : Str)) (hn : d.fn.np = 1) (hdf : d.dfl = []) (says : Says p f n) :
    ∃ (fd : FuncData) (sp : Sp), (∀ (s : Shared) (u : Value), BindsTo s fd ⟨[u], []⟩ [("script", u)]) ∧
      (∀ (H : Hp) (a : Addr) (ns : List Int), ns.length ≤ 63 → Only H → SqL K H a (ns.map V.int) → sp [.ref a] H (fun v _ => v = .bl true) fun _ _ _ => False) ∧
      ∀ base : Heap, K.In base → base.Ns mainGlobals mg → FnOk P w K mg base (L2.CX P w) (3 * n + 3) fa fd ["script"] sp := by
  have okb := ok
  unfold okAll at okb
  simp only [Bool.and_eq_true, List.all_eq_true, decide_eq_true_eq] at okb
  obtain ⟨⟨⟨⟨⟨⟨⟨o1, o2⟩, o3⟩, o4⟩, o5⟩, o6⟩, o7⟩, o8⟩ := okb
  obtain ⟨⟨k1, k2⟩, k3⟩ := o4 (lw, f) (PySem.mem_of_lookup hf)
  have e1 := hmg.symm.trans (He.glo_ok X G k1)
  have ea : p.fa K f = d.loc.ad K := by unfold Pk.fa; rw [hd]
  have efa : fa = d.loc.ad K := by rw [← ea, ← k2]; cases e1; rfl
  obtain ⟨oc, od, osl, name, qual, params, body, scope, dV, kV, doc, pm, an, cdv, ct, ps, F⟩ := okFn_ok (o1 d (List.mem_of_getElem? hd))
  have eps : ps = [("script" : Str)] := by
    have h1 := F.sc.pre
    have h2 : ps.length = 1 := F.np.trans hn
    rw [h2] at h1
    rw [← h1]
    cases q : d.fn.N with
    | nil => rw [q] at hN; cases hN
    | cons x xs => rw [q] at hN; cases hN; rfl
  subst eps
  refine ⟨PySem.W.fnOf name qual params body scope dV kV doc pm an cdv ct, spF (p.gx K) d.fn.np (runFn p.prg (run p.prg p.fs n) d.fn), fun s u => ?_, fun H a ns hl hO hS => ?_, fun base KX GX => ?_⟩
  · obtain ⟨kk, b1, b2⟩ := bind_gen (fd := PySem.W.fnOf name qual params body scope dV kV doc pm an cdv ct) (us := [u]) F.par F.pse (by decide +kernel) (Nat.le_refl _)
    have hd0 := F.dfl
    rw [hdf] at hd0
    have hdv : dV = .none := by
      unfold dflOk at hd0
      split at hd0
      · rfl
      · split at hd0
        · cases hd0
        · cases hd0
      · cases hd0
    subst hdv
    have e3 := b2 none #[] rfl (Nat.zero_le _) (by simp)
    exact BindsTo.of_looks fun Mo => by
      rw [b1]
      exact .of_pure e3
  · refine ⟨by rw [hn]; rfl, [.p (.scr ns)], [], [], fun _ => False, .cons (.p ?_) .nil, ⟨rfl, fun i j d e a q => by simp at q, fun i d a q => by simp at q, fun i d a q => by simp at q, fun a z => z.elim⟩, ?_⟩
    · have nz : ∀ b, ¬ Zof (fun _ => False) [] [] b := fun b z => z.elim (fun ⟨k, d, q, _⟩ => by simp at q) id
      rcases hS with (q | ⟨o, q⟩) | q
      · rcases hO a with e | ⟨o, xs, e⟩
        · rw [e] at q; cases q
        · rw [e] at q; cases q
      · exact .scr q (nz a)
      · exact .kscr q
    · obtain ⟨fr, M, er⟩ := says ns hl
      have es : p.fs f = some d.fn := by unfold Pk.fs; rw [hd]; rfl
      have er : (match p.fs f with
        | some i => runFn p.prg (run p.prg p.fs n) i [.p (.scr ns)] []
        | none => .bad) = Res.ok (.p fr (.bl true)) M := er
      rw [es] at er
      dsimp only at er
      rw [er]
      intro H' v _ _ rv _
      cases rv with | p rv => cases rv; rfl
  · rw [efa]
    exact fn_ok KX GX hP ok (defs_ok KX GX hP ok n) F
end DI

/-! DI.I4: the law's def lets nothing out -/
namespace DI
open PySem PySem.Spec PyProof.Rows L2
theorem calm_ok {P : Program} {w : World} {K : PySem.W.Frag} {mg : Str → Option Value} {base : Heap} {k : Nat} {f : Addr} {fd : FuncData} {ps : List Str} {sp : Sp} (F : FnOk P w K mg base (L2.CX P w) k f fd ps sp) :
    FnOk P w K mg base CX0 k f fd ps (fun vs H Q _ => sp vs H Q fun _ _ _ => False) :=
  ⟨fun vs H Q E h => F.len vs H Q _ h, fun A outer s H args us vs Q E hr e0 hb hv hs => codeAny_mono (F.run A outer s H args us vs Q _ hr e0 hb hv hs) fun r s' q => by
    cases r with
    | ok fl => cases fl <;> exact q
    | error e =>
      obtain ⟨_, _, _, _, _, _, _, _, _, _, _, _, z⟩ := q
      exact z⟩
end DI

namespace Ev
/-! ### masks -/
def maskOf : Nat → (Nat → Bool) → Nat
  | 0, _ => 0
  | n+1, p => if p n then maskOf n p + 2^n else maskOf n p
theorem maskOf_lt : ∀ (n : Nat) (p : Nat → Bool), maskOf n p < 2^n
  | 0, _ => by simp [maskOf]
  | n+1, p => by
    have h := maskOf_lt n p
    rw [maskOf, Nat.pow_succ]
    split <;> omega
theorem testBit_maskOf : ∀ (n : Nat) (p : Nat → Bool) (i : Nat), (maskOf n p).testBit i = (decide (i < n) && p i)
  | 0, _, i => by simp [maskOf]
  | n+1, p, i => by
    have h := maskOf_lt n p
    have ih := testBit_maskOf n p i
    rw [maskOf]
    by_cases e : i = n
    · subst e
      by_cases q : p i = true
      · rw [if_pos q, q, Nat.add_comm, Nat.testBit_two_pow_add_eq, Nat.testBit_lt_two_pow h]; simp
      · rw [if_neg q, Nat.testBit_lt_two_pow h]; simp [Bool.eq_false_iff.mpr q]
    · have e2 : decide (i < n + 1) = decide (i < n) := by
        by_cases k : i < n
        · simp [k]; omega
        · simp [k]; omega
      rw [e2, ← ih]
      by_cases q : p n = true
      · rw [if_pos q, Nat.add_comm]
        by_cases k : i < n
        · exact Nat.testBit_two_pow_add_gt k _
        · have k2 : n < i := by omega
          rw [Nat.testBit_lt_two_pow (x := maskOf n p) (Nat.lt_of_lt_of_le h (Nat.pow_le_pow_right (by omega) (by omega)))]
          refine Nat.testBit_lt_two_pow ?_
          have : 2 ^ (n+1) ≤ 2 ^ i := Nat.pow_le_pow_right (by omega) (by omega)
          rw [Nat.pow_succ] at this
          omega
      · rw [if_neg q]
theorem eq_maskOf {n m : Nat} {p : Nat → Bool} (h : m < 2^n) (hp : ∀ i, i < n → m.testBit i = p i) : m = maskOf n p := by
  refine Nat.eq_of_testBit_eq fun i => ?_
  rw [testBit_maskOf]
  by_cases k : i < n
  · simp [k, hp i k]
  · simp only [k, decide_false, Bool.false_and]
    exact Nat.testBit_lt_two_pow (Nat.lt_of_lt_of_le h (Nat.pow_le_pow_right (by omega) (by omega)))
theorem maskOf_congr {n : Nat} {p q : Nat → Bool} (h : ∀ i, i < n → p i = q i) : maskOf n p = maskOf n q := by
  refine eq_maskOf (maskOf_lt n p) fun i k => ?_
  rw [testBit_maskOf]; simp [k, h i k]
theorem maskOf_and (n : Nat) (p q : Nat → Bool) : maskOf n p &&& maskOf n q = maskOf n fun i => p i && q i := by
  refine eq_maskOf (Nat.and_lt_two_pow _ (maskOf_lt n q)) fun i k => ?_
  rw [Nat.testBit_and, testBit_maskOf, testBit_maskOf]; simp [k]
theorem maskOf_or (n : Nat) (p q : Nat → Bool) : maskOf n p ||| maskOf n q = maskOf n fun i => p i || q i := by
  refine eq_maskOf (Nat.or_lt_two_pow (maskOf_lt n p) (maskOf_lt n q)) fun i k => ?_
  rw [Nat.testBit_or, testBit_maskOf, testBit_maskOf]; simp [k]
theorem maskOf_bit {n : Nat} {p : Nat → Bool} {y : Nat} (h : y < n) : maskOf n p ||| 2 ^ y = maskOf n fun i => p i || decide (i = y) := by
  refine eq_maskOf (Nat.or_lt_two_pow (maskOf_lt n p) (Nat.pow_lt_pow_right (by omega) h)) fun i k => ?_
  rw [Nat.testBit_or, testBit_maskOf, Nat.testBit_two_pow]; simp [k, eq_comm]
theorem maskOf_none (n : Nat) : maskOf n (fun _ => false) = 0 := by
  symm; refine eq_maskOf (Nat.two_pow_pos n) fun i k => ?_
  simp
theorem maskOf_all (n : Nat) : maskOf n (fun _ => true) = 2 ^ n - 1 := by
  symm; refine eq_maskOf (by have := Nat.two_pow_pos n; omega) fun i k => ?_
  simp [k]
theorem sub_and_testBit : ∀ (a b i : Nat), (a - (a &&& b)).testBit i = (a.testBit i && !b.testBit i) := by
  intro a
  induction a using Nat.strongRecOn with
  | _ a ih =>
    intro b i
    by_cases h0 : a = 0
    · subst h0; simp
    have hl : a &&& b ≤ a := Nat.and_le_left
    have hl2 : (a / 2) &&& (b / 2) ≤ a / 2 := Nat.and_le_left
    have d1 : (a &&& b) / 2 = (a / 2) &&& (b / 2) := by
      refine Nat.eq_of_testBit_eq fun i => ?_
      rw [← Nat.testBit_succ, Nat.testBit_and, Nat.testBit_and, Nat.testBit_succ, Nat.testBit_succ]
    have d2 : (a &&& b) % 2 = (a % 2) * (b % 2) := by
      have e : ∀ z : Nat, z % 2 = (z.testBit 0).toNat := fun z => by simp [Nat.testBit_zero]; rcases Nat.mod_two_eq_zero_or_one z with h | h <;> simp [h]
      rw [e, e, e, Nat.testBit_and]
      cases a.testBit 0 <;> cases b.testBit 0 <;> rfl
    have ma := Nat.mod_two_eq_zero_or_one a
    have mb := Nat.mod_two_eq_zero_or_one b
    have e2 : (a - (a &&& b)) / 2 = a / 2 - ((a / 2) &&& (b / 2)) := by
      rw [← d1]; rcases ma with ma | ma <;> rcases mb with mb | mb <;> rw [ma, mb] at d2 <;> omega
    cases i with
    | zero =>
      have e : ∀ z : Nat, z.testBit 0 = decide (z % 2 = 1) := fun z => by simp [Nat.testBit_zero]
      rw [e, e, e]
      rcases ma with ma | ma <;> rcases mb with mb | mb <;> rw [ma, mb] at d2 <;> rw [ma, mb]
      · have : (a - (a &&& b)) % 2 = 0 := by omega
        rw [this]; rfl
      · have : (a - (a &&& b)) % 2 = 0 := by omega
        rw [this]; rfl
      · have : (a - (a &&& b)) % 2 = 1 := by omega
        rw [this]; rfl
      · have : (a - (a &&& b)) % 2 = 0 := by omega
        rw [this]; rfl
    | succ i =>
      rw [Nat.testBit_succ, Nat.testBit_succ, Nat.testBit_succ, e2]
      exact ih (a / 2) (by omega) (b / 2) i
theorem maskOf_sub (n : Nat) (p q : Nat → Bool) : maskOf n p - (maskOf n p &&& maskOf n q) = maskOf n fun i => p i && !q i := by
  refine eq_maskOf (Nat.lt_of_le_of_lt (Nat.sub_le _ _) (maskOf_lt n p)) fun i k => ?_
  rw [sub_and_testBit, testBit_maskOf, testBit_maskOf]; simp [k]
theorem testBit_div (m y : Nat) : m / 2 ^ y % 2 = if m.testBit y then 1 else 0 := by
  rw [← Nat.shiftRight_eq_div_pow]
  have : (m >>> y).testBit 0 = m.testBit y := by rw [Nat.testBit_shiftRight]; simp
  rw [← this, Nat.testBit_zero]
  rcases Nat.mod_two_eq_zero_or_one (m >>> y) with h | h <;> simp [h]
/-! ### lists -/
theorem range_filter_le {k n : Nat} {p : Nat → Bool} (h : k ≤ n) (hp : ∀ i, k ≤ i → i < n → p i = false) : (List.range k).filter p = (List.range n).filter p := by
  obtain ⟨j, rfl⟩ := Nat.exists_eq_add_of_le h
  rw [List.range_add, List.filter_append]
  have : ((List.range j).map (k + ·)).filter p = [] := by
    rw [List.filter_eq_nil_iff]
    intro x hx
    simp only [List.mem_map, List.mem_range] at hx
    obtain ⟨y, h1, rfl⟩ := hx
    simp [hp (k + y) (by omega) (by omega)]
  rw [this, List.append_nil]
theorem findSome_first {α : Type} {f g : Nat → Option α} : ∀ (n : Nat), (∀ a, a < n → (∀ b, b < a → f b = none) → f a = g a) → (List.range n).findSome? f = (List.range n).findSome? g
  | 0, _ => rfl
  | n+1, h => by
    have ih := findSome_first n fun a k q => h a (by omega) q
    rw [List.range_succ, List.findSome?_append, List.findSome?_append, ← ih]
    cases q : (List.range n).findSome? f with
    | some x => rfl
    | none =>
      have := h n (by omega) fun b k => List.findSome?_eq_none_iff.mp q b (List.mem_range.mpr k)
      simp [this]
/-- the first four numbers below n with a property -/
def first4 (n : Nat) (p : Nat → Nat → Nat → Nat → Bool) : Option (Nat × Nat × Nat × Nat) :=
  (List.range n).findSome? fun a => (List.range n).findSome? fun b => (List.range n).findSome? fun c => (List.range n).findSome? fun d => if p a b c d then some (a, b, c, d) else none
theorem first4_none {n : Nat} {p : Nat → Nat → Nat → Nat → Bool} : first4 n p = none ↔ ∀ a, a < n → ∀ b, b < n → ∀ c, c < n → ∀ d, d < n → p a b c d = false := by
  unfold first4
  simp only [List.findSome?_eq_none_iff, List.mem_range]
  constructor
  · intro h a ha b hb c hc d hd
    have := h a ha b hb c hc d hd
    by_cases q : p a b c d = true
    · simp [q] at this
    · simpa using q
  · intro h a ha b hb c hc d hd
    simp [h a ha b hb c hc d hd]
theorem first4_some {n : Nat} {p : Nat → Nat → Nat → Nat → Bool} {r : Nat × Nat × Nat × Nat} (h : first4 n p = some r) : r.1 < n ∧ r.2.1 < n ∧ r.2.2.1 < n ∧ r.2.2.2 < n ∧ p r.1 r.2.1 r.2.2.1 r.2.2.2 = true := by
  unfold first4 at h
  obtain ⟨a, ha, h⟩ := List.exists_of_findSome?_eq_some h
  obtain ⟨b, hb, h⟩ := List.exists_of_findSome?_eq_some h
  obtain ⟨c, hc, h⟩ := List.exists_of_findSome?_eq_some h
  obtain ⟨d, hd, h⟩ := List.exists_of_findSome?_eq_some h
  simp only [List.mem_range] at ha hb hc hd
  split at h
  · next q => cases h; exact ⟨ha, hb, hc, hd, q⟩
  · cases h
theorem first4_half {n : Nat} {p q : Nat → Nat → Nat → Nat → Bool} (sym : ∀ a, a < n → ∀ b, b < n → ∀ c, c < n → ∀ d, d < n → p a b c d = true → p d c b a = true ∧ a ≠ d)
    (hq : ∀ a, a < n → ∀ b, b < n → ∀ c, c < n → ∀ d, d < n → q a b c d = (p a b c d && decide (a < d))) : first4 n q = first4 n p := by
  symm
  refine findSome_first n fun a ha hn => ?_
  have hno : ∀ a', a' < a → ∀ b, b < n → ∀ c, c < n → ∀ d, d < n → p a' b c d = false := by
    intro a' h1 b hb c hc d hd
    have := hn a' h1
    simp only [List.findSome?_eq_none_iff, List.mem_range] at this
    have := this b hb c hc d hd
    by_cases k : p a' b c d = true
    · simp [k] at this
    · simpa using k
  refine findSome_first n fun b hb _ => findSome_first n fun c hc _ => findSome_first n fun d hd _ => ?_
  rw [hq a ha b hb c hc d hd]
  by_cases k : p a b c d = true
  · obtain ⟨s1, s2⟩ := sym a ha b hb c hc d hd k
    have : a < d := by
      rcases Nat.lt_trichotomy a d with h | h | h
      · exact h
      · exact absurd h s2
      · have := hno d h c hc b hb a ha; rw [s1] at this; cases this
    simp [this]
  · simp [Bool.eq_false_iff.mpr k]
theorem filterMap_if {α β : Type} (p : α → Bool) (f : α → β) : ∀ xs : List α, xs.filterMap (fun x => if p x then some (f x) else none) = (xs.filter p).map f
  | [] => rfl
  | x :: xs => by
    by_cases h : p x = true
    · simp [h, filterMap_if p f xs]
    · simp [h, filterMap_if p f xs]
theorem perm_map {α β : Type} {f : α → β} {g : β → α} (hg : ∀ x, g (f x) = x) {xs : List α} {l : List β} (h : l.Perm (xs.map f)) : ∃ ys : List α, ys.Perm xs ∧ l = ys.map f := by
  refine ⟨l.map g, ?_, ?_⟩
  · have := h.map g
    rw [List.map_map] at this
    have e : g ∘ f = id := funext hg
    rw [e, List.map_id] at this
    exact this
  · rw [List.map_map]
    have : ∀ y ∈ l, (f ∘ g) y = y := by
      intro y hy
      obtain ⟨x, _, rfl⟩ := List.mem_map.mp (h.mem_iff.mp hy)
      simp [hg]
    rw [List.map_congr_left this, List.map_id']
end Ev

/-! DI.V: the evaluator by rewriting -/
namespace Ev
open PySem DI
/-! ### results -/
@[simp] theorem rb_ok {α β : Type} (a : α) (M : Sto) (f : α → Sto → Res β) : (Res.ok a M).bind f = f a M := (rfl)
@[simp] theorem rb_exc {α β : Type} (x : Ex) (M : Sto) (f : α → Sto → Res β) : (Res.exc x M : Res α).bind f = .exc x M := (rfl)
@[simp] theorem st_ok {α : Type} (a : α) (M : Sto) (sl : Slots) (f : α → Sto → SRes) : (Res.ok a M).st sl f = f a M := (rfl)
@[simp] theorem st_exc {α : Type} (x : Ex) (M : Sto) (sl : Slots) (f : α → Sto → SRes) : (Res.exc x M : Res α).st sl f = .exc x sl M := (rfl)
@[simp] theorem next_nx (sl : Slots) (M : Sto) (f : Slots → Sto → SRes) : (SRes.nx sl M).next f = f sl M := (rfl)
@[simp] theorem next_rt (a : RV) (M : Sto) (f : Slots → Sto → SRes) : (SRes.rt a M).next f = .rt a M := (rfl)
@[simp] theorem next_bk (sl : Slots) (M : Sto) (f : Slots → Sto → SRes) : (SRes.bk sl M).next f = .bk sl M := (rfl)
@[simp] theorem next_ct (sl : Slots) (M : Sto) (f : Slots → Sto → SRes) : (SRes.ct sl M).next f = .ct sl M := (rfl)
@[simp] theorem next_exc (x : Ex) (sl : Slots) (M : Sto) (f : Slots → Sto → SRes) : (SRes.exc x sl M).next f = .exc x sl M := (rfl)
@[simp] theorem ofO_some {α : Type} (a : α) (M : Sto) : ofO (some a) M = .ok a M := (rfl)
@[simp] theorem noexc_ok {α : Type} (a : α) (M : Sto) : noexc (.ok a M : Res α) = .ok a M := (rfl)
@[simp] theorem rv_p (d : D) : (DV.p d).rv = some (.p false d) := (rfl)
@[simp] theorem rv_own (k : Nat) : (DV.own k).rv = some (.own k) := (rfl)
@[simp] theorem dv_p (fr : Bool) (d : D) : (RV.p fr d).dv = .p d := (rfl)
@[simp] theorem dv_own (k : Nat) : (RV.own k).dv = .own k := (rfl)
@[simp] theorem get_p (fr : Bool) (d : D) (M : Sto) : (RV.p fr d).get M = some d := (rfl)
@[simp] theorem get_own (k : Nat) (M : Sto) : (RV.own k).get M = (M[k]?).map Cell.d := (rfl)
@[simp] theorem cell_live (d : D) : (Cell.live d).d = d := (rfl)
@[simp] theorem cell_dead (d : D) : (Cell.dead d).d = d := (rfl)
@[simp] theorem frz_p (fr : Bool) (d : D) (M : Sto) : (RV.p fr d).frz M = some (d, M) := (rfl)
theorem frz_own {k : Nat} {M : Sto} {x : Cell} (h : M[k]? = some x) : (RV.own k).frz M = some (x.d, M.set k (.dead x.d)) := by show (match M[k]? with | some x => _ | none => _) = _; rw [h]
@[simp] theorem frzs_nil (M : Sto) : frzs [] M = some ([], M) := (rfl)
@[simp] theorem frzs_p (fr : Bool) (d : D) (r : List RV) (M : Sto) : frzs (.p fr d :: r) M = (frzs r M).map fun q => (d :: q.1, q.2) := by
  show (match frzs r M with | some (ds, M2) => some (d :: ds, M2) | none => none) = _
  cases frzs r M <;> rfl
@[simp] theorem gets_nil (M : Sto) : gets M [] = some [] := (rfl)
@[simp] theorem gets_p (fr : Bool) (d : D) (r : List RV) (M : Sto) : gets M (.p fr d :: r) = (gets M r).map (d :: ·) := by
  show (match some d, gets M r with | some d, some ds => some (d :: ds) | _, _ => none) = _
  cases gets M r <;> rfl
theorem gets_own {k : Nat} {M : Sto} {x : Cell} (h : M[k]? = some x) (r : List RV) : gets M (.own k :: r) = (gets M r).map (x.d :: ·) := by
  show (match (M[k]?).map Cell.d, gets M r with | some d, some ds => some (d :: ds) | _, _ => none) = _
  rw [h]
  cases gets M r <;> rfl
/-! ### the store -/
@[simp] theorem sto_get0 (M L : Sto) (x : Cell) : (M ++ x :: L)[M.length]? = some x := by simp
@[simp] theorem sto_get1 (M L : Sto) (x y : Cell) : (M ++ x :: y :: L)[M.length + 1]? = some y := by
  rw [List.getElem?_append_right (by omega)]; simp
@[simp] theorem sto_get2 (M L : Sto) (x y z : Cell) : (M ++ x :: y :: z :: L)[M.length + 1 + 1]? = some z := by
  rw [List.getElem?_append_right (by omega)]; simp [show M.length + 1 + 1 - M.length = 2 by omega]
theorem sto_old {M : Sto} {k : Nat} {x : Cell} (h : M[k]? = some x) (L : Sto) : (M ++ L)[k]? = some x := by
  rw [List.getElem?_append_left ((List.getElem?_eq_some_iff.mp h).1)]; exact h
theorem sto_lt {M : Sto} {k : Nat} {x : Cell} (h : M[k]? = some x) : k < M.length := (List.getElem?_eq_some_iff.mp h).1
@[simp] theorem sto_set0 (M L : Sto) (x y : Cell) : (M ++ x :: L).set M.length y = M ++ y :: L := by
  rw [List.set_append_right _ _ (by omega)]; simp
@[simp] theorem sto_set1 (M L : Sto) (x y z : Cell) : (M ++ x :: y :: L).set (M.length + 1) z = M ++ x :: z :: L := by
  rw [List.set_append_right _ _ (by omega)]; simp
theorem sto_setold {M : Sto} {k : Nat} (h : k < M.length) (L : Sto) (z : Cell) : (M ++ L).set k z = M.set k z ++ L := List.set_append_left _ _ h
@[simp] theorem take_add (M L : Sto) : (M ++ L).take M.length = M := by simp
@[simp] theorem take_set (M L : Sto) (k : Nat) (z : Cell) : (M.set k z ++ L).take M.length = M.set k z := by
  have : M.length = (M.set k z).length := by simp
  rw [this]; exact List.take_left
@[simp] theorem take_one (M : Sto) (x : Cell) : (M ++ [x]).take (M.length + 1) = M ++ [x] := by
  rw [List.take_of_length_le (by simp)]
@[simp] theorem take_set0 (M : Sto) (k : Nat) (z : Cell) : (M.set k z).take M.length = M.set k z := by
  have : M.length = (M.set k z).length := by simp
  rw [this]; exact List.take_length
theorem sto_same {M : Sto} {k : Nat} {x : Cell} (h : M[k]? = some x) (y : Cell) : (M.set k y)[k]? = some y := by simp [sto_lt h]
@[simp] theorem sto_set_set (M : Sto) (k : Nat) (x y : Cell) : (M.set k x).set k y = M.set k y := by simp
theorem sto_setself {M : Sto} {k : Nat} {x : Cell} (h : M[k]? = some x) : M.set k x = M := by
  obtain ⟨h1, h2⟩ := List.getElem?_eq_some_iff.mp h
  rw [← h2]; exact List.set_getElem_self h1
/-! ### slots -/
@[simp] theorem slg0 (a0 : Option DV) (l : Slots) : (a0 :: l : Slots)[0]? = some a0 := (rfl)
@[simp] theorem sls0 (a0 x : Option DV) (l : Slots) : (a0 :: l : Slots).set 0 x = x :: l := (rfl)
@[simp] theorem slg1 (a0 a1 : Option DV) (l : Slots) : (a0 :: a1 :: l : Slots)[1]? = some a1 := (rfl)
@[simp] theorem sls1 (a0 a1 x : Option DV) (l : Slots) : (a0 :: a1 :: l : Slots).set 1 x = a0 :: x :: l := (rfl)
@[simp] theorem slg2 (a0 a1 a2 : Option DV) (l : Slots) : (a0 :: a1 :: a2 :: l : Slots)[2]? = some a2 := (rfl)
@[simp] theorem sls2 (a0 a1 a2 x : Option DV) (l : Slots) : (a0 :: a1 :: a2 :: l : Slots).set 2 x = a0 :: a1 :: x :: l := (rfl)
@[simp] theorem slg3 (a0 a1 a2 a3 : Option DV) (l : Slots) : (a0 :: a1 :: a2 :: a3 :: l : Slots)[3]? = some a3 := (rfl)
@[simp] theorem sls3 (a0 a1 a2 a3 x : Option DV) (l : Slots) : (a0 :: a1 :: a2 :: a3 :: l : Slots).set 3 x = a0 :: a1 :: a2 :: x :: l := (rfl)
@[simp] theorem slg4 (a0 a1 a2 a3 a4 : Option DV) (l : Slots) : (a0 :: a1 :: a2 :: a3 :: a4 :: l : Slots)[4]? = some a4 := (rfl)
@[simp] theorem sls4 (a0 a1 a2 a3 a4 x : Option DV) (l : Slots) : (a0 :: a1 :: a2 :: a3 :: a4 :: l : Slots).set 4 x = a0 :: a1 :: a2 :: a3 :: x :: l := (rfl)
@[simp] theorem slg5 (a0 a1 a2 a3 a4 a5 : Option DV) (l : Slots) : (a0 :: a1 :: a2 :: a3 :: a4 :: a5 :: l : Slots)[5]? = some a5 := (rfl)
@[simp] theorem sls5 (a0 a1 a2 a3 a4 a5 x : Option DV) (l : Slots) : (a0 :: a1 :: a2 :: a3 :: a4 :: a5 :: l : Slots).set 5 x = a0 :: a1 :: a2 :: a3 :: a4 :: x :: l := (rfl)
@[simp] theorem slg6 (a0 a1 a2 a3 a4 a5 a6 : Option DV) (l : Slots) : (a0 :: a1 :: a2 :: a3 :: a4 :: a5 :: a6 :: l : Slots)[6]? = some a6 := (rfl)
@[simp] theorem sls6 (a0 a1 a2 a3 a4 a5 a6 x : Option DV) (l : Slots) : (a0 :: a1 :: a2 :: a3 :: a4 :: a5 :: a6 :: l : Slots).set 6 x = a0 :: a1 :: a2 :: a3 :: a4 :: a5 :: x :: l := (rfl)
@[simp] theorem slg7 (a0 a1 a2 a3 a4 a5 a6 a7 : Option DV) (l : Slots) : (a0 :: a1 :: a2 :: a3 :: a4 :: a5 :: a6 :: a7 :: l : Slots)[7]? = some a7 := (rfl)
@[simp] theorem sls7 (a0 a1 a2 a3 a4 a5 a6 a7 x : Option DV) (l : Slots) : (a0 :: a1 :: a2 :: a3 :: a4 :: a5 :: a6 :: a7 :: l : Slots).set 7 x = a0 :: a1 :: a2 :: a3 :: a4 :: a5 :: a6 :: x :: l := (rfl)
@[simp] theorem slg8 (a0 a1 a2 a3 a4 a5 a6 a7 a8 : Option DV) (l : Slots) : (a0 :: a1 :: a2 :: a3 :: a4 :: a5 :: a6 :: a7 :: a8 :: l : Slots)[8]? = some a8 := (rfl)
@[simp] theorem sls8 (a0 a1 a2 a3 a4 a5 a6 a7 a8 x : Option DV) (l : Slots) : (a0 :: a1 :: a2 :: a3 :: a4 :: a5 :: a6 :: a7 :: a8 :: l : Slots).set 8 x = a0 :: a1 :: a2 :: a3 :: a4 :: a5 :: a6 :: a7 :: x :: l := (rfl)
@[simp] theorem slg9 (a0 a1 a2 a3 a4 a5 a6 a7 a8 a9 : Option DV) (l : Slots) : (a0 :: a1 :: a2 :: a3 :: a4 :: a5 :: a6 :: a7 :: a8 :: a9 :: l : Slots)[9]? = some a9 := (rfl)
@[simp] theorem sls9 (a0 a1 a2 a3 a4 a5 a6 a7 a8 a9 x : Option DV) (l : Slots) : (a0 :: a1 :: a2 :: a3 :: a4 :: a5 :: a6 :: a7 :: a8 :: a9 :: l : Slots).set 9 x = a0 :: a1 :: a2 :: a3 :: a4 :: a5 :: a6 :: a7 :: a8 :: x :: l := (rfl)
@[simp] theorem slg10 (a0 a1 a2 a3 a4 a5 a6 a7 a8 a9 a10 : Option DV) (l : Slots) : (a0 :: a1 :: a2 :: a3 :: a4 :: a5 :: a6 :: a7 :: a8 :: a9 :: a10 :: l : Slots)[10]? = some a10 := (rfl)
@[simp] theorem sls10 (a0 a1 a2 a3 a4 a5 a6 a7 a8 a9 a10 x : Option DV) (l : Slots) : (a0 :: a1 :: a2 :: a3 :: a4 :: a5 :: a6 :: a7 :: a8 :: a9 :: a10 :: l : Slots).set 10 x = a0 :: a1 :: a2 :: a3 :: a4 :: a5 :: a6 :: a7 :: a8 :: a9 :: x :: l := (rfl)
@[simp] theorem slg11 (a0 a1 a2 a3 a4 a5 a6 a7 a8 a9 a10 a11 : Option DV) (l : Slots) : (a0 :: a1 :: a2 :: a3 :: a4 :: a5 :: a6 :: a7 :: a8 :: a9 :: a10 :: a11 :: l : Slots)[11]? = some a11 := (rfl)
@[simp] theorem sls11 (a0 a1 a2 a3 a4 a5 a6 a7 a8 a9 a10 a11 x : Option DV) (l : Slots) : (a0 :: a1 :: a2 :: a3 :: a4 :: a5 :: a6 :: a7 :: a8 :: a9 :: a10 :: a11 :: l : Slots).set 11 x = a0 :: a1 :: a2 :: a3 :: a4 :: a5 :: a6 :: a7 :: a8 :: a9 :: a10 :: x :: l := (rfl)
@[simp] theorem slg12 (a0 a1 a2 a3 a4 a5 a6 a7 a8 a9 a10 a11 a12 : Option DV) (l : Slots) : (a0 :: a1 :: a2 :: a3 :: a4 :: a5 :: a6 :: a7 :: a8 :: a9 :: a10 :: a11 :: a12 :: l : Slots)[12]? = some a12 := (rfl)
@[simp] theorem sls12 (a0 a1 a2 a3 a4 a5 a6 a7 a8 a9 a10 a11 a12 x : Option DV) (l : Slots) : (a0 :: a1 :: a2 :: a3 :: a4 :: a5 :: a6 :: a7 :: a8 :: a9 :: a10 :: a11 :: a12 :: l : Slots).set 12 x = a0 :: a1 :: a2 :: a3 :: a4 :: a5 :: a6 :: a7 :: a8 :: a9 :: a10 :: a11 :: x :: l := (rfl)
@[simp] theorem slg13 (a0 a1 a2 a3 a4 a5 a6 a7 a8 a9 a10 a11 a12 a13 : Option DV) (l : Slots) : (a0 :: a1 :: a2 :: a3 :: a4 :: a5 :: a6 :: a7 :: a8 :: a9 :: a10 :: a11 :: a12 :: a13 :: l : Slots)[13]? = some a13 := (rfl)
@[simp] theorem sls13 (a0 a1 a2 a3 a4 a5 a6 a7 a8 a9 a10 a11 a12 a13 x : Option DV) (l : Slots) : (a0 :: a1 :: a2 :: a3 :: a4 :: a5 :: a6 :: a7 :: a8 :: a9 :: a10 :: a11 :: a12 :: a13 :: l : Slots).set 13 x = a0 :: a1 :: a2 :: a3 :: a4 :: a5 :: a6 :: a7 :: a8 :: a9 :: a10 :: a11 :: a12 :: x :: l := (rfl)
@[simp] theorem slg14 (a0 a1 a2 a3 a4 a5 a6 a7 a8 a9 a10 a11 a12 a13 a14 : Option DV) (l : Slots) : (a0 :: a1 :: a2 :: a3 :: a4 :: a5 :: a6 :: a7 :: a8 :: a9 :: a10 :: a11 :: a12 :: a13 :: a14 :: l : Slots)[14]? = some a14 := (rfl)
@[simp] theorem sls14 (a0 a1 a2 a3 a4 a5 a6 a7 a8 a9 a10 a11 a12 a13 a14 x : Option DV) (l : Slots) : (a0 :: a1 :: a2 :: a3 :: a4 :: a5 :: a6 :: a7 :: a8 :: a9 :: a10 :: a11 :: a12 :: a13 :: a14 :: l : Slots).set 14 x = a0 :: a1 :: a2 :: a3 :: a4 :: a5 :: a6 :: a7 :: a8 :: a9 :: a10 :: a11 :: a12 :: a13 :: x :: l := (rfl)
@[simp] theorem slg15 (a0 a1 a2 a3 a4 a5 a6 a7 a8 a9 a10 a11 a12 a13 a14 a15 : Option DV) (l : Slots) : (a0 :: a1 :: a2 :: a3 :: a4 :: a5 :: a6 :: a7 :: a8 :: a9 :: a10 :: a11 :: a12 :: a13 :: a14 :: a15 :: l : Slots)[15]? = some a15 := (rfl)
@[simp] theorem sls15 (a0 a1 a2 a3 a4 a5 a6 a7 a8 a9 a10 a11 a12 a13 a14 a15 x : Option DV) (l : Slots) : (a0 :: a1 :: a2 :: a3 :: a4 :: a5 :: a6 :: a7 :: a8 :: a9 :: a10 :: a11 :: a12 :: a13 :: a14 :: a15 :: l : Slots).set 15 x = a0 :: a1 :: a2 :: a3 :: a4 :: a5 :: a6 :: a7 :: a8 :: a9 :: a10 :: a11 :: a12 :: a13 :: a14 :: x :: l := (rfl)
@[simp] theorem slg16 (a0 a1 a2 a3 a4 a5 a6 a7 a8 a9 a10 a11 a12 a13 a14 a15 a16 : Option DV) (l : Slots) : (a0 :: a1 :: a2 :: a3 :: a4 :: a5 :: a6 :: a7 :: a8 :: a9 :: a10 :: a11 :: a12 :: a13 :: a14 :: a15 :: a16 :: l : Slots)[16]? = some a16 := (rfl)
@[simp] theorem sls16 (a0 a1 a2 a3 a4 a5 a6 a7 a8 a9 a10 a11 a12 a13 a14 a15 a16 x : Option DV) (l : Slots) : (a0 :: a1 :: a2 :: a3 :: a4 :: a5 :: a6 :: a7 :: a8 :: a9 :: a10 :: a11 :: a12 :: a13 :: a14 :: a15 :: a16 :: l : Slots).set 16 x = a0 :: a1 :: a2 :: a3 :: a4 :: a5 :: a6 :: a7 :: a8 :: a9 :: a10 :: a11 :: a12 :: a13 :: a14 :: a15 :: x :: l := (rfl)
@[simp] theorem slg17 (a0 a1 a2 a3 a4 a5 a6 a7 a8 a9 a10 a11 a12 a13 a14 a15 a16 a17 : Option DV) (l : Slots) : (a0 :: a1 :: a2 :: a3 :: a4 :: a5 :: a6 :: a7 :: a8 :: a9 :: a10 :: a11 :: a12 :: a13 :: a14 :: a15 :: a16 :: a17 :: l : Slots)[17]? = some a17 := (rfl)
@[simp] theorem sls17 (a0 a1 a2 a3 a4 a5 a6 a7 a8 a9 a10 a11 a12 a13 a14 a15 a16 a17 x : Option DV) (l : Slots) : (a0 :: a1 :: a2 :: a3 :: a4 :: a5 :: a6 :: a7 :: a8 :: a9 :: a10 :: a11 :: a12 :: a13 :: a14 :: a15 :: a16 :: a17 :: l : Slots).set 17 x = a0 :: a1 :: a2 :: a3 :: a4 :: a5 :: a6 :: a7 :: a8 :: a9 :: a10 :: a11 :: a12 :: a13 :: a14 :: a15 :: a16 :: x :: l := (rfl)
@[simp] theorem slg18 (a0 a1 a2 a3 a4 a5 a6 a7 a8 a9 a10 a11 a12 a13 a14 a15 a16 a17 a18 : Option DV) (l : Slots) : (a0 :: a1 :: a2 :: a3 :: a4 :: a5 :: a6 :: a7 :: a8 :: a9 :: a10 :: a11 :: a12 :: a13 :: a14 :: a15 :: a16 :: a17 :: a18 :: l : Slots)[18]? = some a18 := (rfl)
@[simp] theorem sls18 (a0 a1 a2 a3 a4 a5 a6 a7 a8 a9 a10 a11 a12 a13 a14 a15 a16 a17 a18 x : Option DV) (l : Slots) : (a0 :: a1 :: a2 :: a3 :: a4 :: a5 :: a6 :: a7 :: a8 :: a9 :: a10 :: a11 :: a12 :: a13 :: a14 :: a15 :: a16 :: a17 :: a18 :: l : Slots).set 18 x = a0 :: a1 :: a2 :: a3 :: a4 :: a5 :: a6 :: a7 :: a8 :: a9 :: a10 :: a11 :: a12 :: a13 :: a14 :: a15 :: a16 :: a17 :: x :: l := (rfl)
@[simp] theorem slg19 (a0 a1 a2 a3 a4 a5 a6 a7 a8 a9 a10 a11 a12 a13 a14 a15 a16 a17 a18 a19 : Option DV) (l : Slots) : (a0 :: a1 :: a2 :: a3 :: a4 :: a5 :: a6 :: a7 :: a8 :: a9 :: a10 :: a11 :: a12 :: a13 :: a14 :: a15 :: a16 :: a17 :: a18 :: a19 :: l : Slots)[19]? = some a19 := (rfl)
@[simp] theorem sls19 (a0 a1 a2 a3 a4 a5 a6 a7 a8 a9 a10 a11 a12 a13 a14 a15 a16 a17 a18 a19 x : Option DV) (l : Slots) : (a0 :: a1 :: a2 :: a3 :: a4 :: a5 :: a6 :: a7 :: a8 :: a9 :: a10 :: a11 :: a12 :: a13 :: a14 :: a15 :: a16 :: a17 :: a18 :: a19 :: l : Slots).set 19 x = a0 :: a1 :: a2 :: a3 :: a4 :: a5 :: a6 :: a7 :: a8 :: a9 :: a10 :: a11 :: a12 :: a13 :: a14 :: a15 :: a16 :: a17 :: a18 :: x :: l := (rfl)
@[simp] theorem slg20 (a0 a1 a2 a3 a4 a5 a6 a7 a8 a9 a10 a11 a12 a13 a14 a15 a16 a17 a18 a19 a20 : Option DV) (l : Slots) : (a0 :: a1 :: a2 :: a3 :: a4 :: a5 :: a6 :: a7 :: a8 :: a9 :: a10 :: a11 :: a12 :: a13 :: a14 :: a15 :: a16 :: a17 :: a18 :: a19 :: a20 :: l : Slots)[20]? = some a20 := (rfl)
@[simp] theorem sls20 (a0 a1 a2 a3 a4 a5 a6 a7 a8 a9 a10 a11 a12 a13 a14 a15 a16 a17 a18 a19 a20 x : Option DV) (l : Slots) : (a0 :: a1 :: a2 :: a3 :: a4 :: a5 :: a6 :: a7 :: a8 :: a9 :: a10 :: a11 :: a12 :: a13 :: a14 :: a15 :: a16 :: a17 :: a18 :: a19 :: a20 :: l : Slots).set 20 x = a0 :: a1 :: a2 :: a3 :: a4 :: a5 :: a6 :: a7 :: a8 :: a9 :: a10 :: a11 :: a12 :: a13 :: a14 :: a15 :: a16 :: a17 :: a18 :: a19 :: x :: l := (rfl)
@[simp] theorem slg21 (a0 a1 a2 a3 a4 a5 a6 a7 a8 a9 a10 a11 a12 a13 a14 a15 a16 a17 a18 a19 a20 a21 : Option DV) (l : Slots) : (a0 :: a1 :: a2 :: a3 :: a4 :: a5 :: a6 :: a7 :: a8 :: a9 :: a10 :: a11 :: a12 :: a13 :: a14 :: a15 :: a16 :: a17 :: a18 :: a19 :: a20 :: a21 :: l : Slots)[21]? = some a21 := (rfl)
@[simp] theorem sls21 (a0 a1 a2 a3 a4 a5 a6 a7 a8 a9 a10 a11 a12 a13 a14 a15 a16 a17 a18 a19 a20 a21 x : Option DV) (l : Slots) : (a0 :: a1 :: a2 :: a3 :: a4 :: a5 :: a6 :: a7 :: a8 :: a9 :: a10 :: a11 :: a12 :: a13 :: a14 :: a15 :: a16 :: a17 :: a18 :: a19 :: a20 :: a21 :: l : Slots).set 21 x = a0 :: a1 :: a2 :: a3 :: a4 :: a5 :: a6 :: a7 :: a8 :: a9 :: a10 :: a11 :: a12 :: a13 :: a14 :: a15 :: a16 :: a17 :: a18 :: a19 :: a20 :: x :: l := (rfl)
@[simp] theorem slg22 (a0 a1 a2 a3 a4 a5 a6 a7 a8 a9 a10 a11 a12 a13 a14 a15 a16 a17 a18 a19 a20 a21 a22 : Option DV) (l : Slots) : (a0 :: a1 :: a2 :: a3 :: a4 :: a5 :: a6 :: a7 :: a8 :: a9 :: a10 :: a11 :: a12 :: a13 :: a14 :: a15 :: a16 :: a17 :: a18 :: a19 :: a20 :: a21 :: a22 :: l : Slots)[22]? = some a22 := (rfl)
@[simp] theorem sls22 (a0 a1 a2 a3 a4 a5 a6 a7 a8 a9 a10 a11 a12 a13 a14 a15 a16 a17 a18 a19 a20 a21 a22 x : Option DV) (l : Slots) : (a0 :: a1 :: a2 :: a3 :: a4 :: a5 :: a6 :: a7 :: a8 :: a9 :: a10 :: a11 :: a12 :: a13 :: a14 :: a15 :: a16 :: a17 :: a18 :: a19 :: a20 :: a21 :: a22 :: l : Slots).set 22 x = a0 :: a1 :: a2 :: a3 :: a4 :: a5 :: a6 :: a7 :: a8 :: a9 :: a10 :: a11 :: a12 :: a13 :: a14 :: a15 :: a16 :: a17 :: a18 :: a19 :: a20 :: a21 :: x :: l := (rfl)
@[simp] theorem slg23 (a0 a1 a2 a3 a4 a5 a6 a7 a8 a9 a10 a11 a12 a13 a14 a15 a16 a17 a18 a19 a20 a21 a22 a23 : Option DV) (l : Slots) : (a0 :: a1 :: a2 :: a3 :: a4 :: a5 :: a6 :: a7 :: a8 :: a9 :: a10 :: a11 :: a12 :: a13 :: a14 :: a15 :: a16 :: a17 :: a18 :: a19 :: a20 :: a21 :: a22 :: a23 :: l : Slots)[23]? = some a23 := (rfl)
@[simp] theorem sls23 (a0 a1 a2 a3 a4 a5 a6 a7 a8 a9 a10 a11 a12 a13 a14 a15 a16 a17 a18 a19 a20 a21 a22 a23 x : Option DV) (l : Slots) : (a0 :: a1 :: a2 :: a3 :: a4 :: a5 :: a6 :: a7 :: a8 :: a9 :: a10 :: a11 :: a12 :: a13 :: a14 :: a15 :: a16 :: a17 :: a18 :: a19 :: a20 :: a21 :: a22 :: a23 :: l : Slots).set 23 x = a0 :: a1 :: a2 :: a3 :: a4 :: a5 :: a6 :: a7 :: a8 :: a9 :: a10 :: a11 :: a12 :: a13 :: a14 :: a15 :: a16 :: a17 :: a18 :: a19 :: a20 :: a21 :: a22 :: x :: l := (rfl)
@[simp] theorem wipe_nil (sl : Slots) : wipe sl [] = sl := (rfl)
@[simp] theorem wipe_cons (sl : Slots) (v : Nat) (vs : List Nat) : wipe sl (v :: vs) = (wipe sl vs).set v none := (rfl)
@[simp] theorem slots_name (i : Nat) : (G.name i).slots = [i] := (rfl)
@[simp] theorem slots_tup (is : List Nat) : (G.tup is).slots = is := (rfl)
/-! ### expressions -/
section
variable (P : Prg) (c : Orc) (sl : Slots) (M : Sto)
def varR (v : Option (Option DV)) (M : Sto) : Res RV := match v with
  | some (some v) => ofO v.rv M
  | _ => .bad
@[simp] theorem varR_p (d : D) : varR (some (some (.p d))) M = .ok (.p false d) M := (rfl)
@[simp] theorem varR_own (k : Nat) : varR (some (some (.own k))) M = .ok (.own k) M := (rfl)
@[simp] theorem e_var (i : Nat) : evalE P c (.var i) sl M = varR sl[i]? M := (rfl)
@[simp] theorem e_lit (d : D) : evalE P c (.lit d) sl M = .ok (.p false d) M := (rfl)
@[simp] theorem e_bin (op : Operator) (a b : E) : evalE P c (.bin op a b) sl M = (evalE P c a sl M).bind fun x M1 => (evalE P c b sl M1).bind fun y M2 => ofO (bin1 (opD op) x y M2) M2 := (rfl)
def unR (op : UnaryOp) (x : RV) (M : Sto) : Res RV := match x.get M with
  | some d => ofO ((unD op d).map (.p false)) M
  | none => .bad
@[simp] theorem e_un (op : UnaryOp) (a : E) : evalE P c (.un op a) sl M = (evalE P c a sl M).bind (unR op) := (rfl)
@[simp] theorem unR_p (op : UnaryOp) (fr : Bool) (d : D) : unR op (.p fr d) M = ofO ((unD op d).map (.p false)) M := (rfl)
@[simp] theorem boolV_def (b : Bool) : boolV b = .p false (.bl b) := (rfl)
@[simp] theorem isB_bl (fr b : Bool) : isB (.p fr (.bl b)) = some b := (rfl)
def notR (x : RV) (M : Sto) : Res RV := match isB x with
  | some b => .ok (boolV !b) M
  | none => .bad
@[simp] theorem e_notv (a : E) : evalE P c (.notv a) sl M = (evalE P c a sl M).bind notR := (rfl)
@[simp] theorem notR_bl (fr b : Bool) : notR (.p fr (.bl b)) M = .ok (.p false (.bl !b)) M := (rfl)
def andR (k : Sto → Res RV) (x : RV) (M : Sto) : Res RV := match isB x with
  | some true => k M
  | some false => .ok (boolV false) M
  | none => .bad
def orR (k : Sto → Res RV) (x : RV) (M : Sto) : Res RV := match isB x with
  | some false => k M
  | some true => .ok (boolV true) M
  | none => .bad
@[simp] theorem e_andv (a b : E) : evalE P c (.andv a b) sl M = (evalE P c a sl M).bind (andR (evalE P c b sl)) := (rfl)
@[simp] theorem e_orv (a b : E) : evalE P c (.orv a b) sl M = (evalE P c a sl M).bind (orR (evalE P c b sl)) := (rfl)
theorem andR_bl (k : Sto → Res RV) (fr b : Bool) : andR k (.p fr (.bl b)) M = if b = true then k M else .ok (.p false (.bl false)) M := by cases b <;> rfl
theorem orR_bl (k : Sto → Res RV) (fr b : Bool) : orR k (.p fr (.bl b)) M = if b = true then .ok (.p false (.bl true)) M else k M := by cases b <;> rfl
@[simp] theorem andR_t (k : Sto → Res RV) (fr : Bool) : andR k (.p fr (.bl true)) M = k M := (rfl)
@[simp] theorem andR_f (k : Sto → Res RV) (fr : Bool) : andR k (.p fr (.bl false)) M = .ok (.p false (.bl false)) M := (rfl)
@[simp] theorem orR_t (k : Sto → Res RV) (fr : Bool) : orR k (.p fr (.bl true)) M = .ok (.p false (.bl true)) M := (rfl)
@[simp] theorem orR_f (k : Sto → Res RV) (fr : Bool) : orR k (.p fr (.bl false)) M = k M := (rfl)
/-- a second part that is a pure truth value -/
theorem andR_pure {k : Sto → Res RV} {b2 : Bool} (fr b : Bool) (h : b = true → k M = .ok (.p false (.bl b2)) M) : andR k (.p fr (.bl b)) M = .ok (.p false (.bl (b && b2))) M := by cases b; rfl; simpa using h rfl
theorem orR_pure {k : Sto → Res RV} {b2 : Bool} (fr b : Bool) (h : b = false → k M = .ok (.p false (.bl b2)) M) : orR k (.p fr (.bl b)) M = .ok (.p false (.bl (b || b2))) M := by cases b; simpa using h rfl; rfl
@[simp] theorem e_cmp (op : CmpOp) (a b : E) : evalE P c (.cmp op a b) sl M = (evalE P c a sl M).bind fun x M1 => (evalE P c b sl M1).bind fun y M2 => ofO ((cmp1 op x y M2).map boolV) M2 := (rfl)
def chnR (op op' : CmpOp) (k : Sto → Res RV) (x y : RV) (M2 : Sto) : Res RV := match cmp1 op x y M2 with
  | some true => (k M2).bind fun z M3 => ofO ((cmp1 op' y z M3).map boolV) M3
  | some false => .ok (boolV false) M2
  | none => .bad
@[simp] theorem e_chn (op op' : CmpOp) (a b e : E) : evalE P c (.chn op op' a b e) sl M = (evalE P c a sl M).bind fun x M1 => (evalE P c b sl M1).bind fun y M2 => chnR op op' (evalE P c e sl) x y M2 := (rfl)
theorem chnR_pure {op op' : CmpOp} {k : Sto → Res RV} {x y z : RV} {b b2 : Bool} (h1 : cmp1 op x y M = some b) (h2 : k M = .ok z M) (h3 : cmp1 op' y z M = some b2) : chnR op op' k x y M = .ok (.p false (.bl (b && b2))) M := by
  unfold chnR; rw [h1, h2]; cases b
  · rfl
  · simp [h3]
@[simp] theorem e_ife (t : T) (a b : E) : evalE P c (.ife t a b) sl M = (evalT P c t sl M).bind fun k M1 => if k = true then evalE P c a sl M1 else evalE P c b sl M1 := (rfl)
def tupR (as : List RV) (M1 : Sto) : Res RV := match frzs as M1 with
    | some (ds, M2) => if ds.length ≤ SZ then .ok (.p false (.tup ds)) M2 else .bad
    | none => .bad
def lstR (as : List RV) (M1 : Sto) : Res RV := match frzs as M1 with
    | some (ds, M2) => ofO (lstOf ds) M2
    | none => .bad
@[simp] theorem e_tup (es : Es) : evalE P c (.tup es) sl M = (evalEs P c es sl M).bind tupR := (rfl)
@[simp] theorem e_lst (es : Es) : evalE P c (.lst es) sl M = (evalEs P c es sl M).bind lstR := (rfl)
theorem tupR_ok {as : List RV} {ds : List D} {M2 : Sto} (h : frzs as M = some (ds, M2)) (hl : ds.length ≤ 16777216) : tupR as M = .ok (.p false (.tup ds)) M2 := by
  unfold tupR; rw [h]; exact if_pos hl
theorem lstR_ok {as : List RV} {ds : List D} {M2 : Sto} (h : frzs as M = some (ds, M2)) (hl : ds.length ≤ 16777216) : lstR as M = .ok (.p true (.lst ds)) M2 := by
  unfold lstR; rw [h]
  show ofO (lstOf ds) M2 = _
  rw [show lstOf ds = some (.p true (.lst ds)) from if_pos hl]; rfl
@[simp] theorem tupR0 : tupR [] M = .ok (.p false (.tup [])) M := (rfl)
@[simp] theorem tupR2 (f1 f2 : Bool) (a b : D) : tupR [.p f1 a, .p f2 b] M = .ok (.p false (.tup [a, b])) M := (rfl)
@[simp] theorem tupR3 (f1 f2 f3 : Bool) (a b e : D) : tupR [.p f1 a, .p f2 b, .p f3 e] M = .ok (.p false (.tup [a, b, e])) M := (rfl)
@[simp] theorem tupR4 (f1 f2 f3 f4 : Bool) (a b e d : D) : tupR [.p f1 a, .p f2 b, .p f3 e, .p f4 d] M = .ok (.p false (.tup [a, b, e, d])) M := (rfl)
@[simp] theorem lstR0 : lstR [] M = .ok (.p true (.lst [])) M := (rfl)
@[simp] theorem lstR1 (f1 : Bool) (a : D) : lstR [.p f1 a] M = .ok (.p true (.lst [a])) M := (rfl)
@[simp] theorem lstR2 (f1 f2 : Bool) (a b : D) : lstR [.p f1 a, .p f2 b] M = .ok (.p true (.lst [a, b])) M := (rfl)
@[simp] theorem lstR3 (f1 f2 f3 : Bool) (a b e : D) : lstR [.p f1 a, .p f2 b, .p f3 e] M = .ok (.p true (.lst [a, b, e])) M := (rfl)
@[simp] theorem lstR4 (f1 f2 f3 f4 : Bool) (a b e d : D) : lstR [.p f1 a, .p f2 b, .p f3 e, .p f4 d] M = .ok (.p true (.lst [a, b, e, d])) M := (rfl)
@[simp] theorem lstR5 (f1 f2 f3 f4 f5 : Bool) (a b e d g : D) : lstR [.p f1 a, .p f2 b, .p f3 e, .p f4 d, .p f5 g] M = .ok (.p true (.lst [a, b, e, d, g])) M := (rfl)
def biR (f : Str) (as : List RV) (M1 : Sto) : Res RV := match gets M1 as with
    | some ds => ofO (biD f ds) M1
    | none => .bad
@[simp] theorem e_bi (f : Str) (es : Es) : evalE P c (.bi f es) sl M = (evalEs P c es sl M).bind (biR f) := (rfl)
@[simp] theorem biR1 (f : Str) (f1 : Bool) (a : D) : biR f [.p f1 a] M = ofO (biD f [a]) M := (rfl)
@[simp] theorem biR2 (f : Str) (f1 f2 : Bool) (a b : D) : biR f [.p f1 a, .p f2 b] M = ofO (biD f [a, b]) M := (rfl)
theorem biR_own {k : Nat} {x : Cell} (f : Str) (h : M[k]? = some x) : biR f [.own k] M = ofO (biD f [x.d]) M := by unfold biR; rw [gets_own h]; rfl
def isiR (ts : List Str) (x : RV) (M1 : Sto) : Res RV := match x.get M1 with
    | some d => ofO ((isiAny d ts).map boolV) M1
    | none => .bad
@[simp] theorem e_isi (e : E) (ts : List Str) (m : Bool) : evalE P c (.isi e ts m) sl M = (evalE P c e sl M).bind (isiR ts) := (rfl)
@[simp] theorem isiR_p (ts : List Str) (fr : Bool) (d : D) : isiR ts (.p fr d) M = ofO ((isiAny d ts).map boolV) M := (rfl)
@[simp] theorem e_call (f : Nat) (es : Es) : evalE P c (.call f es) sl M = (evalEs P c es sl M).bind fun as M1 => callR P c f (as.map RV.dv) M1 := (rfl)
@[simp] theorem e_make (cl : Nat) (es : Es) : evalE P c (.make cl es) sl M = (evalEs P c es sl M).bind fun as M1 => makeR P c cl as M1 := (rfl)
def methR (m : Str) (es : Es) (sl : Slots) (x : RV) (M1 : Sto) : Res RV := match x.get M1 with
    | some d => (match methD P m d with
      | some f => (evalEs P c es sl M1).bind fun as M2 => callR P c f (x.dv :: as.map RV.dv) M2
      | none => .bad)
    | none => .bad
@[simp] theorem e_meth (m : Str) (o : E) (es : Es) : evalE P c (.meth m o es) sl M = (evalE P c o sl M).bind (methR P c m es sl) := (rfl)
theorem methR_p {m : Str} {es : Es} {fr : Bool} {d : D} {f : Nat} (h : methD P m d = some f) : methR P c m es sl (.p fr d) M = (evalEs P c es sl M).bind fun as M2 => callR P c f (.p d :: as.map RV.dv) M2 := by
  show (match methD P m d with | some f => _ | none => _) = _
  rw [h]; rfl
def cmethR (cl : Nat) (m : Str) (k : Res (List RV)) : Res RV := match P.cl cl with
    | some i => (match i.cms.lookup m with
      | some f => k.bind fun as M1 => callR P c f (.p (.cls cl) :: as.map RV.dv) M1
      | none => .bad)
    | none => .bad
@[simp] theorem e_cmeth (cl : Nat) (m : Str) (es : Es) : evalE P c (.cmeth cl m es) sl M = cmethR P c cl m (evalEs P c es sl M) := (rfl)
@[simp] theorem e_mt (m : Str) (o : E) (es : Es) : evalE P c (.mt m o es) sl M = (evalE P c o sl M).bind fun x M1 => if mtOk m x M1 = true then (evalEs P c es sl M1).bind fun as M2 => mtD m x as M2 else .bad := (rfl)
def mkvR (cl : Nat) (v : Option (Option DV)) (k : Res (List RV)) : Res RV := match v with
    | some (some (.p (.cls n))) => if n = cl then k.bind fun as M1 => makeR P c cl as M1 else .bad
    | _ => .bad
@[simp] theorem e_makev (cl j : Nat) (es : Es) : evalE P c (.makev cl j es) sl M = mkvR P c cl sl[j]? (evalEs P c es sl M) := (rfl)
@[simp] theorem mkvR_ok (cl : Nat) (k : Res (List RV)) : mkvR P c cl (some (some (.p (.cls cl)))) k = k.bind fun as M1 => makeR P c cl as M1 := if_pos rfl
def fldR (f : Str) (x : RV) (M1 : Sto) : Res RV := match x.get M1 with
    | some d => ofO ((fldD P f d).map (.p false)) M1
    | none => .bad
@[simp] theorem e_fld (o : E) (f : Str) : evalE P c (.fld o f) sl M = (evalE P c o sl M).bind (fldR P f) := (rfl)
@[simp] theorem fldR_p (f : Str) (fr : Bool) (d : D) : fldR P f (.p fr d) M = ofO ((fldD P f d).map (.p false)) M := (rfl)
theorem fldR_own {k : Nat} {x : Cell} (f : Str) (h : M[k]? = some x) : fldR P f (.own k) M = ofO ((fldD P f x.d).map (.p false)) M := by
  unfold fldR; rw [get_own, h]; rfl
def propR (f : Str) (x : RV) (M1 : Sto) : Res RV := match x.get M1 with
    | some d => (match propD P f d with
      | some g => noexc (callR P c g [x.dv] M1)
      | none => .bad)
    | none => .bad
@[simp] theorem e_eqo (a b : E) : evalE P c (.eqo a b) sl M = (evalE P c a sl M).bind fun x M1 => (evalE P c b sl M1).bind fun y M2 => eqoR P c x y M2 := (rfl)
@[simp] theorem e_methn (m : Str) (o : E) : evalE P c (.methn m o) sl M = (evalE P c o sl M).bind fun x M1 => methnR P c m x M1 := (rfl)
@[simp] theorem e_isc (e : E) (cl : Nat) : evalE P c (.isc e cl) sl M = (evalE P c e sl M).bind fun x M1 => ofO ((iscD P cl (x.get M1)).map boolV) M1 := (rfl)
@[simp] theorem e_prop (o : E) (f : Str) : evalE P c (.prop o f) sl M = (evalE P c o sl M).bind (propR P c f) := (rfl)
@[simp] theorem e_idx (a b : E) : evalE P c (.idx a b) sl M = (evalE P c a sl M).bind fun x M1 => (evalE P c b sl M1).bind fun y M2 => ofO (idxR x y M2) M2 := (rfl)
def slcR (l h : Option Int) (x : RV) (M3 : Sto) : Res RV := match x.get M3 with
    | some d => ofO ((slcD d l h).map (.p true)) M3
    | none => .bad
@[simp] theorem e_slc (a : E) (lo hi : O) : evalE P c (.slc a lo hi) sl M = (evalE P c a sl M).bind fun x M1 => (evalO P c lo sl M1).bind fun l M2 => (evalO P c hi sl M2).bind fun h M3 => slcR l h x M3 := (rfl)
@[simp] theorem slcR_p (l h : Option Int) (fr : Bool) (d : D) : slcR l h (.p fr d) M = ofO ((slcD d l h).map (.p true)) M := (rfl)
def frzR (a : RV) (M : Sto) : Res (Option D) := match a.frz M with
          | some (d, M) => .ok (some d) M
          | none => .bad
@[simp] theorem frzR_p (fr : Bool) (d : D) : frzR (.p fr d) M = .ok (some d) M := (rfl)
/-- one turn of a comprehension -/
def turnR (g : G) (sl : Slots) (t : T) (e : E) (x : D) (M : Sto) : Res (Option D) := match bindG g x sl with
      | some sl1 => (evalT P c t sl1 M).bind fun k M => if k = true then (evalE P c e sl1 M).bind frzR
        else .ok none M
      | none => .bad
@[simp] theorem e_lc (own : List (Str × Nat)) (g : G) (it : I) (t : T) (e : E) : evalE P c (.lc own g it t e) sl M = (evalI P c it sl M).bind fun xs M1 => (noexc (compGo (turnR P c g (wipe sl (own.map (·.2))) t e) xs M1)).bind fun ds M2 => ofO (lstOf ds) M2 := (rfl)
def turn2R (g : G) (sl : Slots) (t : T) (g1 : G) (it1 : I) (t1 : T) (e : E) (x : D) (M : Sto) : Res (List D) := match bindG g x sl with
      | some sl1 => (evalT P c t sl1 M).bind fun k M => if k = true then (evalI P c it1 sl1 M).bind fun ys M => compGo (turnR P c g1 (wipe sl1 g1.slots) t1 e) ys M
        else .ok [] M
      | none => .bad
@[simp] theorem e_lc2 (own : List (Str × Nat)) (g : G) (it : I) (t : T) (g1 : G) (it1 : I) (t1 : T) (e : E) : evalE P c (.lc2 own g it t g1 it1 t1 e) sl M = (evalI P c it sl M).bind fun xs M1 => (noexc (compGo2 (turn2R P c g (wipe sl (own.map (·.2))) t g1 it1 t1 e) xs M1)).bind fun ds M2 => ofO (lstOf ds) M2 := (rfl)
@[simp] theorem turnR_name (i : Nat) (t : T) (e : E) (x : D) : turnR P c (.name i) sl t e x M = (evalT P c t (sl.set i (some (.p x))) M).bind fun k M => if k = true then (evalE P c e (sl.set i (some (.p x))) M).bind frzR else .ok none M := (rfl)
@[simp] theorem turn2R_name (i : Nat) (t : T) (g1 : G) (it1 : I) (t1 : T) (e : E) (x : D) : turn2R P c (.name i) sl t g1 it1 t1 e x M = (evalT P c t (sl.set i (some (.p x))) M).bind fun k M => if k = true then (evalI P c it1 (sl.set i (some (.p x))) M).bind fun ys M => compGo (turnR P c g1 (wipe (sl.set i (some (.p x))) g1.slots) t1 e) ys M else .ok [] M := (rfl)
theorem lstOf_ok {ds : List D} (h : ds.length ≤ 16777216) : lstOf ds = some (.p true (.lst ds)) := if_pos h
@[simp] theorem o_no : evalO P c .no sl M = .ok none M := (rfl)
def oR (x : RV) (M1 : Sto) : Res (Option Int) := match x with
    | .p _ (.int i) => .ok (some i) M1
    | _ => .bad
@[simp] theorem o_some (e : E) : evalO P c (.some e) sl M = (evalE P c e sl M).bind oR := (rfl)
@[simp] theorem oR_int (fr : Bool) (i : Int) : oR (.p fr (.int i)) M = .ok (some i) M := (rfl)
@[simp] theorem es_nil : evalEs P c .nil sl M = .ok [] M := (rfl)
@[simp] theorem es_cons (e : E) (es : Es) : evalEs P c (.cons e es) sl M = (evalE P c e sl M).bind fun a M1 => (evalEs P c es sl M1).bind fun as M2 => .ok (a :: as) M2 := (rfl)
@[simp] theorem t_yes : evalT P c .yes sl M = .ok true M := (rfl)
def valR (x : RV) (M1 : Sto) : Res Bool := ofO (isB x) M1
@[simp] theorem t_val (e : E) : evalT P c (.val e) sl M = (evalE P c e sl M).bind valR := (rfl)
@[simp] theorem valR_bl (fr b : Bool) : valR (.p fr (.bl b)) M = .ok b M := (rfl)
def truR (x : RV) (M1 : Sto) : Res Bool := match x.get M1 with
    | some d => ofO (truD d) M1
    | none => .bad
@[simp] theorem t_tru (e : E) : evalT P c (.tru e) sl M = (evalE P c e sl M).bind truR := (rfl)
@[simp] theorem truR_p (fr : Bool) (d : D) : truR (.p fr d) M = ofO (truD d) M := (rfl)
@[simp] theorem t_nott (t : T) : evalT P c (.nott t) sl M = (evalT P c t sl M).bind fun k M1 => .ok (!k) M1 := (rfl)
def tandR (k2 : Sto → Res Bool) (k : Bool) (M1 : Sto) : Res Bool := if k = true then k2 M1 else .ok false M1
def torR (k2 : Sto → Res Bool) (k : Bool) (M1 : Sto) : Res Bool := if k = true then .ok true M1 else k2 M1
@[simp] theorem t_and (a b : T) : evalT P c (.and a b) sl M = (evalT P c a sl M).bind (tandR (evalT P c b sl)) := (rfl)
@[simp] theorem t_or (a b : T) : evalT P c (.or a b) sl M = (evalT P c a sl M).bind (torR (evalT P c b sl)) := (rfl)
@[simp] theorem tandR_t (k2 : Sto → Res Bool) : tandR k2 true M = k2 M := (rfl)
@[simp] theorem tandR_f (k2 : Sto → Res Bool) : tandR k2 false M = .ok false M := (rfl)
@[simp] theorem torR_t (k2 : Sto → Res Bool) : torR k2 true M = .ok true M := (rfl)
@[simp] theorem torR_f (k2 : Sto → Res Bool) : torR k2 false M = k2 M := (rfl)
theorem tandR_pure {k2 : Sto → Res Bool} {b2 : Bool} (b : Bool) (h : b = true → k2 M = .ok b2 M) : tandR k2 b M = .ok (b && b2) M := by cases b; rfl; simpa using h rfl
theorem torR_pure {k2 : Sto → Res Bool} {b2 : Bool} (b : Bool) (h : b = false → k2 M = .ok b2 M) : torR k2 b M = .ok (b || b2) M := by cases b; simpa using h rfl; rfl
def seqR (x : RV) (M1 : Sto) : Res (List D) := match x.frz M1 with
    | some (.lst xs, M2) => .ok xs M2
    | some (.tup xs, M2) => .ok xs M2
    | _ => .bad
def enumR (x : RV) (M1 : Sto) : Res (List D) := match x.frz M1 with
    | some (.lst xs, M2) => .ok (xs.zipIdx.map fun q => .tup [.int (q.2 : Nat), q.1]) M2
    | some (.tup xs, M2) => .ok (xs.zipIdx.map fun q => .tup [.int (q.2 : Nat), q.1]) M2
    | _ => .bad
def rng1R (x : RV) (M1 : Sto) : Res (List D) := match x with
    | .p _ (.int i) => if boundI i then .ok (rngD 0 i.toNat) M1 else .bad
    | _ => .bad
def rng2R (x y : RV) (M2 : Sto) : Res (List D) := match x, y with
    | .p _ (.int i), .p _ (.int j) => if boundI i && boundI j then .ok (rngD i (j - i).toNat) M2 else .bad
    | _, _ => .bad
def rng3R (x y z : RV) (M3 : Sto) : Res (List D) := match x, y, z with
    | .p _ (.int i), .p _ (.int j), .p _ (.int s) => if decide (s ≠ 0) && decide (s.natAbs < 1073741824) && Builtin.Range.small i j s then .ok ((List.range (Builtin.Range.rangeSize i j s).toNat).map fun k => .int (i + (k : Nat) * s)) M3 else .bad
    | _, _, _ => .bad
@[simp] theorem i_seq (e : E) : evalI P c (.seq e) sl M = (evalE P c e sl M).bind seqR := (rfl)
@[simp] theorem i_enum (e : E) : evalI P c (.enum e) sl M = (evalE P c e sl M).bind enumR := (rfl)
@[simp] theorem i_rng1 (a : E) : evalI P c (.rng1 a) sl M = (evalE P c a sl M).bind rng1R := (rfl)
@[simp] theorem i_rng2 (a b : E) : evalI P c (.rng2 a b) sl M = (evalE P c a sl M).bind fun x M1 => (evalE P c b sl M1).bind fun y M2 => rng2R x y M2 := (rfl)
@[simp] theorem i_rng3 (a b e : E) : evalI P c (.rng3 a b e) sl M = (evalE P c a sl M).bind fun x M1 => (evalE P c b sl M1).bind fun y M2 => (evalE P c e sl M2).bind fun z M3 => rng3R x y z M3 := (rfl)
@[simp] theorem seqR_lst (fr : Bool) (xs : List D) : seqR (.p fr (.lst xs)) M = .ok xs M := (rfl)
@[simp] theorem seqR_tup (fr : Bool) (xs : List D) : seqR (.p fr (.tup xs)) M = .ok xs M := (rfl)
/-! ### statements -/
@[simp] theorem s_expr (e : E) : execS P c (.expr e) sl M = (evalE P c e sl M).st sl fun _ M1 => .nx sl M1 := (rfl)
@[simp] theorem s_set (i : Nat) (al : Bool) (e : E) : execS P c (.set i al e) sl M = (evalE P c e sl M).st sl fun a M1 => setR i al a sl M1 := (rfl)
@[simp] theorem setR_own (i : Nat) (al : Bool) (k : Nat) : setR i al (.own k) sl M = .nx (sl.set i (some (.own k))) M := (rfl)
@[simp] theorem setR_no (i : Nat) (fr : Bool) (d : D) : setR i false (.p fr d) sl M = .nx (sl.set i (some (.p d))) M := (rfl)
@[simp] theorem setR_al (i : Nat) (xs : List D) : setR i true (.p true (.lst xs)) sl M = .nx (sl.set i (some (.own M.length))) (M ++ [.live (.lst xs)]) := (rfl)
def unpR (is : List Nat) (sl : Slots) (a : RV) (M1 : Sto) : SRes := match a with
    | .p _ d => (match bindG (.tup is) d sl with
      | some sl1 => .nx sl1 M1
      | none => .bad)
    | _ => .bad
@[simp] theorem s_unp (is : List Nat) (e : E) : execS P c (.unp is e) sl M = (evalE P c e sl M).st sl (unpR is sl) := (rfl)
@[simp] theorem unpR2 (i j : Nat) (fr : Bool) (x y : D) : unpR [i, j] sl (.p fr (.tup [x, y])) M = .nx ((sl.set i (some (.p x))).set j (some (.p y))) M := (rfl)
@[simp] theorem unpR4 (i j k l : Nat) (fr : Bool) (x y z u : D) : unpR [i, j, k, l] sl (.p fr (.tup [x, y, z, u])) M = .nx ((((sl.set i (some (.p x))).set j (some (.p y))).set k (some (.p z))).set l (some (.p u))) M := (rfl)
def setIdxR (k : Nat) (i : E) (sl : Slots) (a : RV) (M1 : Sto) : SRes := match a.frz M1, sl[k]? with
    | some (d, M2), some (some (.own j)) => (evalE P c i sl M2).st sl fun x M3 => (match x, M3[j]? with
      | .p _ (.int n), some (.live (.lst xs)) => (match L2.ixN xs.length n with
        | some m => .nx sl (M3.set j (.live (.lst (xs.set m d))))
        | none => .bad)
      | _, _ => .bad)
    | _, _ => .bad
@[simp] theorem s_setIdx (k : Nat) (i e : E) : execS P c (.setIdx k i e) sl M = (evalE P c e sl M).st sl (setIdxR P c k i sl) := (rfl)
def setFldR (k : Nat) (f : Str) (sl : Slots) (a : RV) (M1 : Sto) : SRes := match a.frz M1, sl[k]? with
    | some (d, M2), some (some (.own j)) => (match M2[j]? with
      | some (.live (.ins cl fs)) => (match P.cl cl with
        | some i => if i.flds.contains f && decide (fs.length < 1000) then .nx sl (M2.set j (.live (.ins cl (putD f d fs)))) else .bad
        | none => .bad)
      | _ => .bad)
    | _, _ => .bad
@[simp] theorem s_setFld (k : Nat) (f : Str) (e : E) : execS P c (.setFld k f e) sl M = (evalE P c e sl M).st sl (setFldR P k f sl) := (rfl)
@[simp] theorem s_ife (t : T) (a b : Ss) : execS P c (.ife t a b) sl M = (evalT P c t sl M).st sl fun k M1 => if k = true then execSs P c a sl M1 else execSs P c b sl M1 := (rfl)
/-- one turn of a loop -/
def loopR (g : G) (body : Ss) (x : D) (sl : Slots) (M : Sto) : SRes := match bindG g x sl with
    | some sl1 => execSs P c body sl1 M
    | none => .bad
@[simp] theorem s_for (g : G) (it : I) (body : Ss) : execS P c (.for_ g it body) sl M = (evalI P c it sl M).st sl fun xs M1 => forGo (loopR P c g body) xs sl M1 := (rfl)
@[simp] theorem loopR_name (i : Nat) (body : Ss) (x : D) : loopR P c (.name i) body x sl M = execSs P c body (sl.set i (some (.p x))) M := (rfl)
@[simp] theorem loopR_tup2 (i j : Nat) (body : Ss) (x y : D) : loopR P c (.tup [i, j]) body (.tup [x, y]) sl M = execSs P c body ((sl.set i (some (.p x))).set j (some (.p y))) M := (rfl)
@[simp] theorem loopR_tup4 (i j k l : Nat) (body : Ss) (x y z u : D) : loopR P c (.tup [i, j, k, l]) body (.tup [x, y, z, u]) sl M = execSs P c body ((((sl.set i (some (.p x))).set j (some (.p y))).set k (some (.p z))).set l (some (.p u))) M := (rfl)
@[simp] theorem s_ret (e : E) : execS P c (.ret e) sl M = (evalE P c e sl M).st sl fun a M1 => .rt a M1 := (rfl)
@[simp] theorem s_retN : execS P c .retN sl M = .rt (.p false .non) M := (rfl)
@[simp] theorem s_pass : execS P c .pass sl M = .nx sl M := (rfl)
@[simp] theorem s_brk : execS P c .brk sl M = .bk sl M := (rfl)
@[simp] theorem s_cont : execS P c .cont sl M = .ct sl M := (rfl)
@[simp] theorem ss_nil : execSs P c .nil sl M = .nx sl M := (rfl)
@[simp] theorem ss_cons (s : S) (ss : Ss) : execSs P c (.cons s ss) sl M = (execS P c s sl M).next (execSs P c ss) := (rfl)
@[simp] theorem next_nil (r : SRes) : r.next (execSs P c .nil) = r := by cases r <;> rfl
end
/-! ### truth values put together -/
@[simp] theorem andR_ite (k : Sto → Res RV) (fr b : Bool) (M : Sto) : andR k (.p fr (.bl b)) M = if b = true then k M else .ok (.p false (.bl false)) M := andR_bl M k fr b
@[simp] theorem orR_ite (k : Sto → Res RV) (fr b : Bool) (M : Sto) : orR k (.p fr (.bl b)) M = if b = true then .ok (.p false (.bl true)) M else k M := orR_bl M k fr b
@[simp] theorem tandR_ite (k2 : Sto → Res Bool) (k : Bool) (M : Sto) : tandR k2 k M = if k = true then k2 M else .ok false M := (rfl)
@[simp] theorem torR_ite (k2 : Sto → Res Bool) (k : Bool) (M : Sto) : torR k2 k M = if k = true then .ok true M else k2 M := (rfl)
def chn1 (op' : CmpOp) (k : Sto → Res RV) (y : RV) (o : Option Bool) (M : Sto) : Res RV := match o with
  | some true => (k M).bind fun z M3 => ofO ((cmp1 op' y z M3).map boolV) M3
  | some false => .ok (boolV false) M
  | none => .bad
@[simp] theorem chnR_1 (op op' : CmpOp) (k : Sto → Res RV) (x y : RV) (M : Sto) : chnR op op' k x y M = chn1 op' k y (cmp1 op x y M) M := (rfl)
@[simp] theorem chn1_some (op' : CmpOp) (k : Sto → Res RV) (y : RV) (b : Bool) (M : Sto) : chn1 op' k y (some b) M = if b = true then (k M).bind fun z M3 => ofO ((cmp1 op' y z M3).map boolV) M3 else .ok (.p false (.bl false)) M := by cases b <;> rfl
@[simp] theorem ite_and (p : Prop) [Decidable p] (b : Bool) (M : Sto) : (if p then Res.ok b M else Res.ok false M) = Res.ok (decide p && b) M := by by_cases h : p <;> simp [h]
@[simp] theorem ite_or (p : Prop) [Decidable p] (b : Bool) (M : Sto) : (if p then Res.ok true M else Res.ok b M) = Res.ok (decide p || b) M := by by_cases h : p <;> simp [h]
@[simp] theorem ite_andv (p : Prop) [Decidable p] (b : Bool) (M : Sto) : (if p then Res.ok (RV.p false (.bl b)) M else Res.ok (RV.p false (.bl false)) M) = Res.ok (RV.p false (.bl (decide p && b))) M := by by_cases h : p <;> simp [h]
@[simp] theorem ite_orv (p : Prop) [Decidable p] (b : Bool) (M : Sto) : (if p then Res.ok (RV.p false (.bl true)) M else Res.ok (RV.p false (.bl b)) M) = Res.ok (RV.p false (.bl (decide p || b))) M := by by_cases h : p <;> simp [h]
/-! ### defs -/
theorem run_eq {P : Prg} {fs : Nat → Option Fn} {n f : Nat} {i : Fn} (h : fs f = some i) {as : List DV} (M : Sto) (ha : as.length = i.np) :
    run P fs (n + 1) f as M = endR M.length (execSs P (run P fs n) i.body (as.map some ++ List.replicate (i.N.length - i.np) none) M) := by
  show (match fs f with | some i => runFn P (run P fs n) i as M | none => .bad) = _
  rw [h]
  exact if_pos ha
@[simp] theorem end_nx (n : Nat) (sl : Slots) (M : Sto) : endR n (.nx sl M) = .ok (.p false .non) (M.take n) := (rfl)
@[simp] theorem end_rt (n : Nat) (fr : Bool) (d : D) (M : Sto) : endR n (.rt (.p fr d) M) = .ok (.p fr d) (M.take n) := (rfl)
@[simp] theorem end_exc (n : Nat) (x : Ex) (sl : Slots) (M : Sto) : endR n (.exc x sl M) = .exc x (M.take n) := (rfl)
theorem end_own {n k : Nat} {M : Sto} {d : D} (h : n ≤ k) (e : M[k]? = some (.live d)) : endR n (.rt (.own k) M) = .ok (.p true d) (M.take n) := by
  show (if k < n then _ else match M[k]? with | some (.live d) => _ | some (.dead d) => _ | none => _) = _
  rw [if_neg (by omega), e]
/-! ### loops -/
theorem compGo_map {α : Type} {f : D → Sto → Res (Option D)} {e : α → D} {g : α → Option D} {M : Sto} : ∀ {xs : List α}, (∀ x ∈ xs, f (e x) M = .ok (g x) M) → compGo f (xs.map e) M = .ok (xs.filterMap g) M
  | [], _ => rfl
  | x :: xs, h => by
    show (f (e x) M).bind _ = _
    rw [h x (by simp), rb_ok, compGo_map fun y hy => h y (by simp [hy]), rb_ok]
    cases q : g x <;> simp [q]
theorem compGo_id {f : D → Sto → Res (Option D)} {g : D → Option D} {M : Sto} {xs : List D} (h : ∀ x ∈ xs, f x M = .ok (g x) M) : compGo f xs M = .ok (xs.filterMap g) M := by
  have := compGo_map (e := id) h
  rwa [List.map_id] at this
theorem compGo2_map {α : Type} {f : D → Sto → Res (List D)} {e : α → D} {g : α → List D} {M : Sto} : ∀ {xs : List α}, (∀ x ∈ xs, f (e x) M = .ok (g x) M) → compGo2 f (xs.map e) M = .ok (xs.flatMap g) M
  | [], _ => rfl
  | x :: xs, h => by
    show (f (e x) M).bind _ = _
    rw [h x (by simp), rb_ok, compGo2_map fun y hy => h y (by simp [hy]), rb_ok]
    simp
/-- goes on, with J -/
def Goes (r : SRes) (J : Slots → Sto → Prop) : Prop := match r with
  | .nx sl M => J sl M
  | .ct sl M => J sl M
  | _ => False
@[simp] theorem goes_nx (sl : Slots) (M : Sto) (J : Slots → Sto → Prop) : Goes (.nx sl M) J = J sl M := (rfl)
@[simp] theorem goes_ct (sl : Slots) (M : Sto) (J : Slots → Sto → Prop) : Goes (.ct sl M) J = J sl M := (rfl)
theorem goes_mono {r : SRes} {J J' : Slots → Sto → Prop} (h : Goes r J) (k : ∀ sl M, J sl M → J' sl M) : Goes r J' := by
  unfold Goes at *
  split <;> simp_all
theorem forGo_cons (f : D → Slots → Sto → SRes) (x : D) (xs : List D) (sl : Slots) (M : Sto) : forGo f (x :: xs) sl M = (match f x sl M with | .nx sl1 M1 => forGo f xs sl1 M1 | .ct sl1 M1 => forGo f xs sl1 M1 | .bk sl1 M1 => .nx sl1 M1 | r => r) := rfl
/-- a loop that goes through -/
theorem forGo_inv {α : Type} {f : D → Slots → Sto → SRes} {e : α → D} (I : List α → Slots → Sto → Prop) (all : List α) : ∀ (xs pre : List α) {sl : Slots} {M : Sto}, all = pre ++ xs → I pre sl M →
    (∀ pre x post, all = pre ++ x :: post → ∀ sl M, I pre sl M → Goes (f (e x) sl M) (I (pre ++ [x]))) →
    ∃ sl' M', forGo f (xs.map e) sl M = .nx sl' M' ∧ I all sl' M'
  | [], pre, sl, M, ha, h, _ => ⟨sl, M, rfl, by rw [ha, List.append_nil]; exact h⟩
  | x :: xs, pre, sl, M, ha, h, H => by
    have h1 := H pre x xs ha sl M h
    have ha2 : all = (pre ++ [x]) ++ xs := by rw [ha]; simp
    rw [List.map_cons, forGo_cons]
    cases q : f (e x) sl M with
    | nx sl1 M1 => rw [q] at h1; exact forGo_inv I all xs (pre ++ [x]) ha2 h1 H
    | ct sl1 M1 => rw [q] at h1; exact forGo_inv I all xs (pre ++ [x]) ha2 h1 H
    | bk sl1 M1 => rw [q] at h1; exact h1.elim
    | rt a M1 => rw [q] at h1; exact h1.elim
    | exc a b c => rw [q] at h1; exact h1.elim
    | bad => rw [q] at h1; exact h1.elim
section
variable {α : Type} {f : D → Slots → Sto → SRes} {e : α → D} {xs : List α} {sl : Slots} {M : Sto} {n : Nat} {k : Slots → Sto → SRes}
theorem for_end {R : Res RV} (I : List α → Slots → Sto → Prop) (h0 : I [] sl M) (hs : ∀ pre x post, xs = pre ++ x :: post → ∀ sl M, I pre sl M → Goes (f (e x) sl M) (I (pre ++ [x]))) (he : ∀ sl' M', I xs sl' M' → endR n (k sl' M') = R) : endR n ((forGo f (xs.map e) sl M).next k) = R := by
  obtain ⟨sl', M', h1, h2⟩ := forGo_inv I xs xs [] rfl h0 hs
  rw [h1]; exact he sl' M' h2
theorem for_in {R : SRes} (I : List α → Slots → Sto → Prop) (h0 : I [] sl M) (hs : ∀ pre x post, xs = pre ++ x :: post → ∀ sl M, I pre sl M → Goes (f (e x) sl M) (I (pre ++ [x]))) (he : ∀ sl' M', I xs sl' M' → k sl' M' = R) : (forGo f (xs.map e) sl M).next k = R := by
  obtain ⟨sl', M', h1, h2⟩ := forGo_inv I xs xs [] rfl h0 hs
  rw [h1]; exact he sl' M' h2
theorem for_goes {J : Slots → Sto → Prop} (I : List α → Slots → Sto → Prop) (h0 : I [] sl M) (hs : ∀ pre x post, xs = pre ++ x :: post → ∀ sl M, I pre sl M → Goes (f (e x) sl M) (I (pre ++ [x]))) (he : ∀ sl' M', I xs sl' M' → Goes (k sl' M') J) : Goes ((forGo f (xs.map e) sl M).next k) J := by
  obtain ⟨sl', M', h1, h2⟩ := forGo_inv I xs xs [] rfl h0 hs
  rw [h1]; exact he sl' M' h2
end
section
variable {α : Type} {f : D → Slots → Sto → SRes} {e : α → D} {xs : List α} {sl : Slots} {M : Sto} {n : Nat} {k : Slots → Sto → SRes}
theorem for_P (P : Res RV → Prop) (I : List α → Slots → Sto → Prop) (h0 : I [] sl M) (hs : ∀ pre x post, xs = pre ++ x :: post → ∀ sl M, I pre sl M → Goes (f (e x) sl M) (I (pre ++ [x]))) (he : ∀ sl' M', I xs sl' M' → P (endR n (k sl' M'))) : P (endR n ((forGo f (xs.map e) sl M).next k)) := by
  obtain ⟨sl', M', h1, h2⟩ := forGo_inv I xs xs [] rfl h0 hs
  rw [h1]; exact he sl' M' h2
end
theorem next_assoc (r : SRes) (f g : Slots → Sto → SRes) : (r.next f).next g = r.next fun sl M => (f sl M).next g := by cases r <;> rfl
theorem next_id (r : SRes) : (r.next fun sl M => .nx sl M) = r := by cases r <;> rfl
section
variable {α : Type} {f : D → Slots → Sto → SRes} {e : α → D} {xs : List α} {sl : Slots} {M : Sto}
theorem for_goes0 {J : Slots → Sto → Prop} (I : List α → Slots → Sto → Prop) (h0 : I [] sl M) (hs : ∀ pre x post, xs = pre ++ x :: post → ∀ sl M, I pre sl M → Goes (f (e x) sl M) (I (pre ++ [x]))) (he : ∀ sl' M', I xs sl' M' → J sl' M') : Goes (forGo f (xs.map e) sl M) J := by
  obtain ⟨sl', M', h1, h2⟩ := forGo_inv I xs xs [] rfl h0 hs
  rw [h1]; exact he sl' M' h2
end
/-- hands o back, if there is one, else goes on with J; the store stays -/
def Fnd (r : SRes) (o : Option RV) (M : Sto) (J : Slots → Prop) : Prop := match o with
  | some v => r = .rt v M
  | none => Goes r fun sl M' => M' = M ∧ J sl
@[simp] theorem fnd_some (r : SRes) (v : RV) (M : Sto) (J : Slots → Prop) : Fnd r (some v) M J = (r = .rt v M) := (rfl)
@[simp] theorem fnd_none (r : SRes) (M : Sto) (J : Slots → Prop) : Fnd r none M J = Goes r fun sl M' => M' = M ∧ J sl := (rfl)
theorem forGo_fnd {α : Type} {f : D → Slots → Sto → SRes} {e : α → D} (I : Slots → Prop) (g : α → Option RV) {M : Sto} : ∀ (xs : List α) {sl : Slots}, I sl →
    (∀ x ∈ xs, ∀ sl, I sl → Fnd (f (e x) sl M) (g x) M I) → (∀ v, xs.findSome? g = some v → forGo f (xs.map e) sl M = .rt v M) ∧ (xs.findSome? g = none → ∃ sl', forGo f (xs.map e) sl M = .nx sl' M ∧ I sl')
  | [], sl, h, _ => ⟨fun v q => by simp at q, fun _ => ⟨sl, rfl, h⟩⟩
  | x :: xs, sl, h, H => by
    have h1 := H x (by simp) sl h
    rw [List.findSome?_cons, List.map_cons, forGo_cons]
    cases q : g x with
    | some v =>
      rw [q, fnd_some] at h1
      rw [h1]
      exact ⟨fun w k => by cases k; rfl, fun k => by cases k⟩
    | none =>
      rw [q, fnd_none] at h1
      cases q2 : f (e x) sl M with
      | nx sl1 M1 => rw [q2] at h1; obtain ⟨rfl, h2⟩ := h1; exact forGo_fnd I g xs h2 fun y hy => H y (by simp [hy])
      | ct sl1 M1 => rw [q2] at h1; obtain ⟨rfl, h2⟩ := h1; exact forGo_fnd I g xs h2 fun y hy => H y (by simp [hy])
      | bk sl1 M1 => rw [q2] at h1; exact h1.elim
      | rt a M1 => rw [q2] at h1; exact h1.elim
      | exc a b c => rw [q2] at h1; exact h1.elim
      | bad => rw [q2] at h1; exact h1.elim
section
variable {α : Type} {f : D → Slots → Sto → SRes} {e : α → D} {xs : List α} {sl : Slots} {M : Sto} {n : Nat} {k : Slots → Sto → SRes}
/-- a searching loop, as the last statement of a loop's body -/
theorem fnd_for {J : Slots → Prop} (I : Slots → Prop) (g : α → Option RV) (h0 : I sl) (hs : ∀ x ∈ xs, ∀ sl, I sl → Fnd (f (e x) sl M) (g x) M I) (hJ : ∀ sl, I sl → Goes (k sl M) fun sl' M' => M' = M ∧ J sl') : Fnd ((forGo f (xs.map e) sl M).next k) (xs.findSome? g) M J := by
  obtain ⟨h1, h2⟩ := forGo_fnd I g xs h0 hs
  cases q : xs.findSome? g with
  | some v => rw [h1 v q]; rfl
  | none =>
    obtain ⟨sl', h3, h4⟩ := h2 q
    rw [h3]; exact hJ sl' h4
theorem fnd_for0 {J : Slots → Prop} (I : Slots → Prop) (g : α → Option RV) (h0 : I sl) (hs : ∀ x ∈ xs, ∀ sl, I sl → Fnd (f (e x) sl M) (g x) M I) (hJ : ∀ sl, I sl → J sl) : Fnd (forGo f (xs.map e) sl M) (xs.findSome? g) M J := by
  obtain ⟨h1, h2⟩ := forGo_fnd I g xs h0 hs
  cases q : xs.findSome? g with
  | some v => rw [h1 v q]; rfl
  | none =>
    obtain ⟨sl', h3, h4⟩ := h2 q
    rw [h3]; exact ⟨rfl, hJ sl' h4⟩
/-- a searching loop on a def's top -/
theorem end_for {R : Res RV} (I : Slots → Prop) (g : α → Option RV) (h0 : I sl) (hs : ∀ x ∈ xs, ∀ sl, I sl → Fnd (f (e x) sl M) (g x) M I) (h1 : ∀ v, xs.findSome? g = some v → endR n (.rt v M) = R) (h2 : xs.findSome? g = none → ∀ sl, I sl → endR n (k sl M) = R) : endR n ((forGo f (xs.map e) sl M).next k) = R := by
  obtain ⟨h3, h4⟩ := forGo_fnd I g xs h0 hs
  cases q : xs.findSome? g with
  | some v => rw [h3 v q]; exact h1 v q
  | none =>
    obtain ⟨sl', h5, h6⟩ := h4 q
    rw [h5]; exact h2 q sl' h6
end
theorem lc_map {α : Type} {f : D → Sto → Res (Option D)} {e : α → D} {M : Sto} {xs : List α} (g : α → Option D) (h : ∀ x ∈ xs, f (e x) M = .ok (g x) M) : noexc (compGo f (xs.map e) M) = .ok (xs.filterMap g) M := by
  rw [compGo_map h]; rfl
theorem lc_id {f : D → Sto → Res (Option D)} {M : Sto} {xs : List D} (g : D → Option D) (h : ∀ x ∈ xs, f x M = .ok (g x) M) : noexc (compGo f xs M) = .ok (xs.filterMap g) M := by
  rw [compGo_id h]; rfl
theorem lc2_map {α : Type} {f : D → Sto → Res (List D)} {e : α → D} {M : Sto} {xs : List α} (g : α → List D) (h : ∀ x ∈ xs, f (e x) M = .ok (g x) M) : noexc (compGo2 f (xs.map e) M) = .ok (xs.flatMap g) M := by
  rw [compGo2_map h]; rfl
end Ev

/-! DI.W: operations on numbers, pairs, masks and lists of them -/
namespace Ev
open PySem DI
/-! ### equality of plain data -/
mutual
def plainD : D → Bool
  | .non => true
  | .int _ => true
  | .str x => PyData.strOk x
  | .tup xs => plainDs xs
  | .lst xs => plainDs xs
  | _ => false
def plainDs : List D → Bool
  | [] => true
  | x :: xs => plainD x && plainDs xs
end
mutual
def depD : D → Nat
  | .tup xs => depDs xs + 1
  | .lst xs => depDs xs + 1
  | _ => 0
def depDs : List D → Nat
  | [] => 0
  | x :: xs => max (depD x) (depDs xs)
end
mutual
theorem py_plain : ∀ d : D, plainD d = true → ∃ a, d.py = some a ∧ a.canLay0 = true ∧ a.depth = depD d
  | .non, _ => ⟨.none, rfl, rfl, by simp [PyData.depth, depD]⟩
  | .int i, _ => ⟨.int i, rfl, rfl, by simp [PyData.depth, depD]⟩
  | .tup xs, h => by
    obtain ⟨as, h1, h2, h3⟩ := pys_plain xs (by simpa [plainD] using h)
    exact ⟨.tuple as, by simp [D.py, h1], by simpa [PyData.canLay0] using h2, by simp [PyData.depth, depD, h3]⟩
  | .lst xs, h => by
    obtain ⟨as, h1, h2, h3⟩ := pys_plain xs (by simpa [plainD] using h)
    exact ⟨.list as, by simp [D.py, h1], by simpa [PyData.canLay0] using h2, by simp [PyData.depth, depD, h3]⟩
  | .bl b, h => by simp [plainD] at h
  | .str x, h => ⟨.str x, rfl, by simpa [plainD, PyData.canLay0] using h, by simp [PyData.depth, depD]⟩
  | .ins c fs, h => by simp [plainD] at h
  | .scr ns, h => by simp [plainD] at h
  | .cls c, h => by simp [plainD] at h
theorem pys_plain : ∀ xs : List D, plainDs xs = true → ∃ as, D.pys xs = some as ∧ PyData.canLayAll0 as = true ∧ PyData.depthAll as = depDs xs
  | [], _ => ⟨[], rfl, rfl, by simp [PyData.depthAll, depDs]⟩
  | x :: xs, h => by
    simp only [plainDs, Bool.and_eq_true] at h
    obtain ⟨a, h1, h2, h3⟩ := py_plain x h.1
    obtain ⟨as, h4, h5, h6⟩ := pys_plain xs h.2
    exact ⟨a :: as, by simp [D.pys, h1, h4], by simp [PyData.canLayAll0, h2, h5], by simp [PyData.depthAll, depDs, h3, h6]⟩
end
mutual
theorem eqv_plain : ∀ d e : D, plainD d = true → plainD e = true → ∀ a b, d.py = some a → e.py = some b → (PyData.eqv a b = true ↔ d = e)
  | .non, e, _, h2, a, b, h3, h4 => by
    cases h3
    cases e <;> simp [plainD] at h2
    · cases h4; simp [PyData.eqv]
    · cases h4; simp [PyData.eqv]
    · cases h4; simp [PyData.eqv]
    · simp only [D.py, Option.map_eq_some_iff] at h4; obtain ⟨z, _, rfl⟩ := h4; simp [PyData.eqv]
    · simp only [D.py, Option.map_eq_some_iff] at h4; obtain ⟨z, _, rfl⟩ := h4; simp [PyData.eqv]
  | .int i, e, _, h2, a, b, h3, h4 => by
    cases h3
    cases e <;> simp [plainD] at h2
    · cases h4; simp [PyData.eqv]
    · cases h4; simp [PyData.eqv]
    · cases h4; simp [PyData.eqv]
    · simp only [D.py, Option.map_eq_some_iff] at h4; obtain ⟨z, _, rfl⟩ := h4; simp [PyData.eqv]
    · simp only [D.py, Option.map_eq_some_iff] at h4; obtain ⟨z, _, rfl⟩ := h4; simp [PyData.eqv]
  | .tup xs, e, h1, h2, a, b, h3, h4 => by
    simp only [D.py, Option.map_eq_some_iff] at h3; obtain ⟨as, h5, rfl⟩ := h3
    cases e <;> simp [plainD] at h2
    · cases h4; simp [PyData.eqv]
    · cases h4; simp [PyData.eqv]
    · cases h4; simp [PyData.eqv]
    · simp only [D.py, Option.map_eq_some_iff] at h4; obtain ⟨bs, h6, rfl⟩ := h4
      have := eqvs_plain xs _ (by simpa [plainD] using h1) h2 as bs h5 h6
      simpa [PyData.eqv] using this
    · simp only [D.py, Option.map_eq_some_iff] at h4; obtain ⟨z, _, rfl⟩ := h4; simp [PyData.eqv]
  | .lst xs, e, h1, h2, a, b, h3, h4 => by
    simp only [D.py, Option.map_eq_some_iff] at h3; obtain ⟨as, h5, rfl⟩ := h3
    cases e <;> simp [plainD] at h2
    · cases h4; simp [PyData.eqv]
    · cases h4; simp [PyData.eqv]
    · cases h4; simp [PyData.eqv]
    · simp only [D.py, Option.map_eq_some_iff] at h4; obtain ⟨z, _, rfl⟩ := h4; simp [PyData.eqv]
    · simp only [D.py, Option.map_eq_some_iff] at h4; obtain ⟨bs, h6, rfl⟩ := h4
      have := eqvs_plain xs _ (by simpa [plainD] using h1) h2 as bs h5 h6
      simpa [PyData.eqv] using this
  | .bl b, _, h, _, _, _, _, _ => by simp [plainD] at h
  | .str x, e, _, h2, a, b, h3, h4 => by
    cases h3
    cases e <;> simp [plainD] at h2
    · cases h4; simp [PyData.eqv]
    · cases h4; simp [PyData.eqv]
    · cases h4; simp [PyData.eqv]
    · simp only [D.py, Option.map_eq_some_iff] at h4; obtain ⟨z, _, rfl⟩ := h4; simp [PyData.eqv]
    · simp only [D.py, Option.map_eq_some_iff] at h4; obtain ⟨z, _, rfl⟩ := h4; simp [PyData.eqv]
  | .ins c fs, _, h, _, _, _, _, _ => by simp [plainD] at h
  | .scr ns, _, h, _, _, _, _, _ => by simp [plainD] at h
  | .cls c, _, h, _, _, _, _, _ => by simp [plainD] at h
theorem eqvs_plain : ∀ xs ys : List D, plainDs xs = true → plainDs ys = true → ∀ as bs, D.pys xs = some as → D.pys ys = some bs → (PyData.eqvAll as bs = true ↔ xs = ys)
  | [], ys, _, h2, as, bs, h3, h4 => by
    cases h3
    cases ys with
    | nil => cases h4; simp [PyData.eqvAll]
    | cons y ys =>
      simp only [plainDs, Bool.and_eq_true] at h2
      obtain ⟨b, k1, _, _⟩ := py_plain y h2.1
      obtain ⟨b2, k2, _, _⟩ := pys_plain ys h2.2
      simp only [D.pys, k1, k2, Option.some.injEq] at h4
      subst h4; simp [PyData.eqvAll]
  | x :: xs, ys, h1, h2, as, bs, h3, h4 => by
    simp only [plainDs, Bool.and_eq_true] at h1
    obtain ⟨a, j1, _, _⟩ := py_plain x h1.1
    obtain ⟨a2, j2, _, _⟩ := pys_plain xs h1.2
    simp only [D.pys, j1, j2, Option.some.injEq] at h3
    subst h3
    cases ys with
    | nil => cases h4; simp [PyData.eqvAll]
    | cons y ys =>
      simp only [plainDs, Bool.and_eq_true] at h2
      obtain ⟨b, k1, _, _⟩ := py_plain y h2.1
      obtain ⟨b2, k2, _, _⟩ := pys_plain ys h2.2
      simp only [D.pys, k1, k2, Option.some.injEq] at h4
      subst h4
      have e1 := eqv_plain x y h1.1 h2.1 a b j1 k1
      have e2 := eqvs_plain xs ys h1.2 h2.2 a2 b2 j2 k2
      simp [PyData.eqvAll, e1, e2]
end
theorem deq_ok {x y : D} {b : Bool} (h1 : plainD x = true) (h2 : plainD y = true) (d1 : depD x ≤ 60) (d2 : depD y ≤ 60) (h : b = true ↔ x = y) : deq x y = some b := by
  obtain ⟨a, j1, j2, j3⟩ := py_plain x h1
  obtain ⟨c, k1, k2, k3⟩ := py_plain y h2
  have e := eqv_plain x y h1 h2 a c j1 k1
  unfold deq
  rw [j1, k1]
  have s1 : SeqAt.shaped a = true := by unfold SeqAt.shaped; rw [j2, j3]; simp; omega
  have s2 : SeqAt.shaped c = true := by unfold SeqAt.shaped; rw [k2, k3]; simp; omega
  simp only [s1, s2, Bool.and_self, if_true]
  congr 1
  rw [Bool.eq_iff_iff, e, h]
theorem pys_mem {ys : List D} (h : plainDs ys = true) : ∀ {as : List PyData}, D.pys ys = some as → ∀ z, z ∈ as → ∃ y ∈ ys, y.py = some z := by
  induction ys with
  | nil => intro as e z hz; cases e; cases hz
  | cons y ys ih =>
    intro as e z hz
    simp only [plainDs, Bool.and_eq_true] at h
    obtain ⟨a, j1, _, _⟩ := py_plain y h.1
    obtain ⟨a2, j2, _, _⟩ := pys_plain ys h.2
    simp only [D.pys, j1, j2, Option.some.injEq] at e
    subst e
    rcases List.mem_cons.mp hz with rfl | hz
    · exact ⟨y, by simp, j1⟩
    · obtain ⟨w, h1, h2⟩ := ih h.2 j2 z hz
      exact ⟨w, by simp [h1], h2⟩
theorem plainDs_mem {ys : List D} (h : plainDs ys = true) : ∀ y ∈ ys, plainD y = true := by
  induction ys with
  | nil => intro y hy; cases hy
  | cons z ys ih =>
    simp only [plainDs, Bool.and_eq_true] at h
    intro y hy
    rcases List.mem_cons.mp hy with rfl | hy
    · exact h.1
    · exact ih h.2 y hy
theorem any_eqv {x : D} {a : PyData} (h1 : plainD x = true) (j : x.py = some a) : ∀ {ys : List D} {as : List PyData}, plainDs ys = true → D.pys ys = some as → ((as.any fun z => PyData.eqv z a) = true ↔ x ∈ ys)
  | [], as, _, e => by cases e; simp
  | y :: ys, as, h, e => by
    simp only [plainDs, Bool.and_eq_true] at h
    obtain ⟨b, j1, _, _⟩ := py_plain y h.1
    obtain ⟨a2, j2, _, _⟩ := pys_plain ys h.2
    simp only [D.pys, j1, j2, Option.some.injEq] at e
    subst e
    rw [List.any_cons, Bool.or_eq_true, any_eqv h1 j h.2 j2, eqv_plain y x h.1 h1 b a j1 j, List.mem_cons]
    constructor
    · rintro (h | h)
      · exact Or.inl h.symm
      · exact Or.inr h
    · rintro (h | h)
      · exact Or.inl h.symm
      · exact Or.inr h
theorem din_ok {x : D} {ys : List D} {b : Bool} (h1 : plainD x = true) (h2 : plainDs ys = true) (d1 : depD x ≤ 60) (d2 : depDs ys ≤ 60) (h : b = true ↔ x ∈ ys) : din x ys = some b := by
  obtain ⟨a, j1, j2, j3⟩ := py_plain x h1
  obtain ⟨c, k1, k2, k3⟩ := pys_plain ys h2
  unfold din
  rw [j1, k1]
  have s1 : SeqAt.shaped a = true := by unfold SeqAt.shaped; rw [j2, j3]; simp; omega
  have s2 : SeqAt.shaped (.list c) = true := by unfold SeqAt.shaped; simp [PyData.canLay0, PyData.depth, k2, k3]; omega
  simp only [s1, s2, Bool.and_self, if_true]
  congr 1
  rw [Bool.eq_iff_iff, any_eqv h1 j1 h2 k1, h]
/-! ### numbers, pairs, fours -/
def dn (n : Nat) : D := .int (n : Int)
def dp (p : Nat × Nat) : D := .tup [dn p.1, dn p.2]
def dq (r : Nat × Nat × Nat × Nat) : D := .tup [dn r.1, dn r.2.1, dn r.2.2.1, dn r.2.2.2]
/-- a way to write things as plain data -/
class Enc {α : Type} (e : α → D) : Prop where
  inj : ∀ a b, e a = e b → a = b
  plain : ∀ a, plainD (e a) = true
  dep : ∀ a, depD (e a) ≤ 20
theorem dn_inj {a b : Nat} (h : dn a = dn b) : a = b := by unfold dn at h; injection h with h; omega
instance : Enc dn := ⟨fun a b h => dn_inj h, fun a => rfl, fun a => by simp [dn, depD]⟩
instance : Enc dp := ⟨fun a b h => by
    unfold dp at h; simp only [D.tup.injEq, List.cons.injEq] at h
    exact Prod.ext (dn_inj h.1) (dn_inj h.2.1), fun a => by simp [dp, dn, plainD, plainDs], fun a => by simp [dp, dn, depD, depDs]⟩
instance : Enc dq := ⟨fun a b h => by
    unfold dq at h; simp only [D.tup.injEq, List.cons.injEq] at h
    obtain ⟨a1, a2, a3, a4⟩ := a
    obtain ⟨b1, b2, b3, b4⟩ := b
    have := dn_inj h.1; have := dn_inj h.2.1; have := dn_inj h.2.2.1; have := dn_inj h.2.2.2.1
    simp_all, fun a => by simp [dq, dn, plainD, plainDs], fun a => by simp [dq, dn, depD, depDs]⟩
theorem enc_mem {α : Type} {e : α → D} [E : Enc e] {a : α} {xs : List α} : e a ∈ xs.map e ↔ a ∈ xs := by
  rw [List.mem_map]
  exact ⟨fun ⟨b, h1, h2⟩ => E.inj _ _ h2 ▸ h1, fun h => ⟨a, h, rfl⟩⟩
theorem enc_plains {α : Type} {e : α → D} [E : Enc e] : ∀ xs : List α, plainDs (xs.map e) = true
  | [] => rfl
  | x :: xs => by simp [plainDs, E.plain x, enc_plains xs]
theorem enc_deps {α : Type} {e : α → D} [E : Enc e] : ∀ xs : List α, depDs (xs.map e) ≤ 20
  | [] => by simp [depDs]
  | x :: xs => by
    have := E.dep x; have := enc_deps (e := e) xs
    simp only [List.map_cons, depDs]; omega
theorem enc_map_inj {α : Type} {e : α → D} [E : Enc e] {xs ys : List α} (h : xs.map e = ys.map e) : xs = ys := by
  induction xs generalizing ys with
  | nil => cases ys with
    | nil => rfl
    | cons y ys => simp at h
  | cons x xs ih => cases ys with
    | nil => simp at h
    | cons y ys =>
      simp only [List.map_cons, List.cons.injEq] at h
      rw [E.inj _ _ h.1, ih h.2]
theorem deq_enc {α : Type} {e : α → D} [E : Enc e] [DecidableEq α] (a b : α) : deq (e a) (e b) = some (decide (a = b)) :=
  deq_ok (E.plain a) (E.plain b) (Nat.le_trans (E.dep a) (by decide)) (Nat.le_trans (E.dep b) (by decide)) (by simp only [decide_eq_true_eq]; exact ⟨fun h => by rw [h], E.inj a b⟩)
theorem deq_lst {α : Type} {e : α → D} [E : Enc e] [DecidableEq α] (xs ys : List α) : deq (.lst (xs.map e)) (.lst (ys.map e)) = some (decide (xs = ys)) := by
  have h1 := enc_deps (e := e) xs; have h2 := enc_deps (e := e) ys
  refine deq_ok (by simpa [plainD] using enc_plains xs) (by simpa [plainD] using enc_plains ys) (by simp only [depD]; omega) (by simp only [depD]; omega) ?_
  simp only [decide_eq_true_eq, D.lst.injEq]
  exact ⟨fun h => by rw [h], enc_map_inj⟩
theorem deq_tup {α : Type} {e : α → D} [E : Enc e] [DecidableEq α] (xs ys : List α) : deq (.tup (xs.map e)) (.tup (ys.map e)) = some (decide (xs = ys)) := by
  have h1 := enc_deps (e := e) xs; have h2 := enc_deps (e := e) ys
  refine deq_ok (by simpa [plainD] using enc_plains xs) (by simpa [plainD] using enc_plains ys) (by simp only [depD]; omega) (by simp only [depD]; omega) ?_
  simp only [decide_eq_true_eq, D.tup.injEq]
  exact ⟨fun h => by rw [h], enc_map_inj⟩
theorem din_enc {α : Type} {e : α → D} [E : Enc e] [DecidableEq α] (a : α) (xs : List α) : din (e a) (xs.map e) = some (decide (a ∈ xs)) := by
  have h1 := E.dep a; have h2 := enc_deps (e := e) xs
  refine din_ok (E.plain a) (enc_plains xs) (by omega) (by omega) ?_
  simp only [decide_eq_true_eq, enc_mem]
theorem findIdx_eqv {x : D} {a : PyData} (h1 : plainD x = true) (j : x.py = some a) (p : D → Bool) (hp : ∀ y, p y = true ↔ y = x) : ∀ {ys : List D} {as : List PyData}, plainDs ys = true → D.pys ys = some as → (as.findIdx? fun z => PyData.eqv z a) = ys.findIdx? p
  | [], as, _, e => by cases e; rfl
  | y :: ys, as, h, e => by
    simp only [plainDs, Bool.and_eq_true] at h
    obtain ⟨b, j1, _, _⟩ := py_plain y h.1
    obtain ⟨a2, j2, _, _⟩ := pys_plain ys h.2
    simp only [D.pys, j1, j2, Option.some.injEq] at e
    subst e
    have e1 : PyData.eqv b a = p y := by rw [Bool.eq_iff_iff, eqv_plain y x h.1 h1 b a j1 j, hp]
    rw [List.findIdx?_cons, List.findIdx?_cons, e1, findIdx_eqv h1 j p hp h.2 j2]
/-! ### values -/
@[simp] theorem int_lit (n : Nat) : D.int (no_index (@OfNat.ofNat Int n _)) = dn (@OfNat.ofNat Nat n _) := (rfl)
@[simp] theorem int_cast (n : Nat) : D.int (n : Int) = dn n := (rfl)
@[simp] theorem bin1_p (f : D → D → Option D) (f1 f2 : Bool) (x y : D) (M : Sto) : bin1 f (.p f1 x) (.p f2 y) M = (f x y).map (.p true) := (rfl)
@[simp] theorem cmp1_p (op : CmpOp) (f1 f2 : Bool) (x y : D) (M : Sto) : cmp1 op (.p f1 x) (.p f2 y) M = cmpD op x y := (rfl)
@[simp] theorem idxR_p (f1 f2 : Bool) (x y : D) (M : Sto) : idxR (.p f1 x) (.p f2 y) M = (idxD x y).map (.p false) := (rfl)
theorem bin1_own {k : Nat} {M : Sto} {x : Cell} (h : M[k]? = some x) (f : D → D → Option D) (f2 : Bool) (y : D) : bin1 f (.own k) (.p f2 y) M = (f x.d y).map (.p true) := by
  show (match (M[k]?).map Cell.d, some y with | some x, some y => _ | _, _ => _) = _
  rw [h]; rfl
theorem cmp1_own {k : Nat} {M : Sto} {x : Cell} (h : M[k]? = some x) (op : CmpOp) (f2 : Bool) (y : D) : cmp1 op (.own k) (.p f2 y) M = cmpD op x.d y := by
  show (match (M[k]?).map Cell.d, some y with | some x, some y => _ | _, _ => _) = _
  rw [h]; rfl
theorem idxR_own {k : Nat} {M : Sto} {x : Cell} (h : M[k]? = some x) (f2 : Bool) (y : D) : idxR (.own k) (.p f2 y) M = (idxD x.d y).map (.p false) := by
  show (match (M[k]?).map Cell.d, some y with | some x, some y => _ | _, _ => _) = _
  rw [h]; rfl
section
variable (a b : Nat)
@[simp] theorem op_add : opD .Add (dn a) (dn b) = some (dn (a + b)) := by
  show some (D.int ((a : Int) + b)) = some (D.int ((a + b : Nat) : Int)); rw [Int.natCast_add]
@[simp] theorem op_sub (h : b ≤ a) : opD .Sub (dn a) (dn b) = some (dn (a - b)) := by
  show some (D.int ((a : Int) - b)) = some (D.int ((a - b : Nat) : Int)); rw [Int.natCast_sub h]
theorem op_mul (h : a < 2 ^ 64 ∨ b < 2 ^ 64) : opD .Mult (dn a) (dn b) = some (dn (a * b)) := by
  show (if CMulB a b then some (D.int ((a : Int) * b)) else none) = some (D.int ((a * b : Nat) : Int))
  rw [if_pos, Int.natCast_mul]
  unfold CMulB
  simp only [Bool.or_eq_true, Bool.and_eq_true, decide_eq_true_eq]
  omega
@[simp] theorem op_mul_r (h : b < 18446744073709551616) : opD .Mult (dn a) (dn b) = some (dn (a * b)) := op_mul a b (Or.inr (by omega))
@[simp] theorem op_mul_l (h : a < 18446744073709551616) : opD .Mult (dn a) (dn b) = some (dn (a * b)) := op_mul a b (Or.inl (by omega))
theorem op_mull (xs : List D) (n : Nat) (h : n < 4611686018427387904) (h2 : xs.length * n ≤ 16777216) : opD .Mult (.lst xs) (dn n) = some (.lst (List.replicate n xs).flatten) := by
  unfold opD dn
  simp only [Int.toNat_natCast]
  rw [if_pos]
  simp only [Bool.and_eq_true, decide_eq_true_eq]
  exact ⟨⟨by omega, by omega⟩, h2⟩
@[simp] theorem op_mod (h : 0 < b) : opD .Mod (dn a) (dn b) = some (dn (a % b)) := by
  show (if decide (0 < (b : Int)) then some (D.int ((a : Int) % b)) else none) = some (D.int ((a % b : Nat) : Int))
  rw [if_pos (by simpa using h), Int.natCast_emod]
@[simp] theorem op_div (h : 0 < b ∧ b < 1073741824) : opD .FloorDiv (dn a) (dn b) = some (dn (a / b)) := by
  show (if decide (0 < (b : Int)) && decide ((b : Int) < 1073741824) then some (D.int ((a : Int) / b)) else none) = some (D.int ((a / b : Nat) : Int))
  rw [if_pos, Int.natCast_ediv]
  simp only [Bool.and_eq_true, decide_eq_true_eq]; omega
@[simp] theorem op_pow (h : b ≤ 1000000 ∧ a < 18446744073709551616) : opD .Pow (dn a) (dn b) = some (dn (a ^ b)) := by
  show (if CPowB a b then some (D.int ((a : Int) ^ ((b : Int).toNat))) else none) = some (D.int ((a ^ b : Nat) : Int))
  rw [if_pos]
  · simp [Int.natCast_pow]
  · unfold CPowB; simp only [Bool.and_eq_true, decide_eq_true_eq]; omega
@[simp] theorem cmp_lt_int (i : Int) : cmpD .Lt (.int i) (dn b) = some (decide (i < b)) := by
  show some (decide (i < (b : Int))) = _; rfl
@[simp] theorem op_sub_int (i : Int) : opD .Sub (dn a) (.int i) = some (.int (a - i)) := by
  show some (D.int ((a : Int) - i)) = _; rfl
@[simp] theorem op_shl (h : b ≤ 1000000) : opD .LShift (dn 1) (dn b) = some (dn (2 ^ b)) := by
  show (if CPowB 1 b then some (D.int (1 * 2 ^ ((b : Int).toNat))) else none) = some (D.int ((2 ^ b : Nat) : Int))
  rw [if_pos]
  · simp [Int.natCast_pow]
  · unfold CPowB; simp only [Bool.and_eq_true, decide_eq_true_eq]; exact ⟨⟨by omega, by omega⟩, by decide⟩
@[simp] theorem op_shr : opD .RShift (dn a) (dn b) = some (dn (a / 2 ^ b)) := by
  show (if decide (0 ≤ (b : Int)) then some (D.int ((a : Int) / 2 ^ ((b : Int).toNat))) else none) = some (D.int ((a / 2 ^ b : Nat) : Int))
  rw [if_pos (by simp)]; simp [Int.natCast_ediv, Int.natCast_pow]
theorem bitAnd_nat : Builtin.bitAnd (a : Int) (b : Int) = ((a &&& b : Nat) : Int) := by
  unfold Builtin.bitAnd
  simp
@[simp] theorem op_and : opD .BitAnd (dn a) (dn b) = some (dn (a &&& b)) := by
  show some (D.int (Builtin.bitAnd a b)) = some (D.int ((a &&& b : Nat) : Int)); rw [bitAnd_nat]
theorem bitOr_nat : Builtin.bitOr (a : Int) (b : Int) = ((a ||| b : Nat) : Int) := by
  unfold Builtin.bitOr Builtin.bitAnd Builtin.bitNot
  have h1 : decide ((0 : Int) ≤ -(a : Int) - 1) = false := by simp; omega
  have h2 : decide ((0 : Int) ≤ -(b : Int) - 1) = false := by simp; omega
  rw [h1, h2]
  simp only
  have e1 : (-(-(a : Int) - 1) - 1).toNat = a := by omega
  have e2 : (-(-(b : Int) - 1) - 1).toNat = b := by omega
  rw [e1, e2]; omega
@[simp] theorem op_or : opD .BitOr (dn a) (dn b) = some (dn (a ||| b)) := by
  show some (D.int (Builtin.bitOr a b)) = some (D.int ((a ||| b : Nat) : Int)); rw [bitOr_nat]
def dneg (n : Nat) : D := .int (Builtin.bitNot n)
@[simp] theorem un_inv : unD .Invert (dn a) = some (dneg a) := (rfl)
@[simp] theorem op_andneg : opD .BitAnd (dn a) (dneg b) = some (dn (a - (a &&& b))) := by
  show some (D.int (Builtin.bitAnd a (Builtin.bitNot b))) = some (D.int ((a - (a &&& b) : Nat) : Int))
  congr 2
  unfold Builtin.bitAnd Builtin.bitNot
  have h1 : decide ((0 : Int) ≤ (a : Int)) = true := by simp
  have h2 : decide ((0 : Int) ≤ -(b : Int) - 1) = false := by simp; omega
  rw [h1, h2]
  simp only
  have e2 : (-(-(b : Int) - 1) - 1).toNat = b := by omega
  have e1 : ((a : Int)).toNat = a := by omega
  rw [e1, e2, Int.natCast_sub Nat.and_le_left]
@[simp] theorem cmp_lt : cmpD .Lt (dn a) (dn b) = some (decide (a < b)) := by
  show some (decide ((a : Int) < b)) = _; simp
@[simp] theorem cmp_le : cmpD .LtE (dn a) (dn b) = some (decide (a ≤ b)) := by
  show some (decide ((a : Int) ≤ b)) = _; simp
@[simp] theorem cmp_gt : cmpD .Gt (dn a) (dn b) = some (decide (b < a)) := by
  show some (decide ((b : Int) < a)) = _; simp
@[simp] theorem cmp_ge : cmpD .GtE (dn a) (dn b) = some (decide (b ≤ a)) := by
  show some (decide ((b : Int) ≤ a)) = _; simp
@[simp] theorem cmp_eq : cmpD .Eq (dn a) (dn b) = some (decide (a = b)) := deq_enc (e := dn) a b
@[simp] theorem cmp_ne : cmpD .NotEq (dn a) (dn b) = some (!decide (a = b)) := by
  show (deq (dn a) (dn b)).map (!·) = _; rw [deq_enc (e := dn)]; rfl
@[simp] theorem tru_n : truD (dn a) = some (a != 0) := by
  show some ((a : Int) != 0) = _; congr 1; rw [Bool.eq_iff_iff]; simp
@[simp] theorem tru_b (b : Bool) : truD (.bl b) = some b := (rfl)
@[simp high] theorem tru_bit (m y : Nat) : truD (dn (m / 2 ^ y % 2)) = some (m.testBit y) := by
  rw [tru_n, testBit_div]; cases m.testBit y <;> rfl
@[simp] theorem bit_zero (m y : Nat) : (m / 2 ^ y).testBit 0 = m.testBit y := by
  rw [← Nat.shiftRight_eq_div_pow, Nat.testBit_shiftRight]; simp
@[simp] theorem is_non : cmpD .Is .non .non = some true := (rfl)
@[simp] theorem isnot_non : cmpD .IsNot .non .non = some false := (rfl)
@[simp] theorem is_tup (xs : List D) : cmpD .Is (.tup xs) .non = some false := (rfl)
@[simp] theorem isnot_tup (xs : List D) : cmpD .IsNot (.tup xs) .non = some true := (rfl)
@[simp] theorem is_lst (xs : List D) : cmpD .Is (.lst xs) .non = some false := (rfl)
@[simp] theorem isnot_lst (xs : List D) : cmpD .IsNot (.lst xs) .non = some true := (rfl)
@[simp] theorem is_dn : cmpD .Is (dn a) .non = some false := (rfl)
@[simp] theorem isnot_dn : cmpD .IsNot (dn a) .non = some true := (rfl)
@[simp] theorem is_dq (q : Nat × Nat × Nat × Nat) : cmpD .Is (dq q) .non = some false := (rfl)
@[simp] theorem isnot_dq (q : Nat × Nat × Nat × Nat) : cmpD .IsNot (dq q) .non = some true := (rfl)
@[simp] theorem ne_dq (q r : Nat × Nat × Nat × Nat) : cmpD .NotEq (dq q) (dq r) = some (!decide (q = r)) := by
  show (deq (dq q) (dq r)).map (!·) = _; rw [deq_enc (e := dq)]; rfl
@[simp] theorem eq_dp (q r : Nat × Nat) : cmpD .Eq (dp q) (dp r) = some (decide (q = r)) := deq_enc (e := dp) q r
@[simp] theorem ne_dp (q r : Nat × Nat) : cmpD .NotEq (dp q) (dp r) = some (!decide (q = r)) := by
  show (deq (dp q) (dp r)).map (!·) = _; rw [deq_enc (e := dp)]; rfl
@[simp] theorem in_dp (p : Nat × Nat) (xs : List (Nat × Nat)) : cmpD .In (dp p) (.lst (xs.map dp)) = some (decide (p ∈ xs)) := by
  show din _ _ = _; rw [din_enc (e := dp)]; congr 1; rw [Bool.eq_iff_iff]; simp
@[simp] theorem notin_dp (p : Nat × Nat) (xs : List (Nat × Nat)) : cmpD .NotIn (dp p) (.lst (xs.map dp)) = some (!decide (p ∈ xs)) := by
  show (din (dp p) (xs.map dp)).map (!·) = _; rw [din_enc (e := dp)]; show some _ = some _; congr 1; rw [Bool.eq_iff_iff]; simp
@[simp] theorem in_dn (p : Nat) (xs : List Nat) : cmpD .In (dn p) (.lst (xs.map dn)) = some (decide (p ∈ xs)) := din_enc (e := dn) p xs
@[simp] theorem notin_dn (p : Nat) (xs : List Nat) : cmpD .NotIn (dn p) (.lst (xs.map dn)) = some (!decide (p ∈ xs)) := by
  show (din (dn p) (xs.map dn)).map (!·) = _; rw [din_enc (e := dn)]; rfl
@[simp] theorem ne_lstn (xs ys : List Nat) : cmpD .NotEq (.lst (xs.map dn)) (.lst (ys.map dn)) = some (!decide (xs = ys)) := by
  show (deq _ _).map (!·) = _; rw [deq_lst (e := dn)]; rfl
@[simp] theorem eq_lstn (xs ys : List Nat) : cmpD .Eq (.lst (xs.map dn)) (.lst (ys.map dn)) = some (decide (xs = ys)) := deq_lst (e := dn) xs ys
@[simp] theorem mk_dp : D.tup [dn a, dn b] = dp (a, b) := (rfl)
@[simp] theorem mk_dq (a b c d : Nat) : D.tup [dn a, dn b, dn c, dn d] = dq (a, b, c, d) := (rfl)
end
/-! ### built-ins -/
@[simp] theorem bi_len_lst (xs : List D) : biD ("len" : Str) [.lst xs] = some (.p false (dn xs.length)) := by
  unfold biD; rw [if_pos (by decide)]; rfl
@[simp] theorem bi_len_tup (xs : List D) : biD ("len" : Str) [.tup xs] = some (.p false (dn xs.length)) := by
  unfold biD; rw [if_pos (by decide)]; rfl
@[simp] theorem bi_len_scr (xs : List Int) : biD ("len" : Str) [.scr xs] = some (.p false (dn xs.length)) := by
  unfold biD; rw [if_pos (by decide)]; rfl
@[simp] theorem bi_len_dp (q : Nat × Nat) : biD ("len" : Str) [dp q] = some (.p false (dn 2)) := by
  unfold dp; rw [bi_len_tup]; rfl
@[simp] theorem bi_int_dn (a : Nat) : biD ("int" : Str) [dn a] = some (.p false (dn a)) := by
  unfold biD; rw [if_neg (by decide), if_pos (by decide)]; rfl
@[simp] theorem bi_int (a : Int) : biD ("int" : Str) [.int a] = some (.p false (.int a)) := by
  unfold biD; rw [if_neg (by decide), if_pos (by decide)]
@[simp] theorem bi_min (a b : Nat) : biD ("min" : Str) [dn a, dn b] = some (.p false (dn (min a b))) := by
  unfold biD; rw [if_neg (by decide), if_neg (by decide), if_pos (by decide)]
  show some (RV.p false (.int (if (b : Int) < a then b else a))) = _
  congr 2
  show _ = D.int ((min a b : Nat) : Int)
  congr 1
  split <;> omega
@[simp] theorem bi_max (a b : Nat) : biD ("max" : Str) [dn a, dn b] = some (.p false (dn (max a b))) := by
  unfold biD; rw [if_neg (by decide), if_neg (by decide), if_neg (by decide), if_pos (by decide)]
  show some (RV.p false (.int (if (b : Int) > a then b else a))) = _
  congr 2
  show _ = D.int ((max a b : Nat) : Int)
  congr 1
  split <;> omega
@[simp] theorem bi_list_lst (xs : List D) : biD ("list" : Str) [.lst xs] = some (.p true (.lst xs)) := by
  unfold biD; rw [if_neg (by decide), if_neg (by decide), if_neg (by decide), if_neg (by decide), if_pos (by decide)]
@[simp] theorem bi_list_tup (xs : List D) : biD ("list" : Str) [.tup xs] = some (.p true (.lst xs)) := by
  unfold biD; rw [if_neg (by decide), if_neg (by decide), if_neg (by decide), if_neg (by decide), if_pos (by decide)]
@[simp] theorem bi_tuple_lst (xs : List D) : biD ("tuple" : Str) [.lst xs] = some (.p false (.tup xs)) := by
  unfold biD; rw [if_neg (by decide), if_neg (by decide), if_neg (by decide), if_neg (by decide), if_neg (by decide), if_pos (by decide)]
@[simp] theorem bi_tuple_tup (xs : List D) : biD ("tuple" : Str) [.tup xs] = some (.p false (.tup xs)) := by
  unfold biD; rw [if_neg (by decide), if_neg (by decide), if_neg (by decide), if_neg (by decide), if_neg (by decide), if_pos (by decide)]
theorem bi_sorted (xs : List D) (h : sortB xs = true) : biD ("sorted" : Str) [.lst xs] = some (.p true (.lst (sortD xs))) := by
  unfold biD; rw [if_neg (by decide), if_neg (by decide), if_neg (by decide), if_neg (by decide), if_neg (by decide), if_neg (by decide), if_pos (by decide)]
  exact if_pos h
theorem sort_dp (ps : List (Nat × Nat)) : ∃ qs : List (Nat × Nat), qs.Perm ps ∧ biD ("sorted" : Str) [.lst (ps.map dp)] = some (.p true (.lst (qs.map dp))) := by
  have hb : sortB (ps.map dp) = true := by
    unfold sortB
    rw [Bool.or_eq_true, Bool.or_eq_true]; left; right
    rw [List.all_eq_true]
    intro x hx
    obtain ⟨p, _, rfl⟩ := List.mem_map.mp hx
    rfl
  have hp : (sortD (ps.map dp)).Perm (ps.map dp) := List.mergeSort_perm _ _
  obtain ⟨qs, h1, h2⟩ := perm_map (f := dp) (g := fun d => match d with | .tup [.int i, .int j] => (i.toNat, j.toNat) | _ => (0, 0)) (fun x => by show ((x.1 : Int).toNat, (x.2 : Int).toNat) = x; simp) hp
  exact ⟨qs, h1, by rw [bi_sorted _ hb, h2]⟩
theorem sort_lst (ps : List (List Nat)) : ∃ qs : List (List Nat), qs.Perm ps ∧ biD ("sorted" : Str) [.lst (ps.map fun r => .lst (r.map dn))] = some (.p true (.lst (qs.map fun r => .lst (r.map dn)))) := by
  have hi : ∀ r : List Nat, (intsO (r.map dn)).isSome = true := by
    intro r
    induction r with
    | nil => rfl
    | cons x r ih =>
      show ((intsO (r.map dn)).map ((x : Int) :: ·)).isSome = true
      rw [Option.isSome_map]; exact ih
  have hb : sortB (ps.map fun r => D.lst (r.map dn)) = true := by
    unfold sortB
    rw [Bool.or_eq_true]; right
    rw [List.all_eq_true]
    intro x hx
    obtain ⟨p, _, rfl⟩ := List.mem_map.mp hx
    exact hi p
  have hp : (sortD (ps.map fun r => D.lst (r.map dn))).Perm (ps.map fun r => D.lst (r.map dn)) := List.mergeSort_perm _ _
  obtain ⟨qs, h1, h2⟩ := perm_map (f := fun r : List Nat => D.lst (r.map dn)) (g := fun d => match d with | .lst xs => xs.map (fun z => match z with | .int i => i.toNat | _ => 0) | _ => []) (fun r => by
    show (r.map dn).map _ = r
    rw [List.map_map]
    have : ((fun z => match z with | D.int i => i.toNat | _ => 0) ∘ dn) = fun x : Nat => x := by funext x; show ((x : Int)).toNat = x; simp
    rw [this]; simp) hp
  exact ⟨qs, h1, by rw [bi_sorted _ hb, h2]⟩
theorem bls_map {α : Type} (f : α → Bool) : ∀ xs : List α, blsO (xs.map fun x => .bl (f x)) = some (xs.map f)
  | [] => rfl
  | x :: xs => by
    show (blsO (xs.map fun x => .bl (f x))).map (f x :: ·) = _
    rw [bls_map f xs]; rfl
@[simp] theorem bi_any (xs : List D) : biD ("any" : Str) [.lst xs] = (blsO xs).map fun bs => .p false (.bl (bs.any id)) := by
  unfold biD; rw [if_neg (by decide), if_neg (by decide), if_neg (by decide), if_neg (by decide), if_neg (by decide), if_neg (by decide), if_neg (by decide), if_pos (by decide)]
@[simp] theorem bi_all (xs : List D) : biD ("all" : Str) [.lst xs] = (blsO xs).map fun bs => .p false (.bl (bs.all id)) := by
  unfold biD; rw [if_neg (by decide), if_neg (by decide), if_neg (by decide), if_neg (by decide), if_neg (by decide), if_neg (by decide), if_neg (by decide), if_neg (by decide), if_pos (by decide)]
@[simp] theorem in_dn_tup (p : Nat) (xs : List Nat) : cmpD .In (dn p) (.tup (xs.map dn)) = some (decide (p ∈ xs)) := din_enc (e := dn) p xs
@[simp] theorem notin_dn_tup (p : Nat) (xs : List Nat) : cmpD .NotIn (dn p) (.tup (xs.map dn)) = some (!decide (p ∈ xs)) := by
  show (din (dn p) (xs.map dn)).map (!·) = _; rw [din_enc (e := dn)]; rfl
/-! ### kinds -/
@[simp] theorem isi_dn_int (a : Nat) : isiAny (dn a) [("int" : Str)] = some true := by
  show (match isiD (dn a) ("int" : Str) with | some true => some true | some false => isiAny (dn a) [] | none => none) = _
  rw [show isiD (dn a) ("int" : Str) = some true by show isiS "int" ("int" : Str) = _; decide]
@[simp] theorem isi_dn_bool (a : Nat) : isiAny (dn a) [("bool" : Str)] = some false := by
  show (match isiD (dn a) ("bool" : Str) with | some true => some true | some false => isiAny (dn a) [] | none => none) = _
  rw [show isiD (dn a) ("bool" : Str) = some false by show isiS "int" ("bool" : Str) = _; decide]; rfl
@[simp] theorem isi_bl_int (b : Bool) : isiAny (.bl b) [("int" : Str)] = some true := by
  show (match isiD (.bl b) ("int" : Str) with | some true => some true | some false => isiAny (.bl b) [] | none => none) = _
  rw [show isiD (.bl b) ("int" : Str) = some true by show isiS "bool" ("int" : Str) = _; decide]
@[simp] theorem isi_bl_bool (b : Bool) : isiAny (.bl b) [("bool" : Str)] = some true := by
  show (match isiD (.bl b) ("bool" : Str) with | some true => some true | some false => isiAny (.bl b) [] | none => none) = _
  rw [show isiD (.bl b) ("bool" : Str) = some true by show isiS "bool" ("bool" : Str) = _; decide]
@[simp] theorem isi_tup_lt (xs : List D) : isiAny (.tup xs) [("list" : Str), ("tuple" : Str)] = some true := by
  show (match isiD (.tup xs) ("list" : Str) with | some true => some true | some false => (match isiD (.tup xs) ("tuple" : Str) with | some true => some true | some false => isiAny (.tup xs) [] | none => none) | none => none) = _
  rw [show isiD (.tup xs) ("list" : Str) = some false by show isiS "tuple" ("list" : Str) = _; decide, show isiD (.tup xs) ("tuple" : Str) = some true by show isiS "tuple" ("tuple" : Str) = _; decide]
@[simp] theorem isi_tup_t (xs : List D) : isiAny (.tup xs) [("tuple" : Str)] = some true := by
  show (match isiD (.tup xs) ("tuple" : Str) with | some true => some true | some false => isiAny (.tup xs) [] | none => none) = _
  rw [show isiD (.tup xs) ("tuple" : Str) = some true by show isiS "tuple" ("tuple" : Str) = _; decide]
@[simp] theorem isi_dp_lt (q : Nat × Nat) : isiAny (dp q) [("list" : Str), ("tuple" : Str)] = some true := isi_tup_lt _
@[simp] theorem isi_dq_t (q : Nat × Nat × Nat × Nat) : isiAny (dq q) [("tuple" : Str)] = some true := isi_tup_t _
/-! ### ranges -/
theorem boundI_nat {n : Nat} (h : n < 4611686018427387904) : boundI (n : Int) = true := by
  unfold boundI; simp only [Bool.and_eq_true, decide_eq_true_eq]; omega
@[simp] theorem rng1_dn (fr : Bool) (n : Nat) (M : Sto) (h : n < 4611686018427387904) : rng1R (.p fr (dn n)) M = .ok ((List.range n).map dn) M := by
  show (if boundI (n : Int) then Res.ok (rngD 0 ((n : Int).toNat)) M else .bad) = _
  rw [if_pos (boundI_nat h)]
  unfold rngD
  congr 1
  have : (n : Int).toNat = n := by omega
  rw [this]
  exact List.map_congr_left fun k _ => by show D.int (0 + (k : Int)) = D.int k; rw [Int.zero_add]
@[simp] theorem rng2_dn (f1 f2 : Bool) (m n : Nat) (M : Sto) (hm : m < 4611686018427387904) (hn : n < 4611686018427387904) : rng2R (.p f1 (dn m)) (.p f2 (dn n)) M = .ok ((List.range' m (n - m)).map dn) M := by
  show (if boundI (m : Int) && boundI (n : Int) then Res.ok (rngD (m : Int) (((n : Int) - (m : Int)).toNat)) M else .bad) = _
  rw [if_pos (by rw [boundI_nat hm, boundI_nat hn]; rfl)]
  unfold rngD
  congr 1
  have : ((n : Int) - (m : Int)).toNat = n - m := by omega
  rw [this, List.range'_eq_map_range, List.map_map]
  exact List.map_congr_left fun k _ => by show D.int ((m : Int) + (k : Int)) = D.int ((m + k : Nat) : Int); rw [Int.natCast_add]
@[simp] theorem mem_rng2 {m n x : Nat} : x ∈ List.range' m (n - m) ↔ m ≤ x ∧ x < n := by
  rw [List.mem_range'_1]; omega
/-! ### places of lists -/
theorem atI_nat {α : Type} {xs : List α} {i : Nat} (h : i < xs.length) : L2.atI xs (i : Int) = some xs[i] := by
  unfold L2.atI L2.ixN
  rw [if_pos (by omega), if_pos (by omega)]
  show xs[(i : Int).toNat]? = _
  have : (i : Int).toNat = i := by omega
  rw [this, List.getElem?_eq_getElem h]
theorem idx_lst {xs : List D} {i : Nat} {x : D} (h : xs[i]? = some x) : idxD (.lst xs) (dn i) = some x := by
  show L2.atI xs (i : Int) = _
  obtain ⟨h1, h2⟩ := List.getElem?_eq_some_iff.mp h
  rw [atI_nat h1, h2]
theorem idx_tup {xs : List D} {i : Nat} {x : D} (h : xs[i]? = some x) : idxD (.tup xs) (dn i) = some x := by
  show L2.atI xs (i : Int) = _
  obtain ⟨h1, h2⟩ := List.getElem?_eq_some_iff.mp h
  rw [atI_nat h1, h2]
@[simp] theorem idx_lst_map {α : Type} (e : α → D) (xs : List α) (i : Nat) (h : i < xs.length) : idxD (.lst (xs.map e)) (dn i) = some (e xs[i]) := idx_lst (by simp [h])
@[simp] theorem idx_tup_map {α : Type} (e : α → D) (xs : List α) (i : Nat) (h : i < xs.length) : idxD (.tup (xs.map e)) (dn i) = some (e xs[i]) := idx_tup (by simp [h])
@[simp] theorem idx_scr (ns : List Int) (i : Nat) (h : i < ns.length) : idxD (.scr ns) (dn i) = some (.int ns[i]) := by
  show (L2.atI ns (i : Int)).map D.int = _
  rw [atI_nat h]; rfl
@[simp] theorem idx_dq0 (r : Nat × Nat × Nat × Nat) : idxD (dq r) (dn 0) = some (dn r.1) := (rfl)
@[simp] theorem idx_dq1 (r : Nat × Nat × Nat × Nat) : idxD (dq r) (dn 1) = some (dn r.2.1) := (rfl)
@[simp] theorem idx_dq2 (r : Nat × Nat × Nat × Nat) : idxD (dq r) (dn 2) = some (dn r.2.2.1) := (rfl)
@[simp] theorem idx_dq3 (r : Nat × Nat × Nat × Nat) : idxD (dq r) (dn 3) = some (dn r.2.2.2) := (rfl)
theorem ixN_nat {n i : Nat} (h : i < n) : L2.ixN n (i : Int) = some i := by
  unfold L2.ixN
  rw [if_pos (by omega), if_pos (by omega)]
  congr 1
section
variable {P : Prg} {c : Orc}
theorem setIdx_ok {k j i : Nat} {ie : E} {sl : Slots} {f f2 : Bool} {d : D} {M : Sto} {xs : List D} (h1 : sl[k]? = some (some (.own j))) (h2 : M[j]? = some (.live (.lst xs))) (h3 : evalE P c ie sl M = .ok (.p f2 (dn i)) M) (h4 : i < xs.length) :
    setIdxR P c k ie sl (.p f d) M = .nx sl (M.set j (.live (.lst (xs.set i d)))) := by
  unfold setIdxR
  rw [frz_p, h1]
  show (evalE P c ie sl M).st sl _ = _
  rw [h3, st_ok, h2]
  show (match L2.ixN xs.length (i : Int) with | some m => _ | none => _) = _
  rw [ixN_nat h4]
end
/-! ### methods of lists -/
theorem mt_append_own {k : Nat} {M : Sto} {xs : List D} (h : M[k]? = some (.live (.lst xs))) (fr : Bool) (d : D) (hl : xs.length < 16777216) : mtD ("append" : Str) (.own k) [.p fr d] M = .ok (.p false .non) (M.set k (.live (.lst (xs ++ [d])))) := by
  unfold mtD
  rw [if_pos (by decide)]
  simp only [frz_p, h]
  exact if_pos hl
theorem mtOk_own {m : Str} {k : Nat} {M : Sto} {xs : List D} (h : M[k]? = some (.live (.lst xs))) : mtOk m (.own k) M = true := by
  unfold mtOk
  split
  · rfl
  · rw [get_own, h]; rfl
theorem mt_pop_own {k : Nat} {M : Sto} {xs : List D} {d : D} (h : M[k]? = some (.live (.lst xs))) (hl : xs.getLast? = some d) : mtD ("pop" : Str) (.own k) [] M = .ok (.p false d) (M.set k (.live (.lst xs.dropLast))) := by
  unfold mtD
  rw [if_neg (by decide), if_pos (by decide)]
  simp only [h]
  rw [List.getLast?_eq_getElem?] at hl
  rw [hl]
theorem mt_reverse_own {k : Nat} {M : Sto} {xs : List D} (h : M[k]? = some (.live (.lst xs))) : mtD ("reverse" : Str) (.own k) [] M = .ok (.p false .non) (M.set k (.live (.lst xs.reverse))) := by
  unfold mtD
  rw [if_neg (by decide), if_neg (by decide), if_pos (by decide)]
  simp only [h]
@[simp] theorem mt_bits (fr : Bool) (a : Nat) (M : Sto) : mtD ("bit_length" : Str) (.p fr (dn a)) [] M = .ok (.p false (dn (Builtin.Int.intBits (a : Int)))) M := by
  unfold mtD
  rw [if_neg (by decide), if_neg (by decide), if_neg (by decide), if_pos (by decide)]
  rfl
@[simp] theorem mtOk_bits (o : RV) (M : Sto) : mtOk ("bit_length" : Str) o M = true := by unfold mtOk; exact if_pos rfl
@[simp] theorem mtOk_lst (m : Str) (fr : Bool) (xs : List D) (M : Sto) : mtOk m (.p fr (.lst xs)) M = true := by
  unfold mtOk; split
  · rfl
  · rfl
theorem mt_index {α : Type} {e : α → D} [E : Enc e] [DecidableEq α] (fr f2 : Bool) (xs : List α) (a : α) (M : Sto) (h : a ∈ xs) : mtD ("index" : Str) (.p fr (.lst (xs.map e))) [.p f2 (e a)] M = .ok (.p false (dn (xs.findIdx (· = a)))) M := by
  unfold mtD
  rw [if_neg (by decide), if_neg (by decide), if_neg (by decide), if_neg (by decide), if_pos (by decide)]
  obtain ⟨b, j1, j2, j3⟩ := py_plain (e a) (E.plain a)
  obtain ⟨c, k1, k2, k3⟩ := pys_plain (xs.map e) (enc_plains xs)
  have q1 := E.dep a; have q2 := enc_deps (e := e) xs
  have s1 : SeqAt.shaped b = true := by unfold SeqAt.shaped; rw [j2, j3]; simp; omega
  have s2 : SeqAt.shaped (.list c) = true := by unfold SeqAt.shaped; simp [PyData.canLay0, PyData.depth, k2, k3]; omega
  simp only [get_p, gets_p, gets_nil, Option.map_some, j1, k1, s1, s2, Bool.and_self, if_true]
  have hx : ∀ p : D → Bool, (∀ y, p y = true ↔ y = e a) → (xs.map e).findIdx? p = some (xs.findIdx (· = a)) := by
    intro p hp
    rw [List.findIdx?_map]
    have : p ∘ e = fun y => decide (y = a) := by
      funext y
      show p (e y) = decide (y = a)
      rw [Bool.eq_iff_iff, hp, decide_eq_true_eq]
      exact ⟨E.inj y a, fun h => by rw [h]⟩
    rw [this, List.findIdx?_eq_some_iff_findIdx_eq]
    exact ⟨List.findIdx_lt_length_of_exists ⟨a, h, by simp⟩, rfl⟩
  have hd : ∀ y : D, (@decide (y = e a) (Classical.propDecidable _)) = true ↔ y = e a := fun y => by simp
  rw [findIdx_eqv (E.plain a) j1 _ hd (enc_plains xs) k1, hx _ hd]
  rfl
/-! ### things of the store -/
def cellR {α : Type} (o : Option Cell) (g : Cell → Res α) : Res α := match o with
  | some x => g x
  | none => .bad
@[simp] theorem cellR_some {α : Type} (x : Cell) (g : Cell → Res α) : cellR (some x) g = g x := (rfl)
def cellS (o : Option Cell) (g : Cell → SRes) : SRes := match o with
  | some x => g x
  | none => .bad
@[simp] theorem cellS_some (x : Cell) (g : Cell → SRes) : cellS (some x) g = g x := (rfl)
section
variable (P : Prg) (c : Orc) (M : Sto) (k : Nat)
@[simp] theorem gets_own' (r : List RV) : gets M (.own k :: r) = (M[k]?).bind fun x => (gets M r).map (x.d :: ·) := by
  cases h : M[k]? with
  | none => show (match (M[k]?).map Cell.d, gets M r with | some d, some ds => some (d :: ds) | _, _ => none) = _; rw [h]; rfl
  | some x => rw [gets_own h]; rfl
@[simp] theorem biR_own' (f : Str) : biR f [.own k] M = cellR M[k]? fun x => ofO (biD f [x.d]) M := by
  unfold biR; rw [gets_own']; cases M[k]? <;> rfl
@[simp] theorem bin1_own' (f : D → D → Option D) (f2 : Bool) (y : D) : bin1 f (.own k) (.p f2 y) M = (M[k]?).bind fun x => (f x.d y).map (.p true) := by
  unfold bin1; rw [get_own]; cases M[k]? <;> rfl
@[simp] theorem cmp1_own' (op : CmpOp) (f2 : Bool) (y : D) : cmp1 op (.own k) (.p f2 y) M = (M[k]?).bind fun x => cmpD op x.d y := by
  unfold cmp1; rw [get_own]; cases M[k]? <;> rfl
@[simp] theorem idxR_own' (f2 : Bool) (y : D) : idxR (.own k) (.p f2 y) M = (M[k]?).bind fun x => (idxD x.d y).map (.p false) := by
  unfold idxR; rw [get_own]; cases M[k]? <;> rfl
@[simp] theorem fldR_own' (f : Str) : fldR P f (.own k) M = cellR M[k]? fun x => ofO ((fldD P f x.d).map (.p false)) M := by
  unfold fldR; rw [get_own]; cases M[k]? <;> rfl
@[simp] theorem truR_own' : truR (.own k) M = cellR M[k]? fun x => ofO (truD x.d) M := by
  unfold truR; rw [get_own]; cases M[k]? <;> rfl
@[simp] theorem slcR_own' (l h : Option Int) : slcR l h (.own k) M = cellR M[k]? fun x => ofO ((slcD x.d l h).map (.p true)) M := by
  unfold slcR; rw [get_own]; cases M[k]? <;> rfl
@[simp] theorem frz_own' : (RV.own k).frz M = (M[k]?).map fun x => (x.d, M.set k (.dead x.d)) := by
  unfold RV.frz; dsimp only; cases M[k]? <;> rfl
@[simp] theorem frzR_own' : frzR (.own k) M = cellR M[k]? fun x => .ok (some x.d) (M.set k (.dead x.d)) := by
  unfold frzR; rw [frz_own']; cases M[k]? <;> rfl
@[simp] theorem frzs_own' (r : List RV) : frzs (.own k :: r) M = (M[k]?).bind fun x => (frzs r (M.set k (.dead x.d))).map fun q => (x.d :: q.1, q.2) := by
  show (match (RV.own k).frz M with | some (d, M1) => (match frzs r M1 with | some (ds, M2) => some (d :: ds, M2) | none => none) | none => none) = _
  rw [frz_own']
  cases M[k]? with
  | none => rfl
  | some x =>
    show (match frzs r (M.set k (.dead x.d)) with | some (ds, M2) => some (x.d :: ds, M2) | none => none) = (frzs r (M.set k (.dead x.d))).map fun q => (x.d :: q.1, q.2)
    cases frzs r (M.set k (.dead x.d)) <;> rfl
def lst0 (o : Option (List D × Sto)) : Res RV := match o with
  | some (ds, M2) => ofO (lstOf ds) M2
  | none => .bad
@[simp low] theorem lstR_low (as : List RV) : lstR as M = lst0 (frzs as M) := (rfl)
@[simp] theorem lst0_some (ds : List D) (M2 : Sto) (h : ds.length ≤ 16777216) : lst0 (some (ds, M2)) = .ok (.p true (.lst ds)) M2 := by
  show ofO (lstOf ds) M2 = _
  rw [lstOf_ok h]; rfl
def seqC (x : Cell) (M : Sto) : Res (List D) := match x.d with
  | .lst xs => .ok xs M
  | .tup xs => .ok xs M
  | _ => .bad
@[simp] theorem seqC_lst (xs : List D) : seqC (.live (.lst xs)) M = .ok xs M := (rfl)
@[simp] theorem seqC_dlst (xs : List D) : seqC (.dead (.lst xs)) M = .ok xs M := (rfl)
@[simp] theorem seqR_own' : seqR (.own k) M = cellR M[k]? fun x => seqC x (M.set k (.dead x.d)) := by
  unfold seqR; rw [frz_own']
  cases M[k]? with
  | none => rfl
  | some x => show (match some (x.d, M.set k (.dead x.d)) with | some (.lst xs, M2) => Res.ok xs M2 | some (.tup xs, M2) => .ok xs M2 | _ => .bad) = seqC x (M.set k (.dead x.d)); unfold seqC; cases x.d <;> rfl
def appC (k : Nat) (d : D) (M : Sto) (x : Cell) : Res RV := match x with
  | .live (.lst xs) => if xs.length < SZ then .ok (.p false .non) (M.set k (.live (.lst (xs ++ [d])))) else .bad
  | _ => .bad
@[simp] theorem mt_append' (fr : Bool) (d : D) : mtD ("append" : Str) (.own k) [.p fr d] M = cellR M[k]? (appC k d M) := by
  unfold mtD
  rw [if_pos (by decide)]
  simp only [frz_p]
  cases M[k]? with
  | none => rfl
  | some x => cases x with
    | live d => cases d <;> rfl
    | dead d => rfl
@[simp] theorem appC_ok (d : D) (xs : List D) (h : xs.length < 16777216) : appC k d M (.live (.lst xs)) = .ok (.p false .non) (M.set k (.live (.lst (xs ++ [d])))) := if_pos h
def popC (k : Nat) (M : Sto) (x : Cell) : Res RV := match x with
  | .live (.lst xs) => (match xs[xs.length - 1]? with
        | some d => .ok (.p false d) (M.set k (.live (.lst xs.dropLast)))
        | none => .bad)
  | _ => .bad
@[simp] theorem mt_pop' : mtD ("pop" : Str) (.own k) [] M = cellR M[k]? (popC k M) := by
  unfold mtD
  rw [if_neg (by decide), if_pos (by decide)]
  dsimp only
  cases M[k]? with
  | none => rfl
  | some x => cases x with
    | live d => cases d <;> rfl
    | dead d => rfl
def revC (k : Nat) (M : Sto) (x : Cell) : Res RV := match x with
  | .live (.lst xs) => .ok (.p false .non) (M.set k (.live (.lst xs.reverse)))
  | _ => .bad
@[simp] theorem mt_reverse' : mtD ("reverse" : Str) (.own k) [] M = cellR M[k]? (revC k M) := by
  unfold mtD
  rw [if_neg (by decide), if_neg (by decide), if_pos (by decide)]
  dsimp only
  cases M[k]? with
  | none => rfl
  | some x => cases x with
    | live d => cases d <;> rfl
    | dead d => rfl
@[simp] theorem revC_ok (xs : List D) : revC k M (.live (.lst xs)) = .ok (.p false .non) (M.set k (.live (.lst xs.reverse))) := (rfl)
@[simp] theorem mtOk_own' (m : Str) (xs : List D) (L : Sto) : mtOk m (.own M.length) (M ++ .live (.lst xs) :: L) = true := mtOk_own (xs := xs) (by simp)
@[simp] theorem mtOk_own1 (m : Str) (xs : List D) (x : Cell) (L : Sto) : mtOk m (.own (M.length + 1)) (M ++ x :: .live (.lst xs) :: L) = true := mtOk_own (xs := xs) (by simp)
def sixR (j : Nat) (d : D) (sl : Slots) (x : RV) (M3 : Sto) : SRes := match x, M3[j]? with
      | .p _ (.int n), some (.live (.lst xs)) => (match L2.ixN xs.length n with
        | some m => .nx sl (M3.set j (.live (.lst (xs.set m d))))
        | none => .bad)
      | _, _ => .bad
def six0 (v : Option (Option DV)) (r : Res RV) (d : D) (sl : Slots) : SRes := match v with
  | some (some (.own j)) => r.st sl (sixR j d sl)
  | _ => .bad
@[simp] theorem setIdxR_p (f : Bool) (d : D) (ie : E) (sl : Slots) : setIdxR P c k ie sl (.p f d) M = six0 sl[k]? (evalE P c ie sl M) d sl := by
  unfold setIdxR six0
  rw [frz_p]
  cases sl[k]? with
  | none => rfl
  | some v => cases v with
    | none => rfl
    | some w => cases w <;> rfl
@[simp] theorem six0_own (j : Nat) (r : Res RV) (d : D) (sl : Slots) : six0 (some (some (.own j))) r d sl = r.st sl (sixR j d sl) := (rfl)
def sixC (j i : Nat) (d : D) (sl : Slots) (M3 : Sto) (x : Cell) : SRes := match x with
  | .live (.lst xs) => if i < xs.length then .nx sl (M3.set j (.live (.lst (xs.set i d)))) else .bad
  | _ => .bad
@[simp] theorem sixR_dn (j i : Nat) (d : D) (sl : Slots) (f2 : Bool) : sixR j d sl (.p f2 (dn i)) M = cellS M[j]? (sixC j i d sl M) := by
  unfold sixR
  cases M[j]? with
  | none => rfl
  | some x => cases x with
    | live e => cases e with
      | lst xs =>
        show (match L2.ixN xs.length (i : Int) with | some m => _ | none => _) = if i < xs.length then _ else _
        by_cases h : i < xs.length
        · rw [ixN_nat h, if_pos h]
        · rw [if_neg h]
          have : L2.ixN xs.length (i : Int) = none := by unfold L2.ixN; rw [if_pos (by omega), if_neg (by omega)]
          rw [this]
      | _ => rfl
    | dead e => rfl
@[simp] theorem sixC_ok (j i : Nat) (d : D) (sl : Slots) (xs : List D) (h : i < xs.length) : sixC j i d sl M (.live (.lst xs)) = .nx sl (M.set j (.live (.lst (xs.set i d)))) := if_pos h
def sfC (P : Prg) (j : Nat) (f : Str) (d : D) (sl : Slots) (M2 : Sto) (x : Cell) : SRes := match x with
      | .live (.ins cl fs) => (match P.cl cl with
        | some i => if i.flds.contains f && decide (fs.length < 1000) then .nx sl (M2.set j (.live (.ins cl (putD f d fs)))) else .bad
        | none => .bad)
      | _ => .bad
def sf0 (P : Prg) (v : Option (Option DV)) (f : Str) (d : D) (sl : Slots) (M : Sto) : SRes := match v with
  | some (some (.own j)) => cellS M[j]? (sfC P j f d sl M)
  | _ => .bad
@[simp] theorem setFldR_p (f : Str) (fr : Bool) (d : D) (sl : Slots) : setFldR P k f sl (.p fr d) M = sf0 P sl[k]? f d sl M := by
  unfold setFldR sf0
  rw [frz_p]
  cases sl[k]? with
  | none => rfl
  | some v => cases v with
    | none => rfl
    | some w => cases w with
      | own j => show (match M[j]? with | some (.live (.ins cl fs)) => _ | _ => _) = cellS M[j]? _
                 cases M[j]? with
                 | none => rfl
                 | some x => cases x with
                   | live e => cases e <;> rfl
                   | dead e => rfl
      | _ => rfl
@[simp] theorem sf0_own (j : Nat) (f : Str) (d : D) (sl : Slots) : sf0 P (some (some (.own j))) f d sl M = cellS M[j]? (sfC P j f d sl M) := (rfl)
theorem sfC_ok {cl : Nat} {fs : List (Str × D)} {i : Cl} {f : Str} (hc : P.cl cl = some i) (hf : i.flds.contains f = true) (hl : fs.length < 1000) (j : Nat) (d : D) (sl : Slots) : sfC P j f d sl M (.live (.ins cl fs)) = .nx sl (M.set j (.live (.ins cl (putD f d fs)))) := by
  unfold sfC; simp only [hc, hf]; rw [if_pos]; simp [hl]
end
section
variable (P : Prg) (c : Orc) (sl : Slots) (M : Sto)
@[simp] theorem unpR_dp (i j : Nat) (fr : Bool) (q : Nat × Nat) : unpR [i, j] sl (.p fr (dp q)) M = .nx ((sl.set i (some (.p (dn q.1)))).set j (some (.p (dn q.2)))) M := (rfl)
@[simp] theorem unpR_dq (i j k l : Nat) (fr : Bool) (q : Nat × Nat × Nat × Nat) : unpR [i, j, k, l] sl (.p fr (dq q)) M = .nx ((((sl.set i (some (.p (dn q.1)))).set j (some (.p (dn q.2.1)))).set k (some (.p (dn q.2.2.1)))).set l (some (.p (dn q.2.2.2)))) M := (rfl)
@[simp] theorem loopR_dp (i j : Nat) (body : Ss) (q : Nat × Nat) : loopR P c (.tup [i, j]) body (dp q) sl M = execSs P c body ((sl.set i (some (.p (dn q.1)))).set j (some (.p (dn q.2)))) M := (rfl)
@[simp] theorem loopR_dq (i j k l : Nat) (body : Ss) (q : Nat × Nat × Nat × Nat) : loopR P c (.tup [i, j, k, l]) body (dq q) sl M = execSs P c body ((((sl.set i (some (.p (dn q.1)))).set j (some (.p (dn q.2.1)))).set k (some (.p (dn q.2.2.1)))).set l (some (.p (dn q.2.2.2)))) M := (rfl)
end
theorem make_ok {P : Prg} {c : Orc} {cl : Nat} {i : Cl} {as : List RV} {M : Sto} {d : D} {f : Bool} (hc : P.cl cl = some i) (h : callR P c i.init (.own M.length :: as.map RV.dv) (M ++ [.live (.ins cl [])]) = .ok (.p f .non) (M ++ [.live d])) : makeR P c cl as M = .ok (.p true d) M := by
  unfold makeR
  simp only [hc, h, sto_get0]
  simp
@[simp] theorem putD_nil (f : Str) (v : D) : putD f v [] = [(f, v)] := (rfl)
@[simp] theorem putD_cons (f g : Str) (v x : D) (r : List (Str × D)) : putD f v ((g, x) :: r) = if g = f then (g, v) :: r else (g, x) :: putD f v r := (rfl)
theorem fld_ok {P : Prg} {cl : Nat} {fs : List (Str × D)} {i : Cl} {f : Str} (hc : P.cl cl = some i) (hf : i.flds.contains f = true) : fldD P f (.ins cl fs) = fs.lookup f := by
  unfold fldD; simp only [hc, hf, if_true]
@[simp] theorem lk_cons (f g : Str) (v : D) (r : List (Str × D)) : ((g, v) :: r).lookup f = if f = g then some v else r.lookup f := by
  rw [List.lookup_cons]
  by_cases h : f = g
  · subst h; simp
  · rw [if_neg h, show (f == g) = false by simpa using h]
/-! ### slices -/
@[simp] theorem op_addl (xs ys : List D) (h : xs.length + ys.length ≤ 16777216) : opD .Add (.lst xs) (.lst ys) = some (.lst (xs ++ ys)) := if_pos h
end Ev

namespace K
open PySem DI Ev
abbrev C_Web : Nat := 0
abbrev C_Taking : Nat := 1
abbrev X_OrdersError : Nat := 0
abbrev X_BadForm : Nat := 1
abbrev X_BadNumber : Nat := 2
abbrev X_BadWeb : Nat := 3
abbrev X_BadThing : Nat := 4
abbrev X_UnmetNeed : Nat := 5
abbrev X_NoneSuch : Nat := 6
abbrev F_law : Nat := 0
abbrev F__law_draws : Nat := 1
abbrev F__law_take : Nat := 2
abbrev F__law_case : Nat := 3
abbrev F_Web___init__ : Nat := 4
abbrev F__law_quads : Nat := 5
abbrev F__law_core : Nat := 6
abbrev F__law_same_row : Nat := 7
abbrev F_core : Nat := 8
abbrev F__law_walk : Nat := 9
abbrev F__law_able : Nat := 10
abbrev F__law_no_middle : Nat := 11
abbrev F__law_least_first : Nat := 12
abbrev F__law_made : Nat := 13
abbrev F__law_moved : Nat := 14
abbrev F__law_row : Nat := 15
abbrev F_check_number : Nat := 16
abbrev F_clash_masks : Nat := 17
abbrev F_clash_pairs : Nat := 18
abbrev F__law_near : Nat := 19
abbrev F__law_clash : Nat := 20
abbrev F__law_int : Nat := 21
abbrev F_Taking_take_all : Nat := 22
abbrev F_Taking___init__ : Nat := 23
abbrev F__law_step : Nat := 24
abbrev F__law_state : Nat := 25
abbrev F__law_no_end : Nat := 26
abbrev F__law_inside : Nat := 27
abbrev F__law_told : Nat := 28
abbrev F_Web___eq__ : Nat := 29
abbrev F__law_line : Nat := 30
abbrev F__law_ring_row : Nat := 31
abbrev F__law_ring : Nat := 32
abbrev F__law_contrary : Nat := 33
abbrev F__law_stretches : Nat := 34
abbrev F__law_falling : Nat := 35
abbrev F__law_free : Nat := 36
abbrev F__law_small : Nat := 37
abbrev F__law_sides : Nat := 38
abbrev F__law_twins : Nat := 39
abbrev F_is_int : Nat := 40
abbrev F_is_pair : Nat := 41
abbrev F_is_thing : Nat := 42
abbrev F_members : Nat := 43
abbrev F_mask_of : Nat := 44
abbrev F_Taking_things_left : Nat := 45
abbrev F_end_and_middle_masks : Nat := 46
abbrev F_Taking_take : Nat := 47
abbrev F_rows_of_four : Nat := 48
abbrev F__law_due : Nat := 49
abbrev F_Taking_takes_row : Nat := 50
abbrev F_whole_mask : Nat := 51
abbrev F_rows_from : Nat := 52
def n_law : List Str := [("script" : Str), ("draws" : Str), ("most" : Str), ("case" : Str), ("many" : Str), ("web" : Str), ("quads" : Str), ("left" : Str), ("turn" : Str), ("pairs" : Str), ("whole" : Str), ("able" : Str), ("done" : Str), ("first" : Str), ("x" : Str)]
def b_law_1 : Ss := (.cons (.set 12 false (.call F__law_walk (.cons (.var 1) (.cons (.var 5) (.cons (.var 4) (.cons (.var 6) .nil))))))
    (.cons (.ife (.or (.nott (.tru (.idx (.var 12) (.lit (.int 0))))) (.val (.cmp .NotEq (.idx (.var 12) (.lit (.int 1))) (.var 7)))) (.cons (.ret (.lit (.bl false)))
    .nil) .nil)
    .nil))
def b_law : Ss := (.cons (.set 1 true (.call F__law_draws (.cons (.var 0) .nil)))
    (.cons (.set 2 false (.bin .Add (.lit (.int 6)) (.call F__law_take (.cons (.var 1) (.cons (.lit (.int 2)) .nil)))))
    (.cons (.ife (.val (.cmp .Eq (.call F__law_take (.cons (.var 1) (.cons (.lit (.int 24)) .nil))) (.lit (.int 23)))) (.cons (.set 2 false (.lit (.int 8)))
    .nil) .nil)
    (.cons (.set 3 false (.call F__law_case (.cons (.var 1) (.cons (.var 2) .nil))))
    (.cons (.set 4 false (.idx (.var 3) (.lit (.int 0))))
    (.cons (.set 5 false (.make C_Web (.cons (.var 4) (.cons (.idx (.var 3) (.lit (.int 1))) .nil))))
    (.cons (.set 6 false (.call F__law_quads (.cons (.var 4) (.cons (.idx (.var 3) (.lit (.int 1))) .nil))))
    (.cons (.set 7 false (.call F__law_core (.cons (.var 4) (.cons (.var 6) .nil))))
    (.cons (.ife (.nott (.tru (.call F__law_same_row (.cons (.call F_core (.cons (.var 5) .nil)) (.cons (.var 7) .nil))))) (.cons (.ret (.lit (.bl false)))
    .nil) .nil)
    (.cons (.for_ (.name 8) (.rng1 (.lit (.int 2))) b_law_1)
    (.cons (.set 9 false (.lst .nil))
    (.cons (.set 10 false (.lc [(("x" : Str), 14)] (.name 14) (.rng1 (.var 4)) .yes (.var 14)))
    (.cons (.set 11 false (.call F__law_able (.cons (.var 6) (.cons (.var 10) .nil))))
    (.cons (.ife (.and (.val (.cmp .Gt (.bi ("len" : Str) (.cons (.var 11) .nil)) (.lit (.int 0)))) (.val (.cmp .Eq (.call F__law_take (.cons (.var 1) (.cons (.lit (.int 2)) .nil))) (.lit (.int 1))))) (.cons (.set 13 false (.idx (.var 11) (.call F__law_take (.cons (.var 1) (.cons (.bi ("len" : Str) (.cons (.var 11) .nil)) .nil)))))
    (.cons (.ife (.tru (.call F__law_no_middle (.cons (.var 6) (.cons (.var 10) (.cons (.var 13) .nil))))) (.cons (.set 9 false (.lst (.cons (.tup (.cons (.var 13) (.cons (.lit (.str ("back" : Str))) .nil))) .nil)))
    .nil) (.cons (.set 9 false (.lst (.cons (.tup (.cons (.var 13) (.cons (.lit (.str ("front" : Str))) .nil))) .nil)))
    .nil))
    .nil)) .nil)
    (.cons (.ret (.andv (.call F__law_least_first (.cons (.var 5) (.cons (.var 4) (.cons (.var 6) (.cons (.var 9) .nil))))) (.call F__law_same_row (.cons (.call F_core (.cons (.var 5) .nil)) (.cons (.var 7) .nil)))))
    .nil)))))))))))))))
def d_law : FD := ⟨.glo ("law" : Str), [], ⟨n_law, 1, b_law⟩⟩
def n__law_draws : List Str := [("script" : Str), ("draws" : Str), ("at" : Str), ("cell" : Str), ("k" : Str), ("number" : Str)]
def b__law_draws_1 : Ss := (.cons (.ife (.val (.cmp .Gt (.var 3) (.lit (.int 0)))) (.cons (.expr (.mt ("append" : Str) (.var 1) (.cons (.bin .Mod (.bi ("int" : Str) (.cons (.var 3) .nil)) (.lit (.int 24))) .nil)))
    (.cons (.set 3 false (.bin .FloorDiv (.var 3) (.lit (.int 24))))
    .nil)) .nil)
    .nil)
def b__law_draws_2 : Ss := (.cons (.set 5 false (.bin .Mod (.bi ("int" : Str) (.cons (.bin .Add (.bin .Add (.bin .Add (.bin .Mult (.var 5) (.var 5)) (.bin .Mult (.var 4) (.lit (.int 38447)))) (.var 2)) (.lit (.int 11))) .nil)) (.lit (.int 2147483587))))
    (.cons (.expr (.mt ("append" : Str) (.var 1) (.cons (.var 5) .nil)))
    .nil))
def b__law_draws_3 : Ss := (.cons (.set 3 false (.bi ("int" : Str) (.cons (.idx (.var 0) (.var 2)) .nil)))
    (.cons (.ife (.val (.cmp .Lt (.var 3) (.lit (.int 0)))) (.cons (.set 3 false (.bin .Sub (.lit (.int 1)) (.var 3)))
    .nil) .nil)
    (.cons (.ife (.val (.cmp .GtE (.var 3) (.bin .Pow (.lit (.int 10)) (.lit (.int 18))))) (.cons (.for_ (.name 4) (.rng1 (.lit (.int 60))) b__law_draws_1)
    .nil) (.cons (.set 5 false (.bin .Mod (.bi ("int" : Str) (.cons (.bin .Add (.bin .Add (.bin .Mult (.var 3) (.lit (.int 48947))) (.bin .Mult (.var 2) (.lit (.int 60493)))) (.lit (.int 7))) .nil)) (.lit (.int 2147483647))))
    (.cons (.for_ (.name 4) (.rng1 (.lit (.int 6))) b__law_draws_2)
    .nil)))
    .nil)))
def b__law_draws : Ss := (.cons (.set 1 true (.lst .nil))
    (.cons (.for_ (.name 2) (.rng1 (.bi ("min" : Str) (.cons (.bi ("len" : Str) (.cons (.var 0) .nil)) (.cons (.lit (.int 63)) .nil)))) b__law_draws_3)
    (.cons (.expr (.mt ("reverse" : Str) (.var 1) .nil))
    (.cons (.ret (.var 1))
    .nil))))
def d__law_draws : FD := ⟨.glo ("_law_draws" : Str), [], ⟨n__law_draws, 1, b__law_draws⟩⟩
def n__law_take : List Str := [("draws" : Str), ("many" : Str)]
def b__law_take : Ss := (.cons (.ife (.val (.cmp .Eq (.bi ("len" : Str) (.cons (.var 0) .nil)) (.lit (.int 0)))) (.cons (.ret (.lit (.int 0)))
    .nil) .nil)
    (.cons (.ret (.bin .Mod (.bi ("int" : Str) (.cons (.mt ("pop" : Str) (.var 0) .nil) .nil)) (.var 1)))
    .nil))
def d__law_take : FD := ⟨.glo ("_law_take" : Str), [], ⟨n__law_take, 2, b__law_take⟩⟩
def n__law_case : List Str := [("draws" : Str), ("most" : Str), ("case" : Str), ("mode" : Str), ("row" : Str), ("which" : Str), ("place" : Str)]
def b__law_case : Ss := (.cons (.set 2 false (.call F__law_made (.cons (.var 0) (.cons (.var 1) .nil))))
    (.cons (.set 3 false (.call F__law_take (.cons (.var 0) (.cons (.lit (.int 4)) .nil))))
    (.cons (.set 4 false (.bi ("list" : Str) (.cons (.idx (.var 2) (.lit (.int 2))) .nil)))
    (.cons (.ife (.val (.cmp .Eq (.var 3) (.lit (.int 0)))) (.cons (.set 5 false (.bin .Mod (.bi ("int" : Str) (.cons (.bin .Add (.bin .Sub (.idx (.var 2) (.lit (.int 0))) (.lit (.int 1))) (.call F__law_take (.cons (.var 0) (.cons (.idx (.var 2) (.lit (.int 0))) .nil)))) .nil)) (.idx (.var 2) (.lit (.int 0)))))
    (.cons (.set 6 false (.bin .Mod (.bi ("int" : Str) (.cons (.bin .Add (.lit (.int 1)) (.call F__law_take (.cons (.var 0) (.cons (.idx (.var 2) (.lit (.int 0))) .nil)))) .nil)) (.idx (.var 2) (.lit (.int 0)))))
    (.cons (.set 4 false (.call F__law_moved (.cons (.var 4) (.cons (.var 5) (.cons (.var 6) .nil)))))
    .nil))) .nil)
    (.cons (.ife (.val (.cmp .Eq (.var 3) (.lit (.int 3)))) (.cons (.set 4 false (.call F__law_row (.cons (.var 0) (.cons (.idx (.var 2) (.lit (.int 0))) .nil))))
    .nil) .nil)
    (.cons (.ret (.lst (.cons (.idx (.var 2) (.lit (.int 0))) (.cons (.idx (.var 2) (.lit (.int 1))) (.cons (.var 4) .nil)))))
    .nil))))))
def d__law_case : FD := ⟨.glo ("_law_case" : Str), [], ⟨n__law_case, 2, b__law_case⟩⟩
def n_Web___init__ : List Str := [("self" : Str), ("many" : Str), ("clashes" : Str)]
def b_Web___init__ : Ss := (.cons (.setFld 0 ("many" : Str) (.call F_check_number (.cons (.var 1) (.cons (.lit (.str ("many" : Str))) .nil))))
    (.cons (.setFld 0 ("masks" : Str) (.call F_clash_masks (.cons (.var 1) (.cons (.var 2) .nil))))
    (.cons (.setFld 0 ("clashes" : Str) (.call F_clash_pairs (.cons (.fld (.var 0) ("masks" : Str)) .nil)))
    .nil)))
def d_Web___init__ : FD := ⟨.meth ("Web" : Str) ("__init__" : Str), [(.tup [])], ⟨n_Web___init__, 3, b_Web___init__⟩⟩
def n__law_quads : List Str := [("many" : Str), ("pairs" : Str), ("quads" : Str), ("a" : Str), ("b" : Str), ("c" : Str), ("d" : Str)]
def b__law_quads_1 : Ss := (.cons (.ife (.and (.val (.cmp .Lt (.var 3) (.var 6))) (.and (.val (.cmp .NotEq (.var 6) (.var 4))) (.and (.nott (.tru (.call F__law_clash (.cons (.var 1) (.cons (.var 4) (.cons (.var 6) .nil)))))) (.nott (.tru (.call F__law_clash (.cons (.var 1) (.cons (.var 3) (.cons (.var 6) .nil))))))))) (.cons (.expr (.mt ("append" : Str) (.var 2) (.cons (.tup (.cons (.var 3) (.cons (.var 4) (.cons (.var 5) (.cons (.var 6) .nil))))) .nil)))
    .nil) .nil)
    .nil)
def b__law_quads_2 : Ss := (.cons (.ife (.and (.val (.cmp .NotEq (.var 5) (.var 3))) (.nott (.tru (.call F__law_clash (.cons (.var 1) (.cons (.var 3) (.cons (.var 5) .nil))))))) (.cons (.for_ (.name 6) (.seq (.call F__law_near (.cons (.var 0) (.cons (.var 1) (.cons (.var 5) .nil))))) b__law_quads_1)
    .nil) .nil)
    .nil)
def b__law_quads_3 : Ss := (.cons (.for_ (.name 5) (.seq (.call F__law_near (.cons (.var 0) (.cons (.var 1) (.cons (.var 4) .nil))))) b__law_quads_2)
    .nil)
def b__law_quads_4 : Ss := (.cons (.for_ (.name 4) (.seq (.call F__law_near (.cons (.var 0) (.cons (.var 1) (.cons (.var 3) .nil))))) b__law_quads_3)
    .nil)
def b__law_quads : Ss := (.cons (.set 2 true (.lst .nil))
    (.cons (.for_ (.name 3) (.rng1 (.var 0)) b__law_quads_4)
    (.cons (.ret (.bi ("sorted" : Str) (.cons (.var 2) .nil)))
    .nil)))
def d__law_quads : FD := ⟨.glo ("_law_quads" : Str), [], ⟨n__law_quads, 2, b__law_quads⟩⟩
def n__law_core : List Str := [("many" : Str), ("quads" : Str), ("left" : Str), ("step" : Str), ("inside" : Str), ("ends" : Str), ("middles" : Str), ("quad" : Str), ("x" : Str)]
def b__law_core_1 : Ss := (.cons (.set 5 false (.bin .Add (.var 5) (.lst (.cons (.idx (.var 7) (.lit (.int 0))) (.cons (.idx (.var 7) (.lit (.int 3))) .nil)))))
    (.cons (.set 6 false (.bin .Add (.var 6) (.lst (.cons (.idx (.var 7) (.lit (.int 1))) (.cons (.idx (.var 7) (.lit (.int 2))) .nil)))))
    .nil))
def b__law_core_2 : Ss := (.cons (.set 4 false (.lc [(("quad" : Str), 7)] (.name 7) (.seq (.var 1)) (.val (.cmp .Eq (.bi ("len" : Str) (.cons (.lc [(("x" : Str), 8)] (.name 8) (.seq (.var 7)) (.val (.cmp .In (.var 8) (.var 2))) (.var 8)) .nil)) (.lit (.int 4)))) (.var 7)))
    (.cons (.set 5 false (.lst .nil))
    (.cons (.set 6 false (.lst .nil))
    (.cons (.for_ (.name 7) (.seq (.var 4)) b__law_core_1)
    (.cons (.set 2 false (.lc [(("x" : Str), 8)] (.name 8) (.seq (.var 2)) (.and (.val (.cmp .In (.var 8) (.var 5))) (.val (.cmp .In (.var 8) (.var 6)))) (.var 8)))
    .nil)))))
def b__law_core : Ss := (.cons (.set 2 false (.lc [(("x" : Str), 8)] (.name 8) (.rng1 (.var 0)) .yes (.var 8)))
    (.cons (.for_ (.name 3) (.rng1 (.var 0)) b__law_core_2)
    (.cons (.ret (.var 2))
    .nil)))
def d__law_core : FD := ⟨.glo ("_law_core" : Str), [], ⟨n__law_core, 2, b__law_core⟩⟩
def n__law_same_row : List Str := [("told" : Str), ("due" : Str), ("k" : Str)]
def b__law_same_row : Ss := (.cons (.ife (.or (.nott (.tru (.isi (.var 0) [("tuple" : Str)] false))) (.val (.cmp .NotEq (.bi ("len" : Str) (.cons (.var 0) .nil)) (.bi ("len" : Str) (.cons (.var 1) .nil))))) (.cons (.ret (.lit (.bl false)))
    .nil) .nil)
    (.cons (.ret (.cmp .Eq (.bi ("len" : Str) (.cons (.lc [(("k" : Str), 2)] (.name 2) (.rng1 (.bi ("len" : Str) (.cons (.var 1) .nil))) (.or (.nott (.tru (.call F__law_int (.cons (.idx (.var 0) (.var 2)) .nil)))) (.val (.cmp .NotEq (.idx (.var 0) (.var 2)) (.idx (.var 1) (.var 2))))) (.var 2)) .nil)) (.lit (.int 0))))
    .nil))
def d__law_same_row : FD := ⟨.glo ("_law_same_row" : Str), [], ⟨n__law_same_row, 2, b__law_same_row⟩⟩
def n_core : List Str := [("web" : Str)]
def b_core : Ss := (.cons (.ret (.methn ("take_all" : Str) (.make C_Taking (.cons (.var 0) .nil))))
    .nil)
def d_core : FD := ⟨.glo ("core" : Str), [], ⟨n_core, 1, b_core⟩⟩
def n__law_walk : List Str := [("draws" : Str), ("web" : Str), ("many" : Str), ("quads" : Str), ("taking" : Str), ("left" : Str), ("pairs" : Str), ("odd" : Str), ("sides" : Str), ("step" : Str), ("thing" : Str), ("side" : Str), ("done" : Str), ("able" : Str), ("x" : Str)]
def b__law_walk_1 : Ss := (.cons (.set 10 false (.call F__law_take (.cons (.var 0) (.cons (.var 2) .nil))))
    (.cons (.set 11 false (.idx (.var 8) (.call F__law_take (.cons (.var 0) (.cons (.lit (.int 10)) .nil)))))
    (.cons (.ife (.val (.cmp .Eq (.call F__law_take (.cons (.var 0) (.cons (.lit (.int 6)) .nil))) (.lit (.int 5)))) (.cons (.set 10 false (.idx (.var 7) (.call F__law_take (.cons (.var 0) (.cons (.lit (.int 7)) .nil)))))
    .nil) .nil)
    (.cons (.set 12 false (.call F__law_step (.cons (.var 4) (.cons (.var 3) (.cons (.var 5) (.cons (.var 6) (.cons (.var 10) (.cons (.var 11) (.cons (.lit (.bl false)) .nil)))))))))
    (.cons (.ife (.nott (.tru (.idx (.var 12) (.lit (.int 0))))) (.cons (.ret (.lst (.cons (.lit (.bl false)) (.cons (.var 5) .nil))))
    .nil) .nil)
    (.cons (.set 5 false (.idx (.var 12) (.lit (.int 1))))
    (.cons (.set 6 false (.idx (.var 12) (.lit (.int 2))))
    .nil)))))))
def b__law_walk_2 : Ss := (.cons (.set 13 false (.call F__law_able (.cons (.var 3) (.cons (.var 5) .nil))))
    (.cons (.ife (.val (.cmp .Gt (.bi ("len" : Str) (.cons (.var 13) .nil)) (.lit (.int 0)))) (.cons (.set 12 false (.call F__law_step (.cons (.var 4) (.cons (.var 3) (.cons (.var 5) (.cons (.var 6) (.cons (.idx (.var 13) (.call F__law_take (.cons (.var 0) (.cons (.bi ("len" : Str) (.cons (.var 13) .nil)) .nil)))) (.cons (.lit .non) (.cons (.lit (.bl true)) .nil)))))))))
    (.cons (.ife (.nott (.tru (.idx (.var 12) (.lit (.int 0))))) (.cons (.ret (.lst (.cons (.lit (.bl false)) (.cons (.var 5) .nil))))
    .nil) .nil)
    (.cons (.set 5 false (.idx (.var 12) (.lit (.int 1))))
    (.cons (.set 6 false (.idx (.var 12) (.lit (.int 2))))
    .nil)))) .nil)
    .nil))
def b__law_walk : Ss := (.cons (.set 4 true (.make C_Taking (.cons (.var 1) .nil)))
    (.cons (.set 5 false (.lc [(("x" : Str), 14)] (.name 14) (.rng1 (.var 2)) .yes (.var 14)))
    (.cons (.set 6 false (.lst .nil))
    (.cons (.set 7 false (.lst (.cons (.bin .Sub (.lit (.int 0)) (.lit (.int 1))) (.cons (.var 2) (.cons (.lit .non) (.cons (.lit (.str ("0" : Str))) (.cons (.lit (.bl true)) (.cons (.lit (.bl false)) (.cons (.bin .Sub (.lit (.int 0)) (.var 2)) .nil)))))))))
    (.cons (.set 8 false (.lst (.cons (.lit .non) (.cons (.lit (.str ("front" : Str))) (.cons (.lit (.str ("back" : Str))) (.cons (.lit (.str ("front" : Str))) (.cons (.lit (.str ("back" : Str))) (.cons (.lit .non) (.cons (.lit (.str ("top" : Str))) (.cons (.lit (.int 0)) (.cons (.lit (.str ("Front" : Str))) (.cons (.lit (.bl true)) .nil))))))))))))
    (.cons (.for_ (.name 9) (.rng1 (.bin .Add (.bin .Mult (.lit (.int 3)) (.var 2)) (.lit (.int 4)))) b__law_walk_1)
    (.cons (.for_ (.name 9) (.rng1 (.var 2)) b__law_walk_2)
    (.cons (.ret (.lst (.cons (.andv (.call F__law_same_row (.cons (.meth ("take_all" : Str) (.var 4) .nil) (.cons (.var 5) .nil))) (.call F__law_state (.cons (.var 4) (.cons (.var 5) (.cons (.var 6) .nil))))) (.cons (.var 5) .nil))))
    .nil))))))))
def d__law_walk : FD := ⟨.glo ("_law_walk" : Str), [], ⟨n__law_walk, 4, b__law_walk⟩⟩
def n__law_able : List Str := [("quads" : Str), ("left" : Str), ("x" : Str)]
def b__law_able : Ss := (.cons (.ret (.lc [(("x" : Str), 2)] (.name 2) (.seq (.var 1)) (.or (.tru (.call F__law_no_end (.cons (.var 0) (.cons (.var 1) (.cons (.var 2) .nil))))) (.tru (.call F__law_no_middle (.cons (.var 0) (.cons (.var 1) (.cons (.var 2) .nil)))))) (.var 2)))
    .nil)
def d__law_able : FD := ⟨.glo ("_law_able" : Str), [], ⟨n__law_able, 2, b__law_able⟩⟩
def n__law_no_middle : List Str := [("quads" : Str), ("left" : Str), ("x" : Str), ("quad" : Str)]
def b__law_no_middle : Ss := (.cons (.ret (.cmp .Eq (.bi ("len" : Str) (.cons (.lc [(("quad" : Str), 3)] (.name 3) (.seq (.call F__law_inside (.cons (.var 0) (.cons (.var 1) .nil)))) (.or (.val (.cmp .Eq (.var 2) (.idx (.var 3) (.lit (.int 1))))) (.val (.cmp .Eq (.var 2) (.idx (.var 3) (.lit (.int 2)))))) (.var 3)) .nil)) (.lit (.int 0))))
    .nil)
def d__law_no_middle : FD := ⟨.glo ("_law_no_middle" : Str), [], ⟨n__law_no_middle, 3, b__law_no_middle⟩⟩
def n__law_least_first : List Str := [("web" : Str), ("many" : Str), ("quads" : Str), ("pairs" : Str), ("taking" : Str), ("left" : Str), ("pair" : Str), ("step" : Str), ("turn" : Str), ("able" : Str), ("x" : Str), ("side" : Str)]
def b__law_least_first_1 : Ss := (.cons (.set 5 false (.lc [(("x" : Str), 10)] (.name 10) (.seq (.var 5)) (.val (.cmp .NotEq (.var 10) (.idx (.var 6) (.lit (.int 0))))) (.var 10)))
    (.cons (.ife (.val (.cmp .NotEq (.call F__law_told (.cons (.var 4) (.cons (.idx (.var 6) (.lit (.int 0))) (.cons (.idx (.var 6) (.lit (.int 1))) (.cons (.lit (.bl false)) .nil))))) (.lst (.cons (.lit (.str ("laid" : Str))) (.cons (.idx (.var 6) (.lit (.int 1))) .nil))))) (.cons (.ret (.lit (.bl false)))
    .nil) .nil)
    .nil))
def b__law_least_first_2 : Ss := (.cons (.set 9 false (.call F__law_able (.cons (.var 2) (.cons (.var 5) .nil))))
    (.cons (.ife (.val (.cmp .Gt (.bi ("len" : Str) (.cons (.var 9) .nil)) (.lit (.int 0)))) (.cons (.set 11 false (.lit (.str ("back" : Str))))
    (.cons (.ife (.tru (.call F__law_no_end (.cons (.var 2) (.cons (.var 5) (.cons (.idx (.var 9) (.lit (.int 0))) .nil))))) (.cons (.set 11 false (.lit (.str ("front" : Str))))
    .nil) .nil)
    (.cons (.set 5 false (.lc [(("x" : Str), 10)] (.name 10) (.seq (.var 5)) (.val (.cmp .NotEq (.var 10) (.idx (.var 9) (.lit (.int 0))))) (.var 10)))
    (.cons (.set 3 false (.bin .Add (.var 3) (.lst (.cons (.tup (.cons (.idx (.var 9) (.lit (.int 0))) (.cons (.var 11) .nil))) .nil))))
    .nil)))) .nil)
    .nil))
def b__law_least_first_3 : Ss := (.cons (.ife (.or (.nott (.tru (.call F__law_same_row (.cons (.meth ("take_all" : Str) (.var 4) .nil) (.cons (.var 5) .nil))))) (.nott (.tru (.call F__law_state (.cons (.var 4) (.cons (.var 5) (.cons (.var 3) .nil))))))) (.cons (.ret (.lit (.bl false)))
    .nil) .nil)
    .nil)
def b__law_least_first : Ss := (.cons (.set 4 true (.make C_Taking (.cons (.var 0) .nil)))
    (.cons (.set 5 false (.lc [(("x" : Str), 10)] (.name 10) (.rng1 (.var 1)) .yes (.var 10)))
    (.cons (.for_ (.name 6) (.seq (.var 3)) b__law_least_first_1)
    (.cons (.for_ (.name 7) (.rng1 (.var 1)) b__law_least_first_2)
    (.cons (.for_ (.name 8) (.rng1 (.lit (.int 2))) b__law_least_first_3)
    (.cons (.ret (.eqo (.fld (.var 4) ("web" : Str)) (.var 0)))
    .nil))))))
def d__law_least_first : FD := ⟨.glo ("_law_least_first" : Str), [], ⟨n__law_least_first, 4, b__law_least_first⟩⟩
def n__law_made : List Str := [("draws" : Str), ("most" : Str), ("word" : Str), ("many" : Str), ("plain" : Str), ("one" : Str), ("other" : Str), ("house" : Str), ("x" : Str)]
def b__law_made : Ss := (.cons (.set 2 false (.call F__law_take (.cons (.var 0) (.cons (.lit (.int 12)) .nil))))
    (.cons (.set 3 false (.bin .Add (.lit (.int 4)) (.call F__law_take (.cons (.var 0) (.cons (.bin .Sub (.var 1) (.lit (.int 3))) .nil)))))
    (.cons (.set 4 false (.lc [(("x" : Str), 8)] (.name 8) (.rng1 (.var 3)) .yes (.var 8)))
    (.cons (.ife (.val (.cmp .Eq (.var 2) (.lit (.int 0)))) (.cons (.ret (.lst (.cons (.lit (.int 4)) (.cons (.call F__law_line (.cons (.lit (.int 4)) .nil)) (.cons (.lst (.cons (.lit (.int 0)) (.cons (.lit (.int 1)) (.cons (.lit (.int 2)) (.cons (.lit (.int 3)) .nil))))) .nil)))))
    .nil) .nil)
    (.cons (.ife (.val (.cmp .Eq (.var 2) (.lit (.int 1)))) (.cons (.ret (.lst (.cons (.var 3) (.cons (.call F__law_ring (.cons (.var 3) .nil)) (.cons (.call F__law_ring_row (.cons (.var 3) .nil)) .nil)))))
    .nil) .nil)
    (.cons (.ife (.val (.cmp .Eq (.var 2) (.lit (.int 2)))) (.cons (.set 3 false (.bi ("max" : Str) (.cons (.var 3) (.cons (.lit (.int 5)) .nil))))
    (.cons (.ret (.lst (.cons (.var 3) (.cons (.call F__law_contrary (.cons (.var 3) (.cons (.call F__law_ring (.cons (.var 3) .nil)) .nil))) (.cons (.call F__law_ring_row (.cons (.var 3) .nil)) .nil)))))
    .nil)) .nil)
    (.cons (.ife (.val (.cmp .Eq (.var 2) (.lit (.int 3)))) (.cons (.ret (.lst (.cons (.var 3) (.cons (.call F__law_line (.cons (.var 3) .nil)) (.cons (.var 4) .nil)))))
    .nil) .nil)
    (.cons (.ife (.val (.cmp .Eq (.var 2) (.lit (.int 4)))) (.cons (.ret (.call F__law_stretches (.cons (.var 0) (.cons (.var 3) .nil))))
    .nil) .nil)
    (.cons (.ife (.val (.cmp .Eq (.var 2) (.lit (.int 5)))) (.cons (.ret (.call F__law_falling (.cons (.var 0) (.cons (.var 3) .nil))))
    .nil) .nil)
    (.cons (.ife (.val (.cmp .Eq (.var 2) (.lit (.int 6)))) (.cons (.ret (.call F__law_free (.cons (.var 0) (.cons (.var 3) (.cons (.lit (.int 2)) .nil)))))
    .nil) .nil)
    (.cons (.ife (.or (.val (.cmp .Eq (.var 2) (.lit (.int 7)))) (.val (.cmp .Eq (.var 2) (.lit (.int 8))))) (.cons (.set 5 false (.call F__law_small (.cons (.var 0) .nil)))
    (.cons (.set 6 false (.call F__law_small (.cons (.var 0) .nil)))
    (.cons (.ife (.val (.cmp .Gt (.bin .Add (.idx (.var 5) (.lit (.int 0))) (.idx (.var 6) (.lit (.int 0)))) (.var 1))) (.cons (.set 6 false (.lst (.cons (.lit (.int 1)) (.cons (.lst .nil) (.cons (.lst (.cons (.lit (.int 0)) .nil)) .nil)))))
    .nil) .nil)
    (.cons (.ret (.call F__law_sides (.cons (.var 5) (.cons (.var 6) (.cons (.cmp .Eq (.var 2) (.lit (.int 7))) .nil)))))
    .nil)))) .nil)
    (.cons (.ife (.val (.cmp .Eq (.var 2) (.lit (.int 9)))) (.cons (.ret (.call F__law_twins (.cons (.var 0) (.cons (.lst (.cons (.lit (.int 4)) (.cons (.call F__law_line (.cons (.lit (.int 4)) .nil)) (.cons (.lst (.cons (.lit (.int 0)) (.cons (.lit (.int 1)) (.cons (.lit (.int 2)) (.cons (.lit (.int 3)) .nil))))) .nil)))) (.cons (.var 1) .nil)))))
    .nil) .nil)
    (.cons (.ife (.val (.cmp .Eq (.var 2) (.lit (.int 10)))) (.cons (.set 7 false (.bi ("sorted" : Str) (.cons (.bin .Add (.call F__law_ring (.cons (.lit (.int 5)) .nil)) (.lst (.cons (.tup (.cons (.lit (.int 0)) (.cons (.lit (.int 2)) .nil))) .nil))) .nil)))
    (.cons (.ret (.lst (.cons (.lit (.int 5)) (.cons (.var 7) (.cons (.lst (.cons (.lit (.int 0)) (.cons (.lit (.int 2)) (.cons (.lit (.int 1)) (.cons (.lit (.int 3)) (.cons (.lit (.int 4)) .nil)))))) .nil)))))
    .nil)) .nil)
    (.cons (.ret (.call F__law_free (.cons (.var 0) (.cons (.var 3) (.cons (.lit (.int 0)) .nil)))))
    .nil))))))))))))))
def d__law_made : FD := ⟨.glo ("_law_made" : Str), [], ⟨n__law_made, 2, b__law_made⟩⟩
def n__law_moved : List Str := [("row" : Str), ("which" : Str), ("place" : Str), ("rest" : Str), ("k" : Str)]
def b__law_moved : Ss := (.cons (.set 3 false (.lc [(("k" : Str), 4)] (.name 4) (.rng1 (.bi ("len" : Str) (.cons (.var 0) .nil))) (.val (.cmp .NotEq (.var 4) (.var 1))) (.idx (.var 0) (.var 4))))
    (.cons (.ret (.bin .Add (.bin .Add (.slc (.var 3) .no (.some (.var 2))) (.lst (.cons (.idx (.var 0) (.var 1)) .nil))) (.slc (.var 3) (.some (.var 2)) .no)))
    .nil))
def d__law_moved : FD := ⟨.glo ("_law_moved" : Str), [], ⟨n__law_moved, 3, b__law_moved⟩⟩
def n__law_row : List Str := [("draws" : Str), ("many" : Str), ("rest" : Str), ("row" : Str), ("k" : Str), ("which" : Str), ("x" : Str), ("j" : Str)]
def b__law_row_1 : Ss := (.cons (.set 5 false (.call F__law_take (.cons (.var 0) (.cons (.bi ("len" : Str) (.cons (.var 2) .nil)) .nil))))
    (.cons (.expr (.mt ("append" : Str) (.var 3) (.cons (.idx (.var 2) (.var 5)) .nil)))
    (.cons (.set 2 false (.lc [(("j" : Str), 7)] (.name 7) (.rng1 (.bi ("len" : Str) (.cons (.var 2) .nil))) (.val (.cmp .NotEq (.var 7) (.var 5))) (.idx (.var 2) (.var 7))))
    .nil)))
def b__law_row : Ss := (.cons (.set 2 false (.lc [(("x" : Str), 6)] (.name 6) (.rng1 (.var 1)) .yes (.var 6)))
    (.cons (.set 3 true (.lst .nil))
    (.cons (.for_ (.name 4) (.rng1 (.var 1)) b__law_row_1)
    (.cons (.ret (.var 3))
    .nil))))
def d__law_row : FD := ⟨.glo ("_law_row" : Str), [], ⟨n__law_row, 2, b__law_row⟩⟩
def n_check_number : List Str := [("value" : Str), ("name" : Str), ("least" : Str)]
def b_check_number : Ss := (.cons (.ife (.or (.nott (.tru (.call F_is_int (.cons (.var 0) .nil)))) (.val (.cmp .Lt (.var 0) (.var 2)))) (.cons (.raise X_BadNumber (.cons (.var 1) .nil))
    .nil) .nil)
    (.cons (.ret (.var 0))
    .nil))
def d_check_number : FD := ⟨.glo ("check_number" : Str), [(.int 0)], ⟨n_check_number, 3, b_check_number⟩⟩
def n_clash_masks : List Str := [("many" : Str), ("clashes" : Str), ("masks" : Str), ("pair" : Str), ("_" : Str), ("x" : Str), ("y" : Str)]
def b_clash_masks_1 : Ss := (.cons (.ife (.nott (.tru (.call F_is_pair (.cons (.var 3) .nil)))) (.cons (.raise X_BadWeb (.cons (.lit .non) (.cons (.lit .non) .nil)))
    .nil) .nil)
    (.cons (.unp [5, 6] (.var 3))
    (.cons (.ife (.or (.nott (.tru (.call F_is_thing (.cons (.var 0) (.cons (.var 5) .nil))))) (.or (.nott (.tru (.call F_is_thing (.cons (.var 0) (.cons (.var 6) .nil))))) (.val (.cmp .Eq (.var 5) (.var 6))))) (.cons (.raise X_BadWeb (.cons (.var 5) (.cons (.var 6) .nil)))
    .nil) .nil)
    (.cons (.setIdx 2 (.var 5) (.bin .BitOr (.idx (.var 2) (.var 5)) (.bin .LShift (.lit (.int 1)) (.var 6))))
    (.cons (.setIdx 2 (.var 6) (.bin .BitOr (.idx (.var 2) (.var 6)) (.bin .LShift (.lit (.int 1)) (.var 5))))
    .nil)))))
def b_clash_masks : Ss := (.cons (.set 2 true (.lc [(("_" : Str), 4)] (.name 4) (.rng1 (.var 0)) .yes (.lit (.int 0))))
    (.cons (.for_ (.name 3) (.seq (.var 1)) b_clash_masks_1)
    (.cons (.ret (.bi ("tuple" : Str) (.cons (.var 2) .nil)))
    .nil)))
def d_clash_masks : FD := ⟨.glo ("clash_masks" : Str), [], ⟨n_clash_masks, 2, b_clash_masks⟩⟩
def n_clash_pairs : List Str := [("masks" : Str), ("x" : Str), ("y" : Str)]
def b_clash_pairs : Ss := (.cons (.ret (.bi ("tuple" : Str) (.cons (.lc2 [(("x" : Str), 1), (("y" : Str), 2)] (.name 1) (.rng1 (.bi ("len" : Str) (.cons (.var 0) .nil))) .yes (.name 2) (.seq (.call F_members (.cons (.idx (.var 0) (.var 1)) .nil))) (.val (.cmp .Lt (.var 1) (.var 2))) (.tup (.cons (.var 1) (.cons (.var 2) .nil)))) .nil)))
    .nil)
def d_clash_pairs : FD := ⟨.glo ("clash_pairs" : Str), [], ⟨n_clash_pairs, 1, b_clash_pairs⟩⟩
def n__law_near : List Str := [("many" : Str), ("pairs" : Str), ("x" : Str), ("y" : Str)]
def b__law_near : Ss := (.cons (.ret (.lc [(("y" : Str), 3)] (.name 3) (.rng1 (.var 0)) (.val (.cmp .In (.tup (.cons (.bi ("min" : Str) (.cons (.var 2) (.cons (.var 3) .nil))) (.cons (.bi ("max" : Str) (.cons (.var 2) (.cons (.var 3) .nil))) .nil))) (.var 1))) (.var 3)))
    .nil)
def d__law_near : FD := ⟨.glo ("_law_near" : Str), [], ⟨n__law_near, 3, b__law_near⟩⟩
def n__law_clash : List Str := [("pairs" : Str), ("x" : Str), ("y" : Str)]
def b__law_clash : Ss := (.cons (.ret (.cmp .In (.tup (.cons (.bi ("min" : Str) (.cons (.var 1) (.cons (.var 2) .nil))) (.cons (.bi ("max" : Str) (.cons (.var 1) (.cons (.var 2) .nil))) .nil))) (.var 0)))
    .nil)
def d__law_clash : FD := ⟨.glo ("_law_clash" : Str), [], ⟨n__law_clash, 3, b__law_clash⟩⟩
def n__law_int : List Str := [("value" : Str)]
def b__law_int : Ss := (.cons (.ret (.andv (.isi (.var 0) [("int" : Str)] false) (.notv (.isi (.var 0) [("bool" : Str)] false))))
    .nil)
def d__law_int : FD := ⟨.glo ("_law_int" : Str), [], ⟨n__law_int, 1, b__law_int⟩⟩
def n_Taking_take_all : List Str := [("self" : Str), ("_" : Str), ("keep" : Str), ("free" : Str), ("ends" : Str), ("middles" : Str)]
def b_Taking_take_all_1 : Ss := (.cons (.set 2 false (.call F_mask_of (.cons (.prop (.var 0) ("things_left" : Str)) .nil)))
    (.cons (.unp [4, 5] (.call F_end_and_middle_masks (.cons (.fld (.var 0) ("four_rows" : Str)) (.cons (.var 2) .nil))))
    (.cons (.set 3 false (.call F_members (.cons (.bin .BitAnd (.var 2) (.un .Invert (.bin .BitAnd (.var 4) (.var 5)))) .nil)))
    (.cons (.ife (.val (.cmp .Gt (.bi ("len" : Str) (.cons (.var 3) .nil)) (.lit (.int 0)))) (.cons (.expr (.meth ("take" : Str) (.var 0) (.cons (.idx (.var 3) (.lit (.int 0))) .nil)))
    .nil) .nil)
    .nil))))
def b_Taking_take_all : Ss := (.cons (.for_ (.name 1) (.rng1 (.fld (.fld (.var 0) ("web" : Str)) ("many" : Str))) b_Taking_take_all_1)
    (.cons (.ret (.prop (.var 0) ("things_left" : Str)))
    .nil))
def d_Taking_take_all : FD := ⟨.meth ("Taking" : Str) ("take_all" : Str), [], ⟨n_Taking_take_all, 1, b_Taking_take_all⟩⟩
def n_Taking___init__ : List Str := [("self" : Str), ("web" : Str)]
def b_Taking___init__ : Ss := (.cons (.setFld 0 ("web" : Str) (.var 1))
    (.cons (.setFld 0 ("front" : Str) (.tup .nil))
    (.cons (.setFld 0 ("back" : Str) (.tup .nil))
    (.cons (.setFld 0 ("taken_pairs" : Str) (.tup .nil))
    (.cons (.setFld 0 ("four_rows" : Str) (.call F_rows_of_four (.cons (.var 1) .nil)))
    .nil)))))
def d_Taking___init__ : FD := ⟨.meth ("Taking" : Str) ("__init__" : Str), [], ⟨n_Taking___init__, 2, b_Taking___init__⟩⟩
def n__law_step : List Str := [("taking" : Str), ("quads" : Str), ("left" : Str), ("pairs" : Str), ("thing" : Str), ("side" : Str), ("plain" : Str), ("due" : Str), ("x" : Str)]
def b__law_step : Ss := (.cons (.set 7 false (.call F__law_due (.cons (.var 1) (.cons (.var 2) (.cons (.var 4) (.cons (.var 5) .nil))))))
    (.cons (.ife (.val (.cmp .NotEq (.call F__law_told (.cons (.var 0) (.cons (.var 4) (.cons (.var 5) (.cons (.var 6) .nil))))) (.var 7))) (.cons (.ret (.lst (.cons (.lit (.bl false)) (.cons (.var 2) (.cons (.var 3) .nil)))))
    .nil) .nil)
    (.cons (.ife (.val (.cmp .Eq (.idx (.var 7) (.lit (.int 0))) (.lit (.str ("laid" : Str))))) (.cons (.set 2 false (.lc [(("x" : Str), 8)] (.name 8) (.seq (.var 2)) (.val (.cmp .NotEq (.var 8) (.var 4))) (.var 8)))
    (.cons (.set 3 false (.bin .Add (.var 3) (.lst (.cons (.tup (.cons (.var 4) (.cons (.idx (.var 7) (.lit (.int 1))) .nil))) .nil))))
    .nil)) .nil)
    (.cons (.ret (.lst (.cons (.call F__law_state (.cons (.var 0) (.cons (.var 2) (.cons (.var 3) .nil)))) (.cons (.var 2) (.cons (.var 3) .nil)))))
    .nil))))
def d__law_step : FD := ⟨.glo ("_law_step" : Str), [], ⟨n__law_step, 7, b__law_step⟩⟩
def n__law_state : List Str := [("taking" : Str), ("left" : Str), ("pairs" : Str), ("front" : Str), ("back" : Str), ("pair" : Str)]
def b__law_state : Ss := (.cons (.set 3 false (.lc [(("pair" : Str), 5)] (.name 5) (.seq (.var 2)) (.val (.cmp .Eq (.idx (.var 5) (.lit (.int 1))) (.lit (.str ("front" : Str))))) (.idx (.var 5) (.lit (.int 0)))))
    (.cons (.set 4 false (.lc [(("pair" : Str), 5)] (.name 5) (.seq (.var 2)) (.val (.cmp .Eq (.idx (.var 5) (.lit (.int 1))) (.lit (.str ("back" : Str))))) (.idx (.var 5) (.lit (.int 0)))))
    (.cons (.ife (.or (.nott (.tru (.call F__law_same_row (.cons (.prop (.var 0) ("things_left" : Str)) (.cons (.var 1) .nil))))) (.nott (.tru (.call F__law_same_row (.cons (.fld (.var 0) ("front" : Str)) (.cons (.var 3) .nil)))))) (.cons (.ret (.lit (.bl false)))
    .nil) .nil)
    (.cons (.ret (.andv (.call F__law_same_row (.cons (.fld (.var 0) ("back" : Str)) (.cons (.var 4) .nil))) (.andv (.isi (.prop (.var 0) ("takes_row" : Str)) [("tuple" : Str)] false) (.cmp .Eq (.prop (.var 0) ("takes_row" : Str)) (.bi ("tuple" : Str) (.cons (.var 2) .nil))))))
    .nil))))
def d__law_state : FD := ⟨.glo ("_law_state" : Str), [], ⟨n__law_state, 3, b__law_state⟩⟩
def n__law_no_end : List Str := [("quads" : Str), ("left" : Str), ("x" : Str), ("quad" : Str)]
def b__law_no_end : Ss := (.cons (.ret (.cmp .Eq (.bi ("len" : Str) (.cons (.lc [(("quad" : Str), 3)] (.name 3) (.seq (.call F__law_inside (.cons (.var 0) (.cons (.var 1) .nil)))) (.or (.val (.cmp .Eq (.var 2) (.idx (.var 3) (.lit (.int 0))))) (.val (.cmp .Eq (.var 2) (.idx (.var 3) (.lit (.int 3)))))) (.var 3)) .nil)) (.lit (.int 0))))
    .nil)
def d__law_no_end : FD := ⟨.glo ("_law_no_end" : Str), [], ⟨n__law_no_end, 3, b__law_no_end⟩⟩
def n__law_inside : List Str := [("quads" : Str), ("left" : Str), ("quad" : Str), ("x" : Str)]
def b__law_inside : Ss := (.cons (.ret (.lc [(("quad" : Str), 2)] (.name 2) (.seq (.var 0)) (.val (.cmp .Eq (.bi ("len" : Str) (.cons (.lc [(("x" : Str), 3)] (.name 3) (.seq (.var 2)) (.val (.cmp .In (.var 3) (.var 1))) (.var 3)) .nil)) (.lit (.int 4)))) (.var 2)))
    .nil)
def d__law_inside : FD := ⟨.glo ("_law_inside" : Str), [], ⟨n__law_inside, 2, b__law_inside⟩⟩
def n__law_told : List Str := [("taking" : Str), ("thing" : Str), ("side" : Str), ("plain" : Str), ("answer" : Str), ("error" : Str)]
def b__law_told : Ss := (.cons (.set 4 false (.lst (.cons (.lit (.str ("other" : Str))) (.cons (.lit .non) .nil))))
    (.cons (.try_ (.cons (.ife (.tru (.var 3)) (.cons (.set 4 false (.lst (.cons (.lit (.str ("laid" : Str))) (.cons (.meth ("take" : Str) (.var 0) (.cons (.var 1) .nil)) .nil))))
    .nil) (.cons (.set 4 false (.lst (.cons (.lit (.str ("laid" : Str))) (.cons (.meth ("take" : Str) (.var 0) (.cons (.var 1) (.cons (.var 2) .nil))) .nil))))
    .nil))
    .nil) (.cons X_BadThing (some 5) (.cons (.set 4 false (.lst (.cons (.lit (.str ("thing" : Str))) (.cons (.efld 5 ("thing" : Str)) .nil))))
    .nil) (.cons X_BadNumber (some 5) (.cons (.set 4 false (.lst (.cons (.lit (.str ("number" : Str))) (.cons (.efld 5 ("name" : Str)) .nil))))
    .nil) (.cons X_NoneSuch (some 5) (.cons (.set 4 false (.lst (.cons (.lit (.str ("none" : Str))) (.cons (.efld 5 ("name" : Str)) .nil))))
    .nil) (.cons X_OrdersError none (.cons (.set 4 false (.lst (.cons (.lit (.str ("other" : Str))) (.cons (.lit .non) .nil))))
    .nil) .nil)))))
    (.cons (.ret (.var 4))
    .nil)))
def d__law_told : FD := ⟨.glo ("_law_told" : Str), [], ⟨n__law_told, 4, b__law_told⟩⟩
def n_Web___eq__ : List Str := [("self" : Str), ("other" : Str)]
def b_Web___eq__ : Ss := (.cons (.ret (.andv (.isc (.var 1) C_Web) (.andv (.cmp .Eq (.fld (.var 0) ("many" : Str)) (.fld (.var 1) ("many" : Str))) (.cmp .Eq (.fld (.var 0) ("clashes" : Str)) (.fld (.var 1) ("clashes" : Str))))))
    .nil)
def d_Web___eq__ : FD := ⟨.meth ("Web" : Str) ("__eq__" : Str), [], ⟨n_Web___eq__, 2, b_Web___eq__⟩⟩
def n__law_line : List Str := [("many" : Str), ("x" : Str)]
def b__law_line : Ss := (.cons (.ret (.lc [(("x" : Str), 1)] (.name 1) (.rng1 (.bin .Sub (.var 0) (.lit (.int 1)))) .yes (.tup (.cons (.var 1) (.cons (.bin .Add (.var 1) (.lit (.int 1))) .nil)))))
    .nil)
def d__law_line : FD := ⟨.glo ("_law_line" : Str), [], ⟨n__law_line, 1, b__law_line⟩⟩
def n__law_ring_row : List Str := [("many" : Str), ("x" : Str)]
def b__law_ring_row : Ss := (.cons (.ret (.bin .Add (.lc [(("x" : Str), 1)] (.name 1) (.rng3 (.lit (.int 0)) (.var 0) (.lit (.int 2))) .yes (.var 1)) (.lc [(("x" : Str), 1)] (.name 1) (.rng3 (.lit (.int 1)) (.var 0) (.lit (.int 2))) .yes (.var 1))))
    .nil)
def d__law_ring_row : FD := ⟨.glo ("_law_ring_row" : Str), [], ⟨n__law_ring_row, 1, b__law_ring_row⟩⟩
def n__law_ring : List Str := [("many" : Str), ("pairs" : Str), ("x" : Str)]
def b__law_ring : Ss := (.cons (.set 1 true (.lc [(("x" : Str), 2)] (.name 2) (.rng1 (.bin .Sub (.var 0) (.lit (.int 1)))) .yes (.tup (.cons (.var 2) (.cons (.bin .Add (.var 2) (.lit (.int 1))) .nil)))))
    (.cons (.expr (.mt ("append" : Str) (.var 1) (.cons (.tup (.cons (.lit (.int 0)) (.cons (.bin .Sub (.var 0) (.lit (.int 1))) .nil))) .nil)))
    (.cons (.ret (.bi ("sorted" : Str) (.cons (.var 1) .nil)))
    .nil)))
def d__law_ring : FD := ⟨.glo ("_law_ring" : Str), [], ⟨n__law_ring, 1, b__law_ring⟩⟩
def n__law_contrary : List Str := [("many" : Str), ("pairs" : Str), ("rest" : Str), ("x" : Str), ("y" : Str)]
def b__law_contrary_1 : Ss := (.cons (.ife (.val (.cmp .NotIn (.tup (.cons (.var 3) (.cons (.var 4) .nil))) (.var 1))) (.cons (.expr (.mt ("append" : Str) (.var 2) (.cons (.tup (.cons (.var 3) (.cons (.var 4) .nil))) .nil)))
    .nil) .nil)
    .nil)
def b__law_contrary_2 : Ss := (.cons (.for_ (.name 4) (.rng2 (.bin .Add (.var 3) (.lit (.int 1))) (.var 0)) b__law_contrary_1)
    .nil)
def b__law_contrary : Ss := (.cons (.set 2 true (.lst .nil))
    (.cons (.for_ (.name 3) (.rng1 (.var 0)) b__law_contrary_2)
    (.cons (.ret (.var 2))
    .nil)))
def d__law_contrary : FD := ⟨.glo ("_law_contrary" : Str), [], ⟨n__law_contrary, 2, b__law_contrary⟩⟩
def n__law_stretches : List Str := [("draws" : Str), ("many" : Str), ("spans" : Str), ("x" : Str), ("pairs" : Str), ("start" : Str), ("y" : Str), ("span" : Str)]
def b__law_stretches_1 : Ss := (.cons (.set 5 false (.call F__law_take (.cons (.var 0) (.cons (.lit (.int 7)) .nil))))
    (.cons (.expr (.mt ("append" : Str) (.var 2) (.cons (.tup (.cons (.var 5) (.cons (.bin .Add (.var 5) (.call F__law_take (.cons (.var 0) (.cons (.lit (.int 4)) .nil)))) (.cons (.var 3) .nil)))) .nil)))
    .nil))
def b__law_stretches_2 : Ss := (.cons (.ife (.val (.cmp .LtE (.bi ("max" : Str) (.cons (.idx (.idx (.var 2) (.var 3)) (.lit (.int 0))) (.cons (.idx (.idx (.var 2) (.var 6)) (.lit (.int 0))) .nil))) (.bi ("min" : Str) (.cons (.idx (.idx (.var 2) (.var 3)) (.lit (.int 1))) (.cons (.idx (.idx (.var 2) (.var 6)) (.lit (.int 1))) .nil))))) (.cons (.expr (.mt ("append" : Str) (.var 4) (.cons (.tup (.cons (.var 3) (.cons (.var 6) .nil))) .nil)))
    .nil) .nil)
    .nil)
def b__law_stretches_3 : Ss := (.cons (.for_ (.name 6) (.rng2 (.bin .Add (.var 3) (.lit (.int 1))) (.var 1)) b__law_stretches_2)
    .nil)
def b__law_stretches : Ss := (.cons (.set 2 true (.lst .nil))
    (.cons (.for_ (.name 3) (.rng1 (.var 1)) b__law_stretches_1)
    (.cons (.set 4 true (.lst .nil))
    (.cons (.for_ (.name 3) (.rng1 (.var 1)) b__law_stretches_3)
    (.cons (.ret (.lst (.cons (.var 1) (.cons (.var 4) (.cons (.lc [(("span" : Str), 7)] (.name 7) (.seq (.bi ("sorted" : Str) (.cons (.var 2) .nil))) .yes (.idx (.var 7) (.lit (.int 2)))) .nil)))))
    .nil)))))
def d__law_stretches : FD := ⟨.glo ("_law_stretches" : Str), [], ⟨n__law_stretches, 2, b__law_stretches⟩⟩
def n__law_falling : List Str := [("draws" : Str), ("many" : Str), ("numbers" : Str), ("pairs" : Str), ("x" : Str), ("y" : Str)]
def b__law_falling_1 : Ss := (.cons (.ife (.val (.cmp .Gt (.idx (.var 2) (.var 4)) (.idx (.var 2) (.var 5)))) (.cons (.expr (.mt ("append" : Str) (.var 3) (.cons (.tup (.cons (.var 4) (.cons (.var 5) .nil))) .nil)))
    .nil) .nil)
    .nil)
def b__law_falling_2 : Ss := (.cons (.for_ (.name 5) (.rng2 (.bin .Add (.var 4) (.lit (.int 1))) (.var 1)) b__law_falling_1)
    .nil)
def b__law_falling : Ss := (.cons (.set 2 false (.call F__law_row (.cons (.var 0) (.cons (.var 1) .nil))))
    (.cons (.set 3 true (.lst .nil))
    (.cons (.for_ (.name 4) (.rng1 (.var 1)) b__law_falling_2)
    (.cons (.ret (.lst (.cons (.var 1) (.cons (.var 3) (.cons (.lc [(("x" : Str), 4)] (.name 4) (.rng1 (.var 1)) .yes (.var 4)) .nil)))))
    .nil))))
def d__law_falling : FD := ⟨.glo ("_law_falling" : Str), [], ⟨n__law_falling, 2, b__law_falling⟩⟩
def n__law_free : List Str := [("draws" : Str), ("many" : Str), ("left" : Str), ("pairs" : Str), ("x" : Str), ("y" : Str)]
def b__law_free_1 : Ss := (.cons (.ife (.and (.or (.val (.cmp .Eq (.var 2) (.lit (.int 0)))) (.val (.chn .Lt .LtE (.var 4) (.var 2) (.var 5)))) (.val (.cmp .Eq (.call F__law_take (.cons (.var 0) (.cons (.lit (.int 2)) .nil))) (.lit (.int 1))))) (.cons (.expr (.mt ("append" : Str) (.var 3) (.cons (.tup (.cons (.var 4) (.cons (.var 5) .nil))) .nil)))
    .nil) .nil)
    .nil)
def b__law_free_2 : Ss := (.cons (.for_ (.name 5) (.rng2 (.bin .Add (.var 4) (.lit (.int 1))) (.var 1)) b__law_free_1)
    .nil)
def b__law_free : Ss := (.cons (.set 3 true (.lst .nil))
    (.cons (.for_ (.name 4) (.rng1 (.var 1)) b__law_free_2)
    (.cons (.ret (.lst (.cons (.var 1) (.cons (.var 3) (.cons (.lc [(("x" : Str), 4)] (.name 4) (.rng1 (.var 1)) .yes (.var 4)) .nil)))))
    .nil)))
def d__law_free : FD := ⟨.glo ("_law_free" : Str), [], ⟨n__law_free, 3, b__law_free⟩⟩
def n__law_small : List Str := [("draws" : Str), ("many" : Str), ("x" : Str)]
def b__law_small : Ss := (.cons (.set 1 false (.bin .Add (.lit (.int 1)) (.call F__law_take (.cons (.var 0) (.cons (.lit (.int 4)) .nil)))))
    (.cons (.ife (.val (.cmp .Eq (.call F__law_take (.cons (.var 0) (.cons (.lit (.int 3)) .nil))) (.lit (.int 1)))) (.cons (.ret (.lst (.cons (.var 1) (.cons (.lst .nil) (.cons (.lc [(("x" : Str), 2)] (.name 2) (.rng1 (.var 1)) .yes (.var 2)) .nil)))))
    .nil) .nil)
    (.cons (.ret (.lst (.cons (.var 1) (.cons (.call F__law_line (.cons (.var 1) .nil)) (.cons (.lc [(("x" : Str), 2)] (.name 2) (.rng1 (.var 1)) .yes (.var 2)) .nil)))))
    .nil)))
def d__law_small : FD := ⟨.glo ("_law_small" : Str), [], ⟨n__law_small, 1, b__law_small⟩⟩
def n__law_sides : List Str := [("one" : Str), ("other" : Str), ("joined" : Str), ("pairs" : Str), ("pair" : Str), ("row" : Str), ("x" : Str), ("y" : Str)]
def b__law_sides_1 : Ss := (.cons (.expr (.mt ("append" : Str) (.var 3) (.cons (.tup (.cons (.bin .Add (.idx (.var 4) (.lit (.int 0))) (.idx (.var 0) (.lit (.int 0)))) (.cons (.bin .Add (.idx (.var 4) (.lit (.int 1))) (.idx (.var 0) (.lit (.int 0)))) .nil))) .nil)))
    .nil)
def b__law_sides_2 : Ss := (.cons (.expr (.mt ("append" : Str) (.var 3) (.cons (.tup (.cons (.var 6) (.cons (.bin .Add (.idx (.var 0) (.lit (.int 0))) (.var 7)) .nil))) .nil)))
    .nil)
def b__law_sides_3 : Ss := (.cons (.for_ (.name 7) (.rng1 (.idx (.var 1) (.lit (.int 0)))) b__law_sides_2)
    .nil)
def b__law_sides : Ss := (.cons (.set 3 true (.bi ("list" : Str) (.cons (.idx (.var 0) (.lit (.int 1))) .nil)))
    (.cons (.for_ (.name 4) (.seq (.idx (.var 1) (.lit (.int 1)))) b__law_sides_1)
    (.cons (.ife (.tru (.var 2)) (.cons (.for_ (.name 6) (.rng1 (.idx (.var 0) (.lit (.int 0)))) b__law_sides_3)
    .nil) .nil)
    (.cons (.set 5 false (.bin .Add (.bi ("list" : Str) (.cons (.idx (.var 0) (.lit (.int 2))) .nil)) (.lc [(("y" : Str), 7)] (.name 7) (.seq (.idx (.var 1) (.lit (.int 2)))) .yes (.bin .Add (.idx (.var 0) (.lit (.int 0))) (.var 7)))))
    (.cons (.ret (.lst (.cons (.bin .Add (.idx (.var 0) (.lit (.int 0))) (.idx (.var 1) (.lit (.int 0)))) (.cons (.bi ("sorted" : Str) (.cons (.var 3) .nil)) (.cons (.var 5) .nil)))))
    .nil)))))
def d__law_sides : FD := ⟨.glo ("_law_sides" : Str), [], ⟨n__law_sides, 3, b__law_sides⟩⟩
def n__law_twins : List Str := [("draws" : Str), ("case" : Str), ("most" : Str), ("many" : Str), ("pairs" : Str), ("row" : Str), ("turn" : Str), ("old" : Str), ("near" : Str), ("place" : Str), ("x" : Str)]
def b__law_twins_1 : Ss := (.cons (.set 7 false (.call F__law_take (.cons (.var 0) (.cons (.var 3) .nil))))
    (.cons (.ife (.and (.val (.cmp .Lt (.var 3) (.var 2))) (.val (.cmp .Gt (.call F__law_take (.cons (.var 0) (.cons (.lit (.int 4)) .nil))) (.lit (.int 0))))) (.cons (.set 8 true (.call F__law_near (.cons (.var 3) (.cons (.var 4) (.cons (.var 7) .nil)))))
    (.cons (.ife (.val (.cmp .Eq (.call F__law_take (.cons (.var 0) (.cons (.lit (.int 2)) .nil))) (.lit (.int 1)))) (.cons (.expr (.mt ("append" : Str) (.var 8) (.cons (.var 7) .nil)))
    .nil) .nil)
    (.cons (.set 4 false (.bin .Add (.var 4) (.lc [(("x" : Str), 10)] (.name 10) (.seq (.var 8)) .yes (.tup (.cons (.var 10) (.cons (.var 3) .nil))))))
    (.cons (.set 9 false (.bin .Add (.mt ("index" : Str) (.var 5) (.cons (.var 7) .nil)) (.lit (.int 1))))
    (.cons (.set 5 false (.bin .Add (.bin .Add (.slc (.var 5) .no (.some (.var 9))) (.lst (.cons (.var 3) .nil))) (.slc (.var 5) (.some (.var 9)) .no)))
    (.cons (.set 3 false (.bin .Add (.var 3) (.lit (.int 1))))
    .nil)))))) .nil)
    .nil))
def b__law_twins : Ss := (.cons (.set 3 false (.idx (.var 1) (.lit (.int 0))))
    (.cons (.set 4 false (.bi ("list" : Str) (.cons (.idx (.var 1) (.lit (.int 1))) .nil)))
    (.cons (.set 5 false (.bi ("list" : Str) (.cons (.idx (.var 1) (.lit (.int 2))) .nil)))
    (.cons (.for_ (.name 6) (.rng1 (.lit (.int 3))) b__law_twins_1)
    (.cons (.ret (.lst (.cons (.var 3) (.cons (.bi ("sorted" : Str) (.cons (.var 4) .nil)) (.cons (.var 5) .nil)))))
    .nil)))))
def d__law_twins : FD := ⟨.glo ("_law_twins" : Str), [], ⟨n__law_twins, 3, b__law_twins⟩⟩
def n_is_int : List Str := [("value" : Str)]
def b_is_int : Ss := (.cons (.ret (.andv (.isi (.var 0) [("int" : Str)] false) (.notv (.isi (.var 0) [("bool" : Str)] false))))
    .nil)
def d_is_int : FD := ⟨.glo ("is_int" : Str), [], ⟨n_is_int, 1, b_is_int⟩⟩
def n_is_pair : List Str := [("value" : Str)]
def b_is_pair : Ss := (.cons (.ret (.andv (.isi (.var 0) [("list" : Str), ("tuple" : Str)] true) (.cmp .Eq (.bi ("len" : Str) (.cons (.var 0) .nil)) (.lit (.int 2)))))
    .nil)
def d_is_pair : FD := ⟨.glo ("is_pair" : Str), [], ⟨n_is_pair, 1, b_is_pair⟩⟩
def n_is_thing : List Str := [("many" : Str), ("value" : Str)]
def b_is_thing : Ss := (.cons (.ret (.andv (.call F_is_int (.cons (.var 1) .nil)) (.chn .LtE .Lt (.lit (.int 0)) (.var 1) (.var 0))))
    .nil)
def d_is_thing : FD := ⟨.glo ("is_thing" : Str), [], ⟨n_is_thing, 2, b_is_thing⟩⟩
def n_members : List Str := [("mask" : Str), ("thing" : Str)]
def b_members : Ss := (.cons (.ret (.lc [(("thing" : Str), 1)] (.name 1) (.rng1 (.mt ("bit_length" : Str) (.var 0) .nil)) (.tru (.bin .BitAnd (.bin .RShift (.var 0) (.var 1)) (.lit (.int 1)))) (.var 1)))
    .nil)
def d_members : FD := ⟨.glo ("members" : Str), [], ⟨n_members, 1, b_members⟩⟩
def n_mask_of : List Str := [("things" : Str), ("mask" : Str), ("thing" : Str)]
def b_mask_of_1 : Ss := (.cons (.set 1 false (.bin .BitOr (.var 1) (.bin .LShift (.lit (.int 1)) (.var 2))))
    .nil)
def b_mask_of : Ss := (.cons (.set 1 false (.lit (.int 0)))
    (.cons (.for_ (.name 2) (.seq (.var 0)) b_mask_of_1)
    (.cons (.ret (.var 1))
    .nil)))
def d_mask_of : FD := ⟨.glo ("mask_of" : Str), [], ⟨n_mask_of, 1, b_mask_of⟩⟩
def n_Taking_things_left : List Str := [("self" : Str), ("gone" : Str), ("thing" : Str)]
def b_Taking_things_left : Ss := (.cons (.set 1 false (.tup (.star (.fld (.var 0) ("front" : Str)) (.star (.fld (.var 0) ("back" : Str)) .nil))))
    (.cons (.ret (.bi ("tuple" : Str) (.cons (.lc [(("thing" : Str), 2)] (.name 2) (.rng1 (.fld (.fld (.var 0) ("web" : Str)) ("many" : Str))) (.val (.cmp .NotIn (.var 2) (.var 1))) (.var 2)) .nil)))
    .nil))
def d_Taking_things_left : FD := ⟨.prop ("Taking" : Str) ("things_left" : Str), [], ⟨n_Taking_things_left, 1, b_Taking_things_left⟩⟩
def n_end_and_middle_masks : List Str := [("rows" : Str), ("keep" : Str), ("ends" : Str), ("middles" : Str), ("row" : Str)]
def b_end_and_middle_masks_1 : Ss := (.cons (.ife (.val (.cmp .Eq (.bin .BitAnd (.call F_mask_of (.cons (.var 4) .nil)) (.un .Invert (.var 1))) (.lit (.int 0)))) (.cons (.set 2 false (.bin .BitOr (.var 2) (.call F_mask_of (.cons (.tup (.cons (.idx (.var 4) (.lit (.int 0))) (.cons (.idx (.var 4) (.lit (.int 3))) .nil))) .nil))))
    (.cons (.set 3 false (.bin .BitOr (.var 3) (.call F_mask_of (.cons (.tup (.cons (.idx (.var 4) (.lit (.int 1))) (.cons (.idx (.var 4) (.lit (.int 2))) .nil))) .nil))))
    .nil)) .nil)
    .nil)
def b_end_and_middle_masks : Ss := (.cons (.set 2 false (.lit (.int 0)))
    (.cons (.set 3 false (.lit (.int 0)))
    (.cons (.for_ (.name 4) (.seq (.var 0)) b_end_and_middle_masks_1)
    (.cons (.ret (.tup (.cons (.var 2) (.cons (.var 3) .nil))))
    .nil))))
def d_end_and_middle_masks : FD := ⟨.glo ("end_and_middle_masks" : Str), [], ⟨n_end_and_middle_masks, 2, b_end_and_middle_masks⟩⟩
def n_Taking_take : List Str := [("self" : Str), ("thing" : Str), ("side" : Str), ("left" : Str), ("ends" : Str), ("middles" : Str), ("laid" : Str)]
def b_Taking_take : Ss := (.cons (.set 3 false (.prop (.var 0) ("things_left" : Str)))
    (.cons (.ife (.or (.nott (.tru (.call F_is_thing (.cons (.fld (.fld (.var 0) ("web" : Str)) ("many" : Str)) (.cons (.var 1) .nil))))) (.val (.cmp .NotIn (.var 1) (.var 3)))) (.cons (.raise X_BadThing (.cons (.var 1) .nil))
    .nil) .nil)
    (.cons (.ife (.val (.cmp .NotIn (.var 2) (.tup (.cons (.lit .non) (.cons (.lit (.str ("front" : Str))) (.cons (.lit (.str ("back" : Str))) .nil)))))) (.cons (.raise X_BadNumber (.cons (.lit (.str ("side" : Str))) .nil))
    .nil) .nil)
    (.cons (.unp [4, 5] (.call F_end_and_middle_masks (.cons (.fld (.var 0) ("four_rows" : Str)) (.cons (.call F_mask_of (.cons (.var 3) .nil)) .nil))))
    (.cons (.ife (.and (.nott (.tru (.bin .BitAnd (.bin .RShift (.var 4) (.var 1)) (.lit (.int 1))))) (.val (.cmp .NotEq (.var 2) (.lit (.str ("back" : Str)))))) (.cons (.setFld 0 ("front" : Str) (.tup (.star (.fld (.var 0) ("front" : Str)) (.cons (.var 1) .nil))))
    (.cons (.set 6 false (.lit (.str ("front" : Str))))
    .nil)) (.cons (.ife (.and (.nott (.tru (.bin .BitAnd (.bin .RShift (.var 5) (.var 1)) (.lit (.int 1))))) (.val (.cmp .NotEq (.var 2) (.lit (.str ("front" : Str)))))) (.cons (.setFld 0 ("back" : Str) (.tup (.star (.fld (.var 0) ("back" : Str)) (.cons (.var 1) .nil))))
    (.cons (.set 6 false (.lit (.str ("back" : Str))))
    .nil)) (.cons (.raise X_NoneSuch (.cons (.lit (.str ("take" : Str))) .nil))
    .nil))
    .nil))
    (.cons (.setFld 0 ("taken_pairs" : Str) (.tup (.star (.fld (.var 0) ("taken_pairs" : Str)) (.cons (.tup (.cons (.var 1) (.cons (.var 6) .nil))) .nil))))
    (.cons (.ret (.var 6))
    .nil)))))))
def d_Taking_take : FD := ⟨.meth ("Taking" : Str) ("take" : Str), [.non], ⟨n_Taking_take, 3, b_Taking_take⟩⟩
def n_rows_of_four : List Str := [("web" : Str), ("keep" : Str), ("a" : Str), ("row" : Str)]
def b_rows_of_four : Ss := (.cons (.set 1 false (.call F_whole_mask (.cons (.fld (.var 0) ("many" : Str)) .nil)))
    (.cons (.ret (.bi ("tuple" : Str) (.cons (.lc2 [(("a" : Str), 2), (("row" : Str), 3)] (.name 2) (.rng1 (.fld (.var 0) ("many" : Str))) .yes (.name 3) (.seq (.call F_rows_from (.cons (.fld (.var 0) ("masks" : Str)) (.cons (.var 2) (.cons (.var 1) .nil))))) (.val (.cmp .Lt (.idx (.var 3) (.lit (.int 0))) (.idx (.var 3) (.lit (.int 3))))) (.var 3)) .nil)))
    .nil))
def d_rows_of_four : FD := ⟨.glo ("rows_of_four" : Str), [], ⟨n_rows_of_four, 1, b_rows_of_four⟩⟩
def n__law_due : List Str := [("quads" : Str), ("left" : Str), ("thing" : Str), ("side" : Str)]
def b__law_due : Ss := (.cons (.ife (.or (.nott (.tru (.call F__law_int (.cons (.var 2) .nil)))) (.val (.cmp .NotIn (.var 2) (.var 1)))) (.cons (.ret (.lst (.cons (.lit (.str ("thing" : Str))) (.cons (.var 2) .nil))))
    .nil) .nil)
    (.cons (.ife (.and (.val (.cmp .IsNot (.var 3) (.lit .non))) (.and (.val (.cmp .NotEq (.var 3) (.lit (.str ("front" : Str))))) (.val (.cmp .NotEq (.var 3) (.lit (.str ("back" : Str))))))) (.cons (.ret (.lst (.cons (.lit (.str ("number" : Str))) (.cons (.lit (.str ("side" : Str))) .nil))))
    .nil) .nil)
    (.cons (.ife (.and (.tru (.call F__law_no_end (.cons (.var 0) (.cons (.var 1) (.cons (.var 2) .nil))))) (.val (.cmp .NotEq (.var 3) (.lit (.str ("back" : Str)))))) (.cons (.ret (.lst (.cons (.lit (.str ("laid" : Str))) (.cons (.lit (.str ("front" : Str))) .nil))))
    .nil) .nil)
    (.cons (.ife (.and (.tru (.call F__law_no_middle (.cons (.var 0) (.cons (.var 1) (.cons (.var 2) .nil))))) (.val (.cmp .NotEq (.var 3) (.lit (.str ("front" : Str)))))) (.cons (.ret (.lst (.cons (.lit (.str ("laid" : Str))) (.cons (.lit (.str ("back" : Str))) .nil))))
    .nil) .nil)
    (.cons (.ret (.lst (.cons (.lit (.str ("none" : Str))) (.cons (.lit (.str ("take" : Str))) .nil))))
    .nil)))))
def d__law_due : FD := ⟨.glo ("_law_due" : Str), [], ⟨n__law_due, 4, b__law_due⟩⟩
def n_Taking_takes_row : List Str := [("self" : Str)]
def b_Taking_takes_row : Ss := (.cons (.ret (.fld (.var 0) ("taken_pairs" : Str)))
    .nil)
def d_Taking_takes_row : FD := ⟨.prop ("Taking" : Str) ("takes_row" : Str), [], ⟨n_Taking_takes_row, 1, b_Taking_takes_row⟩⟩
def n_whole_mask : List Str := [("many" : Str)]
def b_whole_mask : Ss := (.cons (.ret (.bin .Sub (.bin .LShift (.lit (.int 1)) (.var 0)) (.lit (.int 1))))
    .nil)
def d_whole_mask : FD := ⟨.glo ("whole_mask" : Str), [], ⟨n_whole_mask, 1, b_whole_mask⟩⟩
def n_rows_from : List Str := [("masks" : Str), ("a" : Str), ("keep" : Str), ("rows" : Str), ("b" : Str), ("c" : Str), ("d" : Str)]
def b_rows_from_1 : Ss := (.cons (.ife (.val (.cmp .NotEq (.var 6) (.var 4))) (.cons (.expr (.mt ("append" : Str) (.var 3) (.cons (.tup (.cons (.var 1) (.cons (.var 4) (.cons (.var 5) (.cons (.var 6) .nil))))) .nil)))
    .nil) .nil)
    .nil)
def b_rows_from_2 : Ss := (.cons (.ife (.val (.cmp .Eq (.var 5) (.var 1))) (.cons .cont
    .nil) .nil)
    (.cons (.for_ (.name 6) (.seq (.call F_members (.cons (.bin .BitAnd (.bin .BitAnd (.bin .BitAnd (.idx (.var 0) (.var 5)) (.un .Invert (.idx (.var 0) (.var 4)))) (.un .Invert (.idx (.var 0) (.var 1)))) (.var 2)) .nil))) b_rows_from_1)
    .nil))
def b_rows_from_3 : Ss := (.cons (.for_ (.name 5) (.seq (.call F_members (.cons (.bin .BitAnd (.bin .BitAnd (.idx (.var 0) (.var 4)) (.un .Invert (.idx (.var 0) (.var 1)))) (.var 2)) .nil))) b_rows_from_2)
    .nil)
def b_rows_from : Ss := (.cons (.set 3 true (.lst .nil))
    (.cons (.for_ (.name 4) (.seq (.call F_members (.cons (.bin .BitAnd (.idx (.var 0) (.var 1)) (.var 2)) .nil))) b_rows_from_3)
    (.cons (.ret (.var 3))
    .nil)))
def d_rows_from : FD := ⟨.glo ("rows_from" : Str), [], ⟨n_rows_from, 3, b_rows_from⟩⟩
def cl_Web : Cl := ⟨("Web" : Str), 4, [(("__eq__" : Str), 29)], [], [("many" : Str), ("masks" : Str), ("clashes" : Str)], [], true⟩
def cl_Taking : Cl := ⟨("Taking" : Str), 23, [(("take_all" : Str), 22), (("take" : Str), 47)], [(("things_left" : Str), 45), (("takes_row" : Str), 50)], [("web" : Str), ("front" : Str), ("back" : Str), ("taken_pairs" : Str), ("four_rows" : Str)], [], false⟩
def pk : Pk where
  cls := [cl_Web, cl_Taking]
  xcs := [⟨("OrdersError" : Str), []⟩, ⟨("BadForm" : Str), []⟩, ⟨("BadNumber" : Str), [("name" : Str)]⟩, ⟨("BadWeb" : Str), [("x" : Str), ("y" : Str)]⟩, ⟨("BadThing" : Str), [("thing" : Str)]⟩, ⟨("UnmetNeed" : Str), []⟩, ⟨("NoneSuch" : Str), [("name" : Str)]⟩]
  exm := [(0, 0, true), (0, 1, false), (0, 2, false), (0, 3, false), (0, 4, false), (0, 5, false), (0, 6, false), (1, 0, true), (1, 1, true), (1, 2, false), (1, 3, false), (1, 4, false), (1, 5, false), (1, 6, false), (2, 0, true), (2, 1, true), (2, 2, true), (2, 3, false), (2, 4, false), (2, 5, false), (2, 6, false), (3, 0, true), (3, 1, true), (3, 2, false), (3, 3, true), (3, 4, false), (3, 5, false), (3, 6, false), (4, 0, true), (4, 1, true), (4, 2, false), (4, 3, false), (4, 4, true), (4, 5, false), (4, 6, false), (5, 0, true), (5, 1, false), (5, 2, false), (5, 3, false), (5, 4, false), (5, 5, true), (5, 6, false), (6, 0, true), (6, 1, false), (6, 2, false), (6, 3, false), (6, 4, false), (6, 5, true), (6, 6, true)]
  fds := [d_law, d__law_draws, d__law_take, d__law_case, d_Web___init__, d__law_quads, d__law_core, d__law_same_row, d_core, d__law_walk, d__law_able, d__law_no_middle, d__law_least_first, d__law_made, d__law_moved, d__law_row, d_check_number, d_clash_masks, d_clash_pairs, d__law_near, d__law_clash, d__law_int, d_Taking_take_all, d_Taking___init__, d__law_step, d__law_state, d__law_no_end, d__law_inside, d__law_told, d_Web___eq__, d__law_line, d__law_ring_row, d__law_ring, d__law_contrary, d__law_stretches, d__law_falling, d__law_free, d__law_small, d__law_sides, d__law_twins, d_is_int, d_is_pair, d_is_thing, d_members, d_mask_of, d_Taking_things_left, d_end_and_middle_masks, d_Taking_take, d_rows_of_four, d__law_due, d_Taking_takes_row, d_whole_mask, d_rows_from]
  fnm := [(("law" : Str), 0), (("_law_draws" : Str), 1), (("_law_take" : Str), 2), (("_law_case" : Str), 3), (("_law_quads" : Str), 5), (("_law_core" : Str), 6), (("_law_same_row" : Str), 7), (("core" : Str), 8), (("_law_walk" : Str), 9), (("_law_able" : Str), 10), (("_law_no_middle" : Str), 11), (("_law_least_first" : Str), 12), (("_law_made" : Str), 13), (("_law_moved" : Str), 14), (("_law_row" : Str), 15), (("check_number" : Str), 16), (("clash_masks" : Str), 17), (("clash_pairs" : Str), 18), (("_law_near" : Str), 19), (("_law_clash" : Str), 20), (("_law_int" : Str), 21), (("_law_step" : Str), 24), (("_law_state" : Str), 25), (("_law_no_end" : Str), 26), (("_law_inside" : Str), 27), (("_law_told" : Str), 28), (("_law_line" : Str), 30), (("_law_ring_row" : Str), 31), (("_law_ring" : Str), 32), (("_law_contrary" : Str), 33), (("_law_stretches" : Str), 34), (("_law_falling" : Str), 35), (("_law_free" : Str), 36), (("_law_small" : Str), 37), (("_law_sides" : Str), 38), (("_law_twins" : Str), 39), (("is_int" : Str), 40), (("is_pair" : Str), 41), (("is_thing" : Str), 42), (("members" : Str), 43), (("mask_of" : Str), 44), (("end_and_middle_masks" : Str), 46), (("rows_of_four" : Str), 48), (("_law_due" : Str), 49), (("whole_mask" : Str), 51), (("rows_from" : Str), 52)]
  clm := [(("Web" : Str), 0), (("Taking" : Str), 1)]
  xcm := [(("OrdersError" : Str), 0), (("BadForm" : Str), 1), (("BadNumber" : Str), 2), (("BadWeb" : Str), 3), (("BadThing" : Str), 4), (("UnmetNeed" : Str), 5), (("NoneSuch" : Str), 6)]
  free := [("all" : Str), ("any" : Str), ("bool" : Str), ("enumerate" : Str), ("int" : Str), ("isinstance" : Str), ("len" : Str), ("list" : Str), ("max" : Str), ("min" : Str), ("range" : Str), ("sorted" : Str), ("str" : Str), ("sum" : Str), ("tuple" : Str)]
  file := PySem.Challenge.pw_perfectorders_k79_one_core_however_taken.main.file
@[simp] theorem call_law (c : Orc) (v0 : DV) (M : Sto) : callR pk.prg c F_law [v0] M = c F_law [v0] M := (rfl)
theorem fs_law : pk.fs F_law = some ⟨n_law, 1, b_law⟩ := rfl
@[simp] theorem call__law_draws (c : Orc) (v0 : DV) (M : Sto) : callR pk.prg c F__law_draws [v0] M = c F__law_draws [v0] M := (rfl)
theorem fs__law_draws : pk.fs F__law_draws = some ⟨n__law_draws, 1, b__law_draws⟩ := rfl
@[simp] theorem call__law_take (c : Orc) (v0 v1 : DV) (M : Sto) : callR pk.prg c F__law_take [v0, v1] M = c F__law_take [v0, v1] M := (rfl)
theorem fs__law_take : pk.fs F__law_take = some ⟨n__law_take, 2, b__law_take⟩ := rfl
@[simp] theorem call__law_case (c : Orc) (v0 v1 : DV) (M : Sto) : callR pk.prg c F__law_case [v0, v1] M = c F__law_case [v0, v1] M := (rfl)
theorem fs__law_case : pk.fs F__law_case = some ⟨n__law_case, 2, b__law_case⟩ := rfl
@[simp] theorem call_Web___init___2 (c : Orc) (v0 v1 : DV) (M : Sto) : callR pk.prg c F_Web___init__ [v0, v1] M = c F_Web___init__ [v0, v1, .p (.tup [])] M := (rfl)
@[simp] theorem call_Web___init__ (c : Orc) (v0 v1 v2 : DV) (M : Sto) : callR pk.prg c F_Web___init__ [v0, v1, v2] M = c F_Web___init__ [v0, v1, v2] M := (rfl)
theorem fs_Web___init__ : pk.fs F_Web___init__ = some ⟨n_Web___init__, 3, b_Web___init__⟩ := rfl
@[simp] theorem call__law_quads (c : Orc) (v0 v1 : DV) (M : Sto) : callR pk.prg c F__law_quads [v0, v1] M = c F__law_quads [v0, v1] M := (rfl)
theorem fs__law_quads : pk.fs F__law_quads = some ⟨n__law_quads, 2, b__law_quads⟩ := rfl
@[simp] theorem call__law_core (c : Orc) (v0 v1 : DV) (M : Sto) : callR pk.prg c F__law_core [v0, v1] M = c F__law_core [v0, v1] M := (rfl)
theorem fs__law_core : pk.fs F__law_core = some ⟨n__law_core, 2, b__law_core⟩ := rfl
@[simp] theorem call__law_same_row (c : Orc) (v0 v1 : DV) (M : Sto) : callR pk.prg c F__law_same_row [v0, v1] M = c F__law_same_row [v0, v1] M := (rfl)
theorem fs__law_same_row : pk.fs F__law_same_row = some ⟨n__law_same_row, 2, b__law_same_row⟩ := rfl
@[simp] theorem call_core (c : Orc) (v0 : DV) (M : Sto) : callR pk.prg c F_core [v0] M = c F_core [v0] M := (rfl)
theorem fs_core : pk.fs F_core = some ⟨n_core, 1, b_core⟩ := rfl
@[simp] theorem call__law_walk (c : Orc) (v0 v1 v2 v3 : DV) (M : Sto) : callR pk.prg c F__law_walk [v0, v1, v2, v3] M = c F__law_walk [v0, v1, v2, v3] M := (rfl)
theorem fs__law_walk : pk.fs F__law_walk = some ⟨n__law_walk, 4, b__law_walk⟩ := rfl
@[simp] theorem call__law_able (c : Orc) (v0 v1 : DV) (M : Sto) : callR pk.prg c F__law_able [v0, v1] M = c F__law_able [v0, v1] M := (rfl)
theorem fs__law_able : pk.fs F__law_able = some ⟨n__law_able, 2, b__law_able⟩ := rfl
@[simp] theorem call__law_no_middle (c : Orc) (v0 v1 v2 : DV) (M : Sto) : callR pk.prg c F__law_no_middle [v0, v1, v2] M = c F__law_no_middle [v0, v1, v2] M := (rfl)
theorem fs__law_no_middle : pk.fs F__law_no_middle = some ⟨n__law_no_middle, 3, b__law_no_middle⟩ := rfl
@[simp] theorem call__law_least_first (c : Orc) (v0 v1 v2 v3 : DV) (M : Sto) : callR pk.prg c F__law_least_first [v0, v1, v2, v3] M = c F__law_least_first [v0, v1, v2, v3] M := (rfl)
theorem fs__law_least_first : pk.fs F__law_least_first = some ⟨n__law_least_first, 4, b__law_least_first⟩ := rfl
@[simp] theorem call__law_made (c : Orc) (v0 v1 : DV) (M : Sto) : callR pk.prg c F__law_made [v0, v1] M = c F__law_made [v0, v1] M := (rfl)
theorem fs__law_made : pk.fs F__law_made = some ⟨n__law_made, 2, b__law_made⟩ := rfl
@[simp] theorem call__law_moved (c : Orc) (v0 v1 v2 : DV) (M : Sto) : callR pk.prg c F__law_moved [v0, v1, v2] M = c F__law_moved [v0, v1, v2] M := (rfl)
theorem fs__law_moved : pk.fs F__law_moved = some ⟨n__law_moved, 3, b__law_moved⟩ := rfl
@[simp] theorem call__law_row (c : Orc) (v0 v1 : DV) (M : Sto) : callR pk.prg c F__law_row [v0, v1] M = c F__law_row [v0, v1] M := (rfl)
theorem fs__law_row : pk.fs F__law_row = some ⟨n__law_row, 2, b__law_row⟩ := rfl
@[simp] theorem call_check_number_2 (c : Orc) (v0 v1 : DV) (M : Sto) : callR pk.prg c F_check_number [v0, v1] M = c F_check_number [v0, v1, .p (.int 0)] M := (rfl)
@[simp] theorem call_check_number (c : Orc) (v0 v1 v2 : DV) (M : Sto) : callR pk.prg c F_check_number [v0, v1, v2] M = c F_check_number [v0, v1, v2] M := (rfl)
theorem fs_check_number : pk.fs F_check_number = some ⟨n_check_number, 3, b_check_number⟩ := rfl
@[simp] theorem call_clash_masks (c : Orc) (v0 v1 : DV) (M : Sto) : callR pk.prg c F_clash_masks [v0, v1] M = c F_clash_masks [v0, v1] M := (rfl)
theorem fs_clash_masks : pk.fs F_clash_masks = some ⟨n_clash_masks, 2, b_clash_masks⟩ := rfl
@[simp] theorem call_clash_pairs (c : Orc) (v0 : DV) (M : Sto) : callR pk.prg c F_clash_pairs [v0] M = c F_clash_pairs [v0] M := (rfl)
theorem fs_clash_pairs : pk.fs F_clash_pairs = some ⟨n_clash_pairs, 1, b_clash_pairs⟩ := rfl
@[simp] theorem call__law_near (c : Orc) (v0 v1 v2 : DV) (M : Sto) : callR pk.prg c F__law_near [v0, v1, v2] M = c F__law_near [v0, v1, v2] M := (rfl)
theorem fs__law_near : pk.fs F__law_near = some ⟨n__law_near, 3, b__law_near⟩ := rfl
@[simp] theorem call__law_clash (c : Orc) (v0 v1 v2 : DV) (M : Sto) : callR pk.prg c F__law_clash [v0, v1, v2] M = c F__law_clash [v0, v1, v2] M := (rfl)
theorem fs__law_clash : pk.fs F__law_clash = some ⟨n__law_clash, 3, b__law_clash⟩ := rfl
@[simp] theorem call__law_int (c : Orc) (v0 : DV) (M : Sto) : callR pk.prg c F__law_int [v0] M = c F__law_int [v0] M := (rfl)
theorem fs__law_int : pk.fs F__law_int = some ⟨n__law_int, 1, b__law_int⟩ := rfl
@[simp] theorem call_Taking_take_all (c : Orc) (v0 : DV) (M : Sto) : callR pk.prg c F_Taking_take_all [v0] M = c F_Taking_take_all [v0] M := (rfl)
theorem fs_Taking_take_all : pk.fs F_Taking_take_all = some ⟨n_Taking_take_all, 1, b_Taking_take_all⟩ := rfl
@[simp] theorem call_Taking___init__ (c : Orc) (v0 v1 : DV) (M : Sto) : callR pk.prg c F_Taking___init__ [v0, v1] M = c F_Taking___init__ [v0, v1] M := (rfl)
theorem fs_Taking___init__ : pk.fs F_Taking___init__ = some ⟨n_Taking___init__, 2, b_Taking___init__⟩ := rfl
@[simp] theorem call__law_step (c : Orc) (v0 v1 v2 v3 v4 v5 v6 : DV) (M : Sto) : callR pk.prg c F__law_step [v0, v1, v2, v3, v4, v5, v6] M = c F__law_step [v0, v1, v2, v3, v4, v5, v6] M := (rfl)
theorem fs__law_step : pk.fs F__law_step = some ⟨n__law_step, 7, b__law_step⟩ := rfl
@[simp] theorem call__law_state (c : Orc) (v0 v1 v2 : DV) (M : Sto) : callR pk.prg c F__law_state [v0, v1, v2] M = c F__law_state [v0, v1, v2] M := (rfl)
theorem fs__law_state : pk.fs F__law_state = some ⟨n__law_state, 3, b__law_state⟩ := rfl
@[simp] theorem call__law_no_end (c : Orc) (v0 v1 v2 : DV) (M : Sto) : callR pk.prg c F__law_no_end [v0, v1, v2] M = c F__law_no_end [v0, v1, v2] M := (rfl)
theorem fs__law_no_end : pk.fs F__law_no_end = some ⟨n__law_no_end, 3, b__law_no_end⟩ := rfl
@[simp] theorem call__law_inside (c : Orc) (v0 v1 : DV) (M : Sto) : callR pk.prg c F__law_inside [v0, v1] M = c F__law_inside [v0, v1] M := (rfl)
theorem fs__law_inside : pk.fs F__law_inside = some ⟨n__law_inside, 2, b__law_inside⟩ := rfl
@[simp] theorem call__law_told (c : Orc) (v0 v1 v2 v3 : DV) (M : Sto) : callR pk.prg c F__law_told [v0, v1, v2, v3] M = c F__law_told [v0, v1, v2, v3] M := (rfl)
theorem fs__law_told : pk.fs F__law_told = some ⟨n__law_told, 4, b__law_told⟩ := rfl
@[simp] theorem call_Web___eq__ (c : Orc) (v0 v1 : DV) (M : Sto) : callR pk.prg c F_Web___eq__ [v0, v1] M = c F_Web___eq__ [v0, v1] M := (rfl)
theorem fs_Web___eq__ : pk.fs F_Web___eq__ = some ⟨n_Web___eq__, 2, b_Web___eq__⟩ := rfl
@[simp] theorem call__law_line (c : Orc) (v0 : DV) (M : Sto) : callR pk.prg c F__law_line [v0] M = c F__law_line [v0] M := (rfl)
theorem fs__law_line : pk.fs F__law_line = some ⟨n__law_line, 1, b__law_line⟩ := rfl
@[simp] theorem call__law_ring_row (c : Orc) (v0 : DV) (M : Sto) : callR pk.prg c F__law_ring_row [v0] M = c F__law_ring_row [v0] M := (rfl)
theorem fs__law_ring_row : pk.fs F__law_ring_row = some ⟨n__law_ring_row, 1, b__law_ring_row⟩ := rfl
@[simp] theorem call__law_ring (c : Orc) (v0 : DV) (M : Sto) : callR pk.prg c F__law_ring [v0] M = c F__law_ring [v0] M := (rfl)
theorem fs__law_ring : pk.fs F__law_ring = some ⟨n__law_ring, 1, b__law_ring⟩ := rfl
@[simp] theorem call__law_contrary (c : Orc) (v0 v1 : DV) (M : Sto) : callR pk.prg c F__law_contrary [v0, v1] M = c F__law_contrary [v0, v1] M := (rfl)
theorem fs__law_contrary : pk.fs F__law_contrary = some ⟨n__law_contrary, 2, b__law_contrary⟩ := rfl
@[simp] theorem call__law_stretches (c : Orc) (v0 v1 : DV) (M : Sto) : callR pk.prg c F__law_stretches [v0, v1] M = c F__law_stretches [v0, v1] M := (rfl)
theorem fs__law_stretches : pk.fs F__law_stretches = some ⟨n__law_stretches, 2, b__law_stretches⟩ := rfl
@[simp] theorem call__law_falling (c : Orc) (v0 v1 : DV) (M : Sto) : callR pk.prg c F__law_falling [v0, v1] M = c F__law_falling [v0, v1] M := (rfl)
theorem fs__law_falling : pk.fs F__law_falling = some ⟨n__law_falling, 2, b__law_falling⟩ := rfl
@[simp] theorem call__law_free (c : Orc) (v0 v1 v2 : DV) (M : Sto) : callR pk.prg c F__law_free [v0, v1, v2] M = c F__law_free [v0, v1, v2] M := (rfl)
theorem fs__law_free : pk.fs F__law_free = some ⟨n__law_free, 3, b__law_free⟩ := rfl
@[simp] theorem call__law_small (c : Orc) (v0 : DV) (M : Sto) : callR pk.prg c F__law_small [v0] M = c F__law_small [v0] M := (rfl)
theorem fs__law_small : pk.fs F__law_small = some ⟨n__law_small, 1, b__law_small⟩ := rfl
@[simp] theorem call__law_sides (c : Orc) (v0 v1 v2 : DV) (M : Sto) : callR pk.prg c F__law_sides [v0, v1, v2] M = c F__law_sides [v0, v1, v2] M := (rfl)
theorem fs__law_sides : pk.fs F__law_sides = some ⟨n__law_sides, 3, b__law_sides⟩ := rfl
@[simp] theorem call__law_twins (c : Orc) (v0 v1 v2 : DV) (M : Sto) : callR pk.prg c F__law_twins [v0, v1, v2] M = c F__law_twins [v0, v1, v2] M := (rfl)
theorem fs__law_twins : pk.fs F__law_twins = some ⟨n__law_twins, 3, b__law_twins⟩ := rfl
@[simp] theorem call_is_int (c : Orc) (v0 : DV) (M : Sto) : callR pk.prg c F_is_int [v0] M = c F_is_int [v0] M := (rfl)
theorem fs_is_int : pk.fs F_is_int = some ⟨n_is_int, 1, b_is_int⟩ := rfl
@[simp] theorem call_is_pair (c : Orc) (v0 : DV) (M : Sto) : callR pk.prg c F_is_pair [v0] M = c F_is_pair [v0] M := (rfl)
theorem fs_is_pair : pk.fs F_is_pair = some ⟨n_is_pair, 1, b_is_pair⟩ := rfl
@[simp] theorem call_is_thing (c : Orc) (v0 v1 : DV) (M : Sto) : callR pk.prg c F_is_thing [v0, v1] M = c F_is_thing [v0, v1] M := (rfl)
theorem fs_is_thing : pk.fs F_is_thing = some ⟨n_is_thing, 2, b_is_thing⟩ := rfl
@[simp] theorem call_members (c : Orc) (v0 : DV) (M : Sto) : callR pk.prg c F_members [v0] M = c F_members [v0] M := (rfl)
theorem fs_members : pk.fs F_members = some ⟨n_members, 1, b_members⟩ := rfl
@[simp] theorem call_mask_of (c : Orc) (v0 : DV) (M : Sto) : callR pk.prg c F_mask_of [v0] M = c F_mask_of [v0] M := (rfl)
theorem fs_mask_of : pk.fs F_mask_of = some ⟨n_mask_of, 1, b_mask_of⟩ := rfl
@[simp] theorem call_Taking_things_left (c : Orc) (v0 : DV) (M : Sto) : callR pk.prg c F_Taking_things_left [v0] M = c F_Taking_things_left [v0] M := (rfl)
theorem fs_Taking_things_left : pk.fs F_Taking_things_left = some ⟨n_Taking_things_left, 1, b_Taking_things_left⟩ := rfl
@[simp] theorem call_end_and_middle_masks (c : Orc) (v0 v1 : DV) (M : Sto) : callR pk.prg c F_end_and_middle_masks [v0, v1] M = c F_end_and_middle_masks [v0, v1] M := (rfl)
theorem fs_end_and_middle_masks : pk.fs F_end_and_middle_masks = some ⟨n_end_and_middle_masks, 2, b_end_and_middle_masks⟩ := rfl
@[simp] theorem call_Taking_take_2 (c : Orc) (v0 v1 : DV) (M : Sto) : callR pk.prg c F_Taking_take [v0, v1] M = c F_Taking_take [v0, v1, .p .non] M := (rfl)
@[simp] theorem call_Taking_take (c : Orc) (v0 v1 v2 : DV) (M : Sto) : callR pk.prg c F_Taking_take [v0, v1, v2] M = c F_Taking_take [v0, v1, v2] M := (rfl)
theorem fs_Taking_take : pk.fs F_Taking_take = some ⟨n_Taking_take, 3, b_Taking_take⟩ := rfl
@[simp] theorem call_rows_of_four (c : Orc) (v0 : DV) (M : Sto) : callR pk.prg c F_rows_of_four [v0] M = c F_rows_of_four [v0] M := (rfl)
theorem fs_rows_of_four : pk.fs F_rows_of_four = some ⟨n_rows_of_four, 1, b_rows_of_four⟩ := rfl
@[simp] theorem call__law_due (c : Orc) (v0 v1 v2 v3 : DV) (M : Sto) : callR pk.prg c F__law_due [v0, v1, v2, v3] M = c F__law_due [v0, v1, v2, v3] M := (rfl)
theorem fs__law_due : pk.fs F__law_due = some ⟨n__law_due, 4, b__law_due⟩ := rfl
@[simp] theorem call_Taking_takes_row (c : Orc) (v0 : DV) (M : Sto) : callR pk.prg c F_Taking_takes_row [v0] M = c F_Taking_takes_row [v0] M := (rfl)
theorem fs_Taking_takes_row : pk.fs F_Taking_takes_row = some ⟨n_Taking_takes_row, 1, b_Taking_takes_row⟩ := rfl
@[simp] theorem call_whole_mask (c : Orc) (v0 : DV) (M : Sto) : callR pk.prg c F_whole_mask [v0] M = c F_whole_mask [v0] M := (rfl)
theorem fs_whole_mask : pk.fs F_whole_mask = some ⟨n_whole_mask, 1, b_whole_mask⟩ := rfl
@[simp] theorem call_rows_from (c : Orc) (v0 v1 v2 : DV) (M : Sto) : callR pk.prg c F_rows_from [v0, v1, v2] M = c F_rows_from [v0, v1, v2] M := (rfl)
theorem fs_rows_from : pk.fs F_rows_from = some ⟨n_rows_from, 3, b_rows_from⟩ := rfl
@[simp] theorem sf_Web_many (j : Nat) (d : D) (sl : Slots) (M : Sto) (fs : List (Str × D)) (h : fs.length < 1000) : sfC pk.prg j ("many" : Str) d sl M (.live (.ins C_Web fs)) = .nx sl (M.set j (.live (.ins C_Web (putD ("many" : Str) d fs)))) := sfC_ok _ _ (by rfl) (by decide) h _ _ _
@[simp] theorem fl_Web_many (fs : List (Str × D)) : fldD pk.prg ("many" : Str) (.ins C_Web fs) = fs.lookup ("many" : Str) := fld_ok (by rfl) (by decide)
@[simp] theorem ne_many_masks : (("many" : Str) = ("masks" : Str)) = False := eq_false (by decide)
@[simp] theorem ne_many_clashes : (("many" : Str) = ("clashes" : Str)) = False := eq_false (by decide)
@[simp] theorem sf_Web_masks (j : Nat) (d : D) (sl : Slots) (M : Sto) (fs : List (Str × D)) (h : fs.length < 1000) : sfC pk.prg j ("masks" : Str) d sl M (.live (.ins C_Web fs)) = .nx sl (M.set j (.live (.ins C_Web (putD ("masks" : Str) d fs)))) := sfC_ok _ _ (by rfl) (by decide) h _ _ _
@[simp] theorem fl_Web_masks (fs : List (Str × D)) : fldD pk.prg ("masks" : Str) (.ins C_Web fs) = fs.lookup ("masks" : Str) := fld_ok (by rfl) (by decide)
@[simp] theorem ne_masks_many : (("masks" : Str) = ("many" : Str)) = False := eq_false (by decide)
@[simp] theorem ne_masks_clashes : (("masks" : Str) = ("clashes" : Str)) = False := eq_false (by decide)
@[simp] theorem sf_Web_clashes (j : Nat) (d : D) (sl : Slots) (M : Sto) (fs : List (Str × D)) (h : fs.length < 1000) : sfC pk.prg j ("clashes" : Str) d sl M (.live (.ins C_Web fs)) = .nx sl (M.set j (.live (.ins C_Web (putD ("clashes" : Str) d fs)))) := sfC_ok _ _ (by rfl) (by decide) h _ _ _
@[simp] theorem fl_Web_clashes (fs : List (Str × D)) : fldD pk.prg ("clashes" : Str) (.ins C_Web fs) = fs.lookup ("clashes" : Str) := fld_ok (by rfl) (by decide)
@[simp] theorem ne_clashes_many : (("clashes" : Str) = ("many" : Str)) = False := eq_false (by decide)
@[simp] theorem ne_clashes_masks : (("clashes" : Str) = ("masks" : Str)) = False := eq_false (by decide)
@[simp] theorem sf_Taking_web (j : Nat) (d : D) (sl : Slots) (M : Sto) (fs : List (Str × D)) (h : fs.length < 1000) : sfC pk.prg j ("web" : Str) d sl M (.live (.ins C_Taking fs)) = .nx sl (M.set j (.live (.ins C_Taking (putD ("web" : Str) d fs)))) := sfC_ok _ _ (by rfl) (by decide) h _ _ _
@[simp] theorem fl_Taking_web (fs : List (Str × D)) : fldD pk.prg ("web" : Str) (.ins C_Taking fs) = fs.lookup ("web" : Str) := fld_ok (by rfl) (by decide)
@[simp] theorem ne_web_front : (("web" : Str) = ("front" : Str)) = False := eq_false (by decide)
@[simp] theorem ne_web_back : (("web" : Str) = ("back" : Str)) = False := eq_false (by decide)
@[simp] theorem ne_web_taken_pairs : (("web" : Str) = ("taken_pairs" : Str)) = False := eq_false (by decide)
@[simp] theorem ne_web_four_rows : (("web" : Str) = ("four_rows" : Str)) = False := eq_false (by decide)
@[simp] theorem sf_Taking_front (j : Nat) (d : D) (sl : Slots) (M : Sto) (fs : List (Str × D)) (h : fs.length < 1000) : sfC pk.prg j ("front" : Str) d sl M (.live (.ins C_Taking fs)) = .nx sl (M.set j (.live (.ins C_Taking (putD ("front" : Str) d fs)))) := sfC_ok _ _ (by rfl) (by decide) h _ _ _
@[simp] theorem fl_Taking_front (fs : List (Str × D)) : fldD pk.prg ("front" : Str) (.ins C_Taking fs) = fs.lookup ("front" : Str) := fld_ok (by rfl) (by decide)
@[simp] theorem ne_front_web : (("front" : Str) = ("web" : Str)) = False := eq_false (by decide)
@[simp] theorem ne_front_back : (("front" : Str) = ("back" : Str)) = False := eq_false (by decide)
@[simp] theorem ne_front_taken_pairs : (("front" : Str) = ("taken_pairs" : Str)) = False := eq_false (by decide)
@[simp] theorem ne_front_four_rows : (("front" : Str) = ("four_rows" : Str)) = False := eq_false (by decide)
@[simp] theorem sf_Taking_back (j : Nat) (d : D) (sl : Slots) (M : Sto) (fs : List (Str × D)) (h : fs.length < 1000) : sfC pk.prg j ("back" : Str) d sl M (.live (.ins C_Taking fs)) = .nx sl (M.set j (.live (.ins C_Taking (putD ("back" : Str) d fs)))) := sfC_ok _ _ (by rfl) (by decide) h _ _ _
@[simp] theorem fl_Taking_back (fs : List (Str × D)) : fldD pk.prg ("back" : Str) (.ins C_Taking fs) = fs.lookup ("back" : Str) := fld_ok (by rfl) (by decide)
@[simp] theorem ne_back_web : (("back" : Str) = ("web" : Str)) = False := eq_false (by decide)
@[simp] theorem ne_back_front : (("back" : Str) = ("front" : Str)) = False := eq_false (by decide)
@[simp] theorem ne_back_taken_pairs : (("back" : Str) = ("taken_pairs" : Str)) = False := eq_false (by decide)
@[simp] theorem ne_back_four_rows : (("back" : Str) = ("four_rows" : Str)) = False := eq_false (by decide)
@[simp] theorem sf_Taking_taken_pairs (j : Nat) (d : D) (sl : Slots) (M : Sto) (fs : List (Str × D)) (h : fs.length < 1000) : sfC pk.prg j ("taken_pairs" : Str) d sl M (.live (.ins C_Taking fs)) = .nx sl (M.set j (.live (.ins C_Taking (putD ("taken_pairs" : Str) d fs)))) := sfC_ok _ _ (by rfl) (by decide) h _ _ _
@[simp] theorem fl_Taking_taken_pairs (fs : List (Str × D)) : fldD pk.prg ("taken_pairs" : Str) (.ins C_Taking fs) = fs.lookup ("taken_pairs" : Str) := fld_ok (by rfl) (by decide)
@[simp] theorem ne_taken_pairs_web : (("taken_pairs" : Str) = ("web" : Str)) = False := eq_false (by decide)
@[simp] theorem ne_taken_pairs_front : (("taken_pairs" : Str) = ("front" : Str)) = False := eq_false (by decide)
@[simp] theorem ne_taken_pairs_back : (("taken_pairs" : Str) = ("back" : Str)) = False := eq_false (by decide)
@[simp] theorem ne_taken_pairs_four_rows : (("taken_pairs" : Str) = ("four_rows" : Str)) = False := eq_false (by decide)
@[simp] theorem sf_Taking_four_rows (j : Nat) (d : D) (sl : Slots) (M : Sto) (fs : List (Str × D)) (h : fs.length < 1000) : sfC pk.prg j ("four_rows" : Str) d sl M (.live (.ins C_Taking fs)) = .nx sl (M.set j (.live (.ins C_Taking (putD ("four_rows" : Str) d fs)))) := sfC_ok _ _ (by rfl) (by decide) h _ _ _
@[simp] theorem fl_Taking_four_rows (fs : List (Str × D)) : fldD pk.prg ("four_rows" : Str) (.ins C_Taking fs) = fs.lookup ("four_rows" : Str) := fld_ok (by rfl) (by decide)
@[simp] theorem ne_four_rows_web : (("four_rows" : Str) = ("web" : Str)) = False := eq_false (by decide)
@[simp] theorem ne_four_rows_front : (("four_rows" : Str) = ("front" : Str)) = False := eq_false (by decide)
@[simp] theorem ne_four_rows_back : (("four_rows" : Str) = ("back" : Str)) = False := eq_false (by decide)
@[simp] theorem ne_four_rows_taken_pairs : (("four_rows" : Str) = ("taken_pairs" : Str)) = False := eq_false (by decide)
end K

namespace K
open PySem DI Ev
abbrev rn (n : Nat) : Orc := run pk.prg pk.fs n
@[simp] theorem run_is_int (n a : Nat) (M : Sto) : run pk.prg pk.fs (n + 1) F_is_int [.p (dn a)] M = .ok (.p false (.bl true)) M := by
  rw [run_eq fs_is_int M rfl]
  simp [b_is_int, n_is_int]
@[simp] theorem run_is_int_b (n : Nat) (b : Bool) (M : Sto) : run pk.prg pk.fs (n + 1) F_is_int [.p (.bl b)] M = .ok (.p false (.bl false)) M := by
  rw [run_eq fs_is_int M rfl]
  simp [b_is_int, n_is_int]
@[simp] theorem run_is_thing (n m a : Nat) (M : Sto) : run pk.prg pk.fs (n + 2) F_is_thing [.p (dn m), .p (dn a)] M = .ok (.p false (.bl (decide (a < m)))) M := by
  rw [run_eq fs_is_thing M rfl]
  simp [b_is_thing, n_is_thing]
@[simp] theorem run_is_thing_b (n m : Nat) (b : Bool) (M : Sto) : run pk.prg pk.fs (n + 2) F_is_thing [.p (dn m), .p (.bl b)] M = .ok (.p false (.bl false)) M := by
  rw [run_eq fs_is_thing M rfl]
  simp [b_is_thing, n_is_thing]
@[simp] theorem run_is_pair (n : Nat) (q : Nat × Nat) (M : Sto) : run pk.prg pk.fs (n + 1) F_is_pair [.p (dp q)] M = .ok (.p false (.bl true)) M := by
  rw [run_eq fs_is_pair M rfl]
  simp [b_is_pair, n_is_pair]
@[simp] theorem run_check_number (n a l : Nat) (s : D) (M : Sto) (h : l ≤ a) : run pk.prg pk.fs (n + 2) F_check_number [.p (dn a), .p s, .p (dn l)] M = .ok (.p false (dn a)) M := by
  rw [run_eq fs_check_number M rfl]
  simp [b_check_number, n_check_number]
  have : ¬ a < l := by omega
  simp [this]
@[simp] theorem run_whole_mask (n m : Nat) (M : Sto) (h : m ≤ 1000) : run pk.prg pk.fs (n + 1) F_whole_mask [.p (dn m)] M = .ok (.p true (dn (maskOf m fun _ => true))) M := by
  rw [run_eq fs_whole_mask M rfl]
  have := Nat.two_pow_pos m
  simp (disch := omega) [b_whole_mask, n_whole_mask, maskOf_all]

theorem bits_le {m n : Nat} (h : m < 2 ^ n) : Builtin.Int.intBits (m : Int) ≤ n := by
  unfold Builtin.Int.intBits
  by_cases z : m = 0
  · subst z; simp
  · rw [if_neg (by simpa using z)]
    have : m.log2 < n := (Nat.log2_lt z).mpr h
    exact this
theorem bits_test {m i : Nat} (h : Builtin.Int.intBits (m : Int) ≤ i) : m.testBit i = false := by
  unfold Builtin.Int.intBits at h
  by_cases z : m = 0
  · subst z; simp
  · rw [if_neg (by simpa using z)] at h
    have h2 : m.log2 < i := h
    exact Nat.testBit_lt_two_pow ((Nat.log2_lt z).mp h2)
@[simp] theorem run_members (n k : Nat) (p : Nat → Bool) (M : Sto) (h : k ≤ 1000) : run pk.prg pk.fs (n + 1) F_members [.p (dn (maskOf k p))] M = .ok (.p true (.lst (((List.range k).filter p).map dn))) M := by
  rw [run_eq fs_members M rfl]
  have hb := bits_le (maskOf_lt k p)
  simp (disch := omega) [b_members, n_members]
  rw [lc_map (fun i => if (maskOf k p).testBit i then some (dn i) else none) (fun i _ => by cases q : (maskOf k p).testBit i <;> simp [q])]
  rw [filterMap_if, range_filter_le hb (fun i h1 _ => bits_test h1)]
  have e : (List.range k).filter (fun i => (maskOf k p).testBit i) = (List.range k).filter p := by
      refine List.filter_congr fun i hi => ?_
      rw [testBit_maskOf]; simp [List.mem_range.mp hi]
  have hl := List.length_filter_le p (List.range k)
  rw [List.length_range] at hl
  rw [rb_ok, e, lstOf_ok (by simp; omega)]
  simp
@[simp high] theorem op_andneg_mask (n : Nat) (p q : Nat → Bool) : opD .BitAnd (dn (maskOf n p)) (dneg (maskOf n q)) = some (dn (maskOf n fun i => p i && !q i)) := by rw [op_andneg, maskOf_sub]
@[simp high] theorem op_and_mask (n : Nat) (p q : Nat → Bool) : opD .BitAnd (dn (maskOf n p)) (dn (maskOf n q)) = some (dn (maskOf n fun i => p i && q i)) := by rw [op_and, maskOf_and]
@[simp high] theorem op_or_mask (n : Nat) (p q : Nat → Bool) : opD .BitOr (dn (maskOf n p)) (dn (maskOf n q)) = some (dn (maskOf n fun i => p i || q i)) := by rw [op_or, maskOf_or]
@[simp high] theorem op_or_bit (n y : Nat) (p : Nat → Bool) (h : y < n) : opD .BitOr (dn (maskOf n p)) (dn (2 ^ y)) = some (dn (maskOf n fun i => p i || decide (i = y))) := by rw [op_or, maskOf_bit h]
/-! ### sequences -/
def IsSeq (s : D) (xs : List D) : Prop := s = .lst xs ∨ s = .tup xs
theorem seqR_is {s : D} {xs : List D} (h : IsSeq s xs) (fr : Bool) (M : Sto) : seqR (.p fr s) M = .ok xs M := by
  rcases h with rfl | rfl <;> rfl
theorem enumR_is {s : D} {xs : List D} (h : IsSeq s xs) (fr : Bool) (M : Sto) : enumR (.p fr s) M = .ok (xs.zipIdx.map fun q => .tup [.int (q.2 : Nat), q.1]) M := by
  rcases h with rfl | rfl <;> rfl
theorem bi_len_is {s : D} {xs : List D} (h : IsSeq s xs) : biD ("len" : Str) [s] = some (.p false (dn xs.length)) := by
  rcases h with rfl | rfl
  · exact bi_len_lst _
  · exact bi_len_tup _
theorem bi_tuple_is {s : D} {xs : List D} (h : IsSeq s xs) : biD ("tuple" : Str) [s] = some (.p false (.tup xs)) := by
  rcases h with rfl | rfl
  · exact bi_tuple_lst _
  · exact bi_tuple_tup _
/-! ### webs as data -/
def mkM (n : Nat) (a : Nat → Nat → Bool) : List Nat := (List.range n).map fun x => maskOf n (a x)
@[simp] theorem mkM_len (n : Nat) (a : Nat → Nat → Bool) : (mkM n a).length = n := by simp [mkM]
theorem mkM_get {n x : Nat} (a : Nat → Nat → Bool) (h : x < n) : (mkM n a)[x]? = some (maskOf n (a x)) := by simp [mkM, h]
theorem mkM_congr {n : Nat} {a b : Nat → Nat → Bool} (h : ∀ x, x < n → ∀ y, y < n → a x y = b x y) : mkM n a = mkM n b := by
  unfold mkM
  exact List.map_congr_left fun x hx => maskOf_congr fun y hy => h x (List.mem_range.mp hx) y hy
theorem mkM_set {n x : Nat} (a : Nat → Nat → Bool) (p : Nat → Bool) : (mkM n a).set x (maskOf n p) = mkM n fun z => if z = x then p else a z := by
  refine List.ext_getElem? fun i => ?_
  by_cases h : i < n
  · rw [mkM_get _ h, List.getElem?_set, mkM_len]
    by_cases e : x = i
    · subst e; simp [h]
    · rw [if_neg e, mkM_get _ h, if_neg (fun k => e k.symm)]
  · rw [List.getElem?_eq_none (by simp [mkM_len]; omega), List.getElem?_eq_none (by simp [mkM_len]; omega)]
@[simp] theorem mkM_setD {n x : Nat} (a : Nat → Nat → Bool) (p : Nat → Bool) : ((mkM n a).map dn).set x (dn (maskOf n p)) = (mkM n fun z => if z = x then p else a z).map dn := by
  rw [← List.map_set, mkM_set]
@[simp] theorem mkM_getE {n x : Nat} (a : Nat → Nat → Bool) (h : x < (mkM n a).length) : (mkM n a)[x] = maskOf n (a x) := by simp [mkM]
def fnM (n : Nat) (f : Nat → Nat) : List Nat := (List.range n).map f
@[simp] theorem fnM_len (n : Nat) (f : Nat → Nat) : (fnM n f).length = n := by simp [fnM]
theorem fnM_get {n x : Nat} (f : Nat → Nat) (h : x < n) : (fnM n f)[x]? = some (f x) := by simp [fnM, h]
@[simp] theorem fnM_getE {n x : Nat} (f : Nat → Nat) (h : x < (fnM n f).length) : (fnM n f)[x] = f x := by simp [fnM]
theorem fnM_congr {n : Nat} {f g : Nat → Nat} (h : ∀ x, x < n → f x = g x) : fnM n f = fnM n g := List.map_congr_left fun x hx => h x (List.mem_range.mp hx)
theorem fnM_set {n x v : Nat} (f : Nat → Nat) : (fnM n f).set x v = fnM n fun z => if z = x then v else f z := by
  refine List.ext_getElem? fun i => ?_
  by_cases h : i < n
  · rw [fnM_get _ h, List.getElem?_set, fnM_len]
    by_cases e : x = i
    · subst e; simp [h]
    · rw [if_neg e, fnM_get _ h, if_neg (fun k => e k.symm)]
  · rw [List.getElem?_eq_none (by simp; omega), List.getElem?_eq_none (by simp; omega)]
@[simp] theorem fnM_setD {n x v : Nat} (f : Nat → Nat) : ((fnM n f).map dn).set x (dn v) = (fnM n fun z => if z = x then v else f z).map dn := by
  rw [← List.map_set, fnM_set]
@[simp high] theorem idx_fn_lst {n x : Nat} (f : Nat → Nat) (h : x < n) : idxD (.lst ((fnM n f).map dn)) (dn x) = some (dn (f x)) := idx_lst (by simp [fnM_get f h])
@[simp high] theorem idx_fn_tup {n x : Nat} (f : Nat → Nat) (h : x < n) : idxD (.tup ((fnM n f).map dn)) (dn x) = some (dn (f x)) := idx_tup (by simp [fnM_get f h])
@[simp high] theorem idx_mk_lst {n x : Nat} (a : Nat → Nat → Bool) (h : x < n) : idxD (.lst ((mkM n a).map dn)) (dn x) = some (dn (maskOf n (a x))) := idx_lst (by simp [mkM_get a h])
@[simp high] theorem idx_mk_tup {n x : Nat} (a : Nat → Nat → Bool) (h : x < n) : idxD (.tup ((mkM n a).map dn)) (dn x) = some (dn (maskOf n (a x))) := idx_tup (by simp [mkM_get a h])
/-- the clashes of a list of pairs -/
def adjP (ps : List (Nat × Nat)) (x y : Nat) : Bool := decide ((x, y) ∈ ps) || decide ((y, x) ∈ ps)
def okP (n : Nat) (ps : List (Nat × Nat)) : Prop := ∀ q ∈ ps, q.1 < n ∧ q.2 < n ∧ q.1 ≠ q.2
theorem run_clash_masks (k n : Nat) (ps : List (Nat × Nat)) (s : D) (M : Sto) (hn : n ≤ 1000) (hs : IsSeq s (ps.map dp)) (hp : okP n ps) :
    run pk.prg pk.fs (k + 3) F_clash_masks [.p (dn n), .p s] M = .ok (.p false (.tup ((mkM n (adjP ps)).map dn))) M := by
  rw [run_eq fs_clash_masks M rfl]
  have z : (List.range n).filterMap (fun i => some (dn 0)) = (mkM n (adjP [])).map dn := by
    unfold mkM
    rw [show (fun i : Nat => some (dn 0)) = some ∘ (fun _ => dn 0) from rfl, List.filterMap_eq_map, List.map_map]
    refine List.map_congr_left fun x _ => ?_
    show dn 0 = dn (maskOf n (adjP [] x))
    rw [show adjP [] x = fun _ => false from by funext y; simp [adjP], maskOf_none]
  simp (disch := omega) [b_clash_masks, n_clash_masks]
  rw [lc_map (fun i => some (dn 0)) (fun i _ => by simp)]
  rw [rb_ok, z, lstOf_ok (by simp [mkM_len]; omega)]
  simp [seqR_is hs]
  refine for_end (fun pre sl M' => ∃ v3 v5 v6, sl = [some (.p (dn n)), some (.p s), some (.own M.length), v3, none, v5, v6] ∧ M' = M ++ [.live (.lst ((mkM n (adjP pre)).map dn))]) ⟨_, _, _, rfl, rfl⟩ ?_ ?_
  · rintro pre ⟨x, y⟩ post hx sl M' ⟨v3, v5, v6, rfl, rfl⟩
    obtain ⟨h1, h2, h3⟩ := hp (x, y) (by simp [hx])
    simp only at h1 h2 h3
    simp (disch := (first | omega | (simp only [List.length_map, mkM_len, fnM_len, List.length_range, List.length_range', List.length_take, List.length_drop, List.length_append, List.length_cons, List.length_nil]; omega))) [h1, h2, h3, b_clash_masks_1]
    congr 1
    refine mkM_congr fun u hu v hv => ?_
    simp only [adjP, List.mem_append, List.mem_singleton, Prod.mk.injEq]
    by_cases e1 : u = y <;> by_cases e2 : u = x <;> by_cases e3 : v = x <;> by_cases e4 : v = y <;> simp_all [adjP]
  · rintro sl' M' ⟨v3, v5, v6, rfl, rfl⟩
    simp

theorem flatMap_len {α β : Type} {f : α → List β} {m : Nat} : ∀ {xs : List α}, (∀ x ∈ xs, (f x).length ≤ m) → (xs.flatMap f).length ≤ xs.length * m
  | [], _ => by simp
  | x :: xs, h => by
    have h1 := h x (by simp)
    have h2 := flatMap_len (xs := xs) fun y hy => h y (by simp [hy])
    simp only [List.flatMap_cons, List.length_append, List.length_cons, Nat.add_mul, Nat.one_mul]
    omega
/-- the clashes, ascending -/
def prs (n : Nat) (a : Nat → Nat → Bool) : List (Nat × Nat) := (List.range n).flatMap fun x => ((List.range n).filter fun y => a x y && decide (x < y)).map fun y => (x, y)
theorem prs_len (n : Nat) (a : Nat → Nat → Bool) : (prs n a).length ≤ n * n := by
  have := flatMap_len (m := n) (f := fun x => ((List.range n).filter fun y => a x y && decide (x < y)).map fun y => (x, y)) (xs := List.range n) fun x _ => by
    have := List.length_filter_le (fun y => a x y && decide (x < y)) (List.range n)
    simpa using this
  simpa [prs] using this
theorem mem_prs {n : Nat} {a : Nat → Nat → Bool} {x y : Nat} : (x, y) ∈ prs n a ↔ x < n ∧ y < n ∧ a x y = true ∧ x < y := by
  unfold prs
  simp only [List.mem_flatMap, List.mem_range, List.mem_map, List.mem_filter, Bool.and_eq_true, decide_eq_true_eq, Prod.mk.injEq]
  constructor
  · rintro ⟨x', h1, y', ⟨h2, h3, h4⟩, rfl, rfl⟩; exact ⟨h1, h2, h3, h4⟩
  · rintro ⟨h1, h2, h3, h4⟩; exact ⟨x, h1, y, ⟨h2, h3, h4⟩, rfl, rfl⟩
theorem prs_congr {n : Nat} {a b : Nat → Nat → Bool} (h : ∀ x, x < n → ∀ y, y < n → a x y = b x y) : prs n a = prs n b := by
  have e : ∀ x ∈ List.range n, (((List.range n).filter fun y => a x y && decide (x < y)).map fun y => (x, y)) = (((List.range n).filter fun y => b x y && decide (x < y)).map fun y => (x, y)) := by
    intro x hx
    congr 1
    refine List.filter_congr fun y hy => ?_
    rw [h x (List.mem_range.mp hx) y (List.mem_range.mp hy)]
  unfold prs
  rw [List.flatMap_def, List.flatMap_def, List.map_congr_left e]
theorem ok_prs (n : Nat) (a : Nat → Nat → Bool) : okP n (prs n a) := by
  rintro ⟨x, y⟩ h
  obtain ⟨h1, h2, h3, h4⟩ := mem_prs.mp h
  exact ⟨h1, h2, by simp; omega⟩
/-- a web's clashes are the same both ways, and no thing clashes with itself -/
def Sym (n : Nat) (a : Nat → Nat → Bool) : Prop := (∀ x, x < n → ∀ y, y < n → a x y = a y x) ∧ ∀ x, x < n → a x x = false
theorem sym_adjP {n : Nat} {ps : List (Nat × Nat)} (h : okP n ps) : Sym n (adjP ps) := by
  refine ⟨fun x _ y _ => by unfold adjP; rw [Bool.or_comm], fun x _ => ?_⟩
  unfold adjP
  have : (x, x) ∉ ps := fun k => (h _ k).2.2 rfl
  simp [this]
theorem adjP_prs {n : Nat} {a : Nat → Nat → Bool} (h : Sym n a) : ∀ x, x < n → ∀ y, y < n → adjP (prs n a) x y = a x y := by
  intro x hx y hy
  unfold adjP
  rw [Bool.eq_iff_iff]
  simp only [Bool.or_eq_true, decide_eq_true_eq, mem_prs]
  constructor
  · rintro (⟨_, _, h3, _⟩ | ⟨_, _, h3, _⟩)
    · exact h3
    · rw [h.1 x hx y hy]; exact h3
  · intro k
    rcases Nat.lt_trichotomy x y with q | q | q
    · exact Or.inl ⟨hx, hy, k, q⟩
    · subst q; rw [h.2 x hx] at k; cases k
    · exact Or.inr ⟨hy, hx, by rw [← h.1 x hx y hy]; exact k, q⟩
theorem run_clash_pairs (k n : Nat) (a : Nat → Nat → Bool) (M : Sto) (hn : n ≤ 1000) :
    run pk.prg pk.fs (k + 2) F_clash_pairs [.p (.tup ((mkM n a).map dn))] M = .ok (.p false (.tup ((prs n a).map dp))) M := by
  rw [run_eq fs_clash_pairs M rfl]
  simp (disch := (first | omega | (simp only [List.length_map, mkM_len, fnM_len, List.length_range, List.length_range', List.length_take, List.length_drop, List.length_append, List.length_cons, List.length_nil]; omega))) [b_clash_pairs, n_clash_pairs]
  rw [lc2_map (fun x => (((List.range n).filter fun y => a x y && decide (x < y)).map fun y => (x, y)).map dp) ?h]
  case h =>
    intro x hx
    have hx := List.mem_range.mp hx
    simp (disch := (first | omega | (simp only [List.length_map, mkM_len, fnM_len, List.length_range, List.length_range', List.length_take, List.length_drop, List.length_append, List.length_cons, List.length_nil]; omega))) [hx]
    rw [compGo_map (g := fun y => if x < y then some (dp (x, y)) else none) (fun y _ => by by_cases q : x < y <;> simp [q])]
    rw [show (fun y => if x < y then some (dp (x, y)) else none) = (fun y => if decide (x < y) = true then some (dp (x, y)) else none) by funext y; simp, filterMap_if, List.filter_filter]
    congr 2
    refine List.filter_congr fun y _ => ?_
    rw [Bool.and_comm]
  have hl := prs_len n a
  have e : (List.range n).flatMap (fun x => (((List.range n).filter fun y => a x y && decide (x < y)).map fun y => (x, y)).map dp) = (prs n a).map dp := by
    unfold prs; rw [List.map_flatMap]
  have : n * n ≤ 1000 * 1000 := Nat.mul_le_mul hn hn
  rw [e, rb_ok, lstOf_ok (by simp; omega)]
  simp
/-- a web as data -/
def webD (n : Nat) (a : Nat → Nat → Bool) : D := .ins C_Web [(("many" : Str), dn n), (("masks" : Str), .tup ((mkM n a).map dn)), (("clashes" : Str), .tup ((prs n a).map dp))]
@[simp] theorem web_many (n : Nat) (a : Nat → Nat → Bool) : fldD pk.prg ("many" : Str) (webD n a) = some (dn n) := by rfl
@[simp] theorem web_masks (n : Nat) (a : Nat → Nat → Bool) : fldD pk.prg ("masks" : Str) (webD n a) = some (.tup ((mkM n a).map dn)) := by rfl
@[simp] theorem web_clashes (n : Nat) (a : Nat → Nat → Bool) : fldD pk.prg ("clashes" : Str) (webD n a) = some (.tup ((prs n a).map dp)) := by rfl
theorem webD_congr {n : Nat} {a b : Nat → Nat → Bool} (h : ∀ x, x < n → ∀ y, y < n → a x y = b x y) : webD n a = webD n b := by
  unfold webD; rw [mkM_congr h, prs_congr h]
theorem run_web_init (k n : Nat) (ps : List (Nat × Nat)) (s : D) (M : Sto) (hn : n ≤ 1000) (hs : IsSeq s (ps.map dp)) (hp : okP n ps) :
    run pk.prg pk.fs (k + 4) F_Web___init__ [.own M.length, .p (dn n), .p s] (M ++ [.live (.ins C_Web [])]) = .ok (.p false .non) (M ++ [.live (webD n (adjP ps))]) := by
  rw [run_eq fs_Web___init__ _ rfl]
  simp (disch := (first | omega | (simp only [List.length_map, mkM_len, fnM_len, List.length_range, List.length_range', List.length_take, List.length_drop, List.length_append, List.length_cons, List.length_nil]; omega))) [b_Web___init__, n_Web___init__, run_clash_masks, run_clash_pairs, hs, hp, hn, webD]
theorem make_web (k n : Nat) (ps : List (Nat × Nat)) (s : D) (M : Sto) (f1 f2 : Bool) (hn : n ≤ 1000) (hs : IsSeq s (ps.map dp)) (hp : okP n ps) :
    makeR pk.prg (run pk.prg pk.fs (k + 4)) C_Web [.p f1 (dn n), .p f2 s] M = .ok (.p true (webD n (adjP ps))) M :=
  make_ok (f := false) (i := cl_Web) rfl (run_web_init k n ps s M hn hs hp)

/-! ### rows -/
def Row (n : Nat) (row : List Nat) : Prop := row.Nodup ∧ row.length = n ∧ ∀ x, x ∈ row ↔ x < n
def pos (row : List Nat) (x : Nat) : Nat := row.findIdx (· = x)
theorem pos_at {row pre post : List Nat} {t : Nat} (h : row = pre ++ t :: post) (hn : row.Nodup) : pos row t = pre.length := by
  subst h
  have : t ∉ pre := by
    intro k
    have := List.nodup_append.mp hn
    exact this.2.2 t k t (by simp) rfl
  unfold pos
  rw [List.findIdx_append]
  have e : List.findIdx (fun x => decide (x = t)) pre = pre.length := by
    rw [List.findIdx_eq_length]
    intro x hx
    simp; rintro rfl; exact this hx
  rw [e, if_neg (by omega), List.findIdx_cons]
  simp
theorem pos_pre {row pre post : List Nat} {y : Nat} (h : row = pre ++ post) (hy : y ∈ pre) : pos row y < pre.length := by
  subst h
  unfold pos
  have : List.findIdx (fun x => decide (x = y)) pre < pre.length := List.findIdx_lt_length_of_exists ⟨y, hy, by simp⟩
  rw [List.findIdx_append, if_pos this]
  exact this
theorem mem_pre {row pre post : List Nat} {t y : Nat} (h : row = pre ++ t :: post) (hn : row.Nodup) (hy : y ∈ row) : y ∈ pre ↔ pos row y < pos row t := by
  rw [pos_at h hn]
  constructor
  · intro k; exact pos_pre h k
  · intro k
    rw [h] at hy
    rcases List.mem_append.mp hy with h1 | h1
    · exact h1
    · exfalso
      obtain ⟨p2, q2, e⟩ := List.append_of_mem h1
      have : row = (pre ++ p2) ++ y :: q2 := by rw [h, e]; simp
      rw [pos_at this hn] at k
      simp at k
      omega
theorem pos_lt {n : Nat} {row : List Nat} (h : Row n row) {x : Nat} (hx : x < n) : pos row x < n := by
  have := (h.2.2 x).mpr hx
  rw [← h.2.1]
  exact List.findIdx_lt_length_of_exists ⟨x, this, by simp⟩
theorem pos_inj {n : Nat} {row : List Nat} (h : Row n row) {x y : Nat} (hx : x < n) (hy : y < n) (e : pos row x = pos row y) : x = y := by
  obtain ⟨p1, q1, e1⟩ := List.append_of_mem ((h.2.2 x).mpr hx)
  have h1 := pos_at e1 h.1
  obtain ⟨p2, q2, e2⟩ := List.append_of_mem ((h.2.2 y).mpr hy)
  have h2 := pos_at e2 h.1
  have g1 : row[p1.length]? = some x := by rw [e1]; simp
  have g2 : row[p2.length]? = some y := by rw [e2]; simp
  rw [← h1, e, h2, g2] at g1
  exact (Option.some.inj g1).symm
theorem zip_dn (row : List Nat) : (row.map dn).zipIdx.map (fun q => D.tup [.int (q.2 : Nat), q.1]) = row.zipIdx.map fun q => dp (q.2, q.1) := by
  rw [List.zipIdx_map, List.map_map]
  rfl
theorem enumR_dn {s : D} {row : List Nat} (h : IsSeq s (row.map dn)) (fr : Bool) (M : Sto) : enumR (.p fr s) M = .ok (row.zipIdx.map fun q => dp (q.2, q.1)) M := by rw [enumR_is h, zip_dn]
theorem zip_pre {row : List Nat} {pre post : List (Nat × Nat)} {q : Nat × Nat} (h : row.zipIdx = pre ++ q :: post) : row = pre.map (·.1) ++ q.1 :: post.map (·.1) ∧ q.2 = pre.length := by
  constructor
  · have e : row.zipIdx.map (·.1) = row := by
      exact List.zipIdx_map_fst 0 row
    rw [← e, h]; simp
  · have h1 : row.zipIdx[pre.length]? = some q := by rw [h]; simp
    rw [List.getElem?_zipIdx] at h1
    rcases hh : row[pre.length]? with _ | z
    · rw [hh] at h1; simp at h1
    · rw [hh] at h1; simp at h1; rw [← h1]
theorem zeros (n : Nat) : (List.range n).map (fun _ => dn 0) = (fnM n fun _ => 0).map dn := by
  unfold fnM; rw [List.map_map]; rfl
theorem zeros_row {n : Nat} {row : List Nat} (h : row.length = n) : row.map (fun _ => dn 0) = (fnM n fun _ => 0).map dn := by
  rw [← zeros]
  refine List.ext_getElem? fun i => ?_
  rw [List.getElem?_map, List.getElem?_map]
  by_cases k : i < n
  · rw [List.getElem?_eq_getElem (by omega), List.getElem?_eq_getElem (by simpa using k)]; rfl
  · rw [List.getElem?_eq_none (by omega), List.getElem?_eq_none (by simpa using k)]
theorem filterMap_some {α β : Type} (f : α → β) (xs : List α) : xs.filterMap (fun x => some (f x)) = xs.map f := by
  rw [← List.filterMap_eq_map]; rfl
theorem pre_len {n : Nat} {p : Nat → Bool} {pre post : List Nat} {x : Nat} (h : (List.range n).filter p = pre ++ x :: post) : pre.length ≤ n ∧ x < n ∧ p x = true := by
  have h1 := List.length_filter_le p (List.range n)
  rw [h] at h1
  have h2 : x ∈ (List.range n).filter p := by rw [h]; simp
  simp only [List.mem_filter, List.mem_range] at h2
  simp at h1
  exact ⟨by omega, h2.1, h2.2⟩
theorem mul_le {a b c d : Nat} (h1 : a ≤ c) (h2 : b ≤ d) : a * b ≤ c * d := Nat.mul_le_mul h1 h2
/-- the rows of four from x -/
def rfC (n : Nat) (a : Nat → Nat → Bool) (kp : Nat → Bool) (x b c : Nat) : List (Nat × Nat × Nat × Nat) := if c = x then [] else (((List.range n).filter fun d => a c d && !a b d && !a x d && kp d).filter fun d => !decide (d = b)).map fun d => (x, b, c, d)
def rfB (n : Nat) (a : Nat → Nat → Bool) (kp : Nat → Bool) (x b : Nat) : List (Nat × Nat × Nat × Nat) := ((List.range n).filter fun c => a b c && !a x c && kp c).flatMap (rfC n a kp x b)
def rf (n : Nat) (a : Nat → Nat → Bool) (kp : Nat → Bool) (x : Nat) : List (Nat × Nat × Nat × Nat) := ((List.range n).filter fun b => a x b && kp b).flatMap (rfB n a kp x)
theorem rfC_len (n : Nat) (a : Nat → Nat → Bool) (kp : Nat → Bool) (x b c : Nat) : (rfC n a kp x b c).length ≤ n := by
  unfold rfC
  split
  · simp
  · rw [List.length_map]
    have h1 := List.length_filter_le (fun d => !decide (d = b)) ((List.range n).filter fun d => a c d && !a b d && !a x d && kp d)
    have h2 := List.length_filter_le (fun d => a c d && !a b d && !a x d && kp d) (List.range n)
    simp at h2; omega
theorem rfB_len (n : Nat) (a : Nat → Nat → Bool) (kp : Nat → Bool) (x b : Nat) : (rfB n a kp x b).length ≤ n * n := by
  refine Nat.le_trans (flatMap_len (m := n) fun c _ => rfC_len n a kp x b c) (Nat.mul_le_mul_right _ ?_)
  have := List.length_filter_le (fun c => a b c && !a x c && kp c) (List.range n)
  simpa using this
theorem rf_len (n : Nat) (a : Nat → Nat → Bool) (kp : Nat → Bool) (x : Nat) : (rf n a kp x).length ≤ n * (n * n) := by
  refine Nat.le_trans (flatMap_len (m := n * n) fun c _ => rfB_len n a kp x c) (Nat.mul_le_mul_right _ ?_)
  have := List.length_filter_le (fun b => a x b && kp b) (List.range n)
  simpa using this
theorem run_rows_from (k n : Nat) (a : Nat → Nat → Bool) (kp : Nat → Bool) (x : Nat) (M : Sto) (hn : n ≤ 100) (hx : x < n) :
    run pk.prg pk.fs (k + 2) F_rows_from [.p (.tup ((mkM n a).map dn)), .p (dn x), .p (dn (maskOf n kp))] M = .ok (.p true (.lst ((rf n a kp x).map dq))) M := by
  have hnn : n * n ≤ 10000 := mul_le (c := 100) (d := 100) hn hn
  have hn1 : n ≤ 1000 := by omega
  rw [run_eq fs_rows_from M rfl]
  simp (disch := (first | omega | (simp only [List.length_map, mkM_len, fnM_len, List.length_range, List.length_range', List.length_take, List.length_drop, List.length_append, List.length_cons, List.length_nil]; omega))) [b_rows_from, n_rows_from, hx]
  refine for_end (fun pre sl M' => ∃ v4 v5 v6, sl = [some (.p (.tup ((mkM n a).map dn))), some (.p (dn x)), some (.p (dn (maskOf n kp))), some (.own M.length), v4, v5, v6] ∧ M' = M ++ [.live (.lst ((pre.flatMap (rfB n a kp x)).map dq))]) ⟨none, none, none, rfl, by simp⟩ ?_ ?_
  · rintro preb b postb hb sl M' ⟨v4, v5, v6, rfl, rfl⟩
    obtain ⟨lb, hb1, _⟩ := pre_len hb
    have hA : (preb.flatMap (rfB n a kp x)).length ≤ 100 * 10000 := Nat.le_trans (flatMap_len fun c _ => rfB_len n a kp x c) (mul_le (by omega) hnn)
    simp (disch := (first | omega | (simp only [List.length_map, mkM_len, fnM_len, List.length_range, List.length_range', List.length_take, List.length_drop, List.length_append, List.length_cons, List.length_nil]; omega))) [b_rows_from_3, hx, hb1]
    refine for_goes0 (fun pre sl M' => ∃ v5 v6, sl = [some (.p (.tup ((mkM n a).map dn))), some (.p (dn x)), some (.p (dn (maskOf n kp))), some (.own M.length), some (.p (dn b)), v5, v6] ∧ M' = M ++ [.live (.lst ((preb.flatMap (rfB n a kp x) ++ pre.flatMap (rfC n a kp x b)).map dq))]) ⟨v5, v6, rfl, by simp⟩ ?_ ?_
    · rintro prec c postc hc sl M' ⟨v5, v6, rfl, rfl⟩
      obtain ⟨lc, hc1, _⟩ := pre_len hc
      have hB : (prec.flatMap (rfC n a kp x b)).length ≤ 100 * 100 := Nat.le_trans (flatMap_len fun d _ => rfC_len n a kp x b d) (mul_le (by omega) hn)
      by_cases e : c = x
      · subst e
        simp (disch := (first | omega | (simp only [List.length_map, mkM_len, fnM_len, List.length_range, List.length_range', List.length_take, List.length_drop, List.length_append, List.length_cons, List.length_nil]; omega))) [b_rows_from_2, rfC]
      · simp (disch := (first | omega | (simp only [List.length_map, mkM_len, fnM_len, List.length_range, List.length_range', List.length_take, List.length_drop, List.length_append, List.length_cons, List.length_nil]; omega))) [b_rows_from_2, hx, hb1, hc1, e]
        refine for_goes0 (fun pre sl M' => ∃ v6, sl = [some (.p (.tup ((mkM n a).map dn))), some (.p (dn x)), some (.p (dn (maskOf n kp))), some (.own M.length), some (.p (dn b)), some (.p (dn c)), v6] ∧ M' = M ++ [.live (.lst ((preb.flatMap (rfB n a kp x) ++ prec.flatMap (rfC n a kp x b) ++ (pre.filter fun d => !decide (d = b)).map fun d => (x, b, c, d)).map dq))]) ⟨v6, rfl, by simp⟩ ?_ ?_
        · rintro pred d postd hd sl M' ⟨v6, rfl, rfl⟩
          obtain ⟨ld, hd1, _⟩ := pre_len hd
          have hC := List.length_filter_le (fun d => !decide (d = b)) pred
          by_cases e2 : d = b
          · simp (disch := (first | omega | (simp only [List.length_map, mkM_len, fnM_len, List.length_range, List.length_range', List.length_take, List.length_drop, List.length_append, List.length_cons, List.length_nil]; omega))) [b_rows_from_1, e2, List.filter_cons]
          · simp (disch := (first | omega | (simp only [List.length_map, mkM_len, fnM_len, List.length_range, List.length_range', List.length_take, List.length_drop, List.length_append, List.length_cons, List.length_nil]; omega))) [b_rows_from_1, e2, List.filter_cons]
        · rintro sl' M' ⟨v6, rfl, rfl⟩
          simp [rfC, e]
    · rintro sl' M' ⟨v5, v6, rfl, rfl⟩
      simp [rfB]
  · rintro sl' M' ⟨v4, v5, v6, rfl, rfl⟩
    simp
    rw [end_own (d := .lst ((rf n a kp x).map dq)) (by omega) (by simp [rf])]
    simp

theorem mem_rfC {n : Nat} {a : Nat → Nat → Bool} {kp : Nat → Bool} {x b c : Nat} {r : Nat × Nat × Nat × Nat} : r ∈ rfC n a kp x b c ↔ c ≠ x ∧ r.1 = x ∧ r.2.1 = b ∧ r.2.2.1 = c ∧ r.2.2.2 < n ∧ (a c r.2.2.2 && !a b r.2.2.2 && !a x r.2.2.2 && kp r.2.2.2) = true ∧ r.2.2.2 ≠ b := by
  obtain ⟨r1, r2, r3, r4⟩ := r
  unfold rfC
  by_cases e : c = x
  · simp [e]
  · rw [if_neg e]
    simp only [List.mem_map, List.mem_filter, List.mem_range, Prod.mk.injEq, Bool.not_eq_true', decide_eq_false_iff_not]
    constructor
    · rintro ⟨d, ⟨⟨h1, h2⟩, h3⟩, rfl, rfl, rfl, rfl⟩; exact ⟨e, rfl, rfl, rfl, h1, h2, h3⟩
    · rintro ⟨_, rfl, rfl, rfl, h1, h2, h3⟩; exact ⟨_, ⟨⟨h1, h2⟩, h3⟩, rfl, rfl, rfl, rfl⟩
theorem mem_rf {n : Nat} {a : Nat → Nat → Bool} {kp : Nat → Bool} {x : Nat} {r : Nat × Nat × Nat × Nat} : r ∈ rf n a kp x ↔ r.1 = x ∧ r.2.1 < n ∧ r.2.2.1 < n ∧ r.2.2.2 < n ∧ (a x r.2.1 && kp r.2.1) = true ∧ (a r.2.1 r.2.2.1 && !a x r.2.2.1 && kp r.2.2.1) = true ∧ r.2.2.1 ≠ x ∧ (a r.2.2.1 r.2.2.2 && !a r.2.1 r.2.2.2 && !a x r.2.2.2 && kp r.2.2.2) = true ∧ r.2.2.2 ≠ r.2.1 := by
  unfold rf rfB
  simp only [List.mem_flatMap, List.mem_filter, List.mem_range, mem_rfC]
  constructor
  · rintro ⟨b, ⟨h1, h2⟩, c, ⟨h3, h4⟩, h5, h6, rfl, rfl, h7, h8, h9⟩; exact ⟨h6, h1, h3, h7, h2, h4, h5, h8, h9⟩
  · rintro ⟨h6, h1, h3, h7, h2, h4, h5, h8, h9⟩; exact ⟨_, ⟨h1, h2⟩, _, ⟨h3, h4⟩, h5, h6, rfl, rfl, h7, h8, h9⟩
/-- all rows of four, the lesser end first -/
def r4 (n : Nat) (a : Nat → Nat → Bool) : List (Nat × Nat × Nat × Nat) := (List.range n).flatMap fun x => (rf n a (fun _ => true) x).filter fun r => decide (r.1 < r.2.2.2)
theorem r4_lt {n : Nat} {a : Nat → Nat → Bool} {r : Nat × Nat × Nat × Nat} (h : r ∈ r4 n a) : r.1 < n ∧ r.2.1 < n ∧ r.2.2.1 < n ∧ r.2.2.2 < n := by
  unfold r4 at h
  simp only [List.mem_flatMap, List.mem_filter, List.mem_range, mem_rf] at h
  obtain ⟨x, h1, ⟨h2, h3, h4, h5, _⟩, _⟩ := h
  exact ⟨h2 ▸ h1, h3, h4, h5⟩
theorem r4_len (n : Nat) (a : Nat → Nat → Bool) : (r4 n a).length ≤ n * (n * (n * n)) := by
  refine Nat.le_trans (flatMap_len (m := n * (n * n)) fun x _ => Nat.le_trans (List.length_filter_le _ _) (rf_len n a _ x)) ?_
  simp
theorem run_rows_of_four (k n : Nat) (a : Nat → Nat → Bool) (M : Sto) (hn : n ≤ 60) :
    run pk.prg pk.fs (k + 3) F_rows_of_four [.p (webD n a)] M = .ok (.p false (.tup ((r4 n a).map dq))) M := by
  rw [run_eq fs_rows_of_four M rfl]
  have hn2 : n ≤ 100 := by omega
  have hl := r4_len n a
  have h2 : n * n ≤ 60 * 60 := mul_le hn hn
  have h3 : n * (n * n) ≤ 60 * (60 * 60) := mul_le hn h2
  have h4 : n * (n * (n * n)) ≤ 60 * (60 * (60 * 60)) := mul_le hn h3
  simp (disch := (first | omega | (simp only [List.length_map, mkM_len, fnM_len, List.length_range, List.length_range', List.length_take, List.length_drop, List.length_append, List.length_cons, List.length_nil]; omega))) [b_rows_of_four, n_rows_of_four]
  rw [lc2_map (fun x => ((rf n a (fun _ => true) x).filter fun r => decide (r.1 < r.2.2.2)).map dq) ?h]
  case h =>
    intro x hx
    have hx := List.mem_range.mp hx
    simp (disch := (first | omega | (simp only [List.length_map, mkM_len, fnM_len, List.length_range, List.length_range', List.length_take, List.length_drop, List.length_append, List.length_cons, List.length_nil]; omega))) [run_rows_from _ n a _ x _ hn2 hx]
    rw [compGo_map (g := fun r => if decide (r.1 < r.2.2.2) = true then some (dq r) else none) (fun r _ => by by_cases q : r.1 < r.2.2.2 <;> simp [q]), filterMap_if]
  rw [rb_ok, ← List.map_flatMap, lstOf_ok (by rw [List.length_map]; unfold r4 at hl; omega)]
  simp [r4]
def led (f : Nat → Nat) (r : Nat × Nat × Nat × Nat) : Bool := decide (f r.1 < f r.2.1) && decide (f r.2.2.2 < f r.2.2.1)
def optD : Option (Nat × Nat × Nat × Nat) → D
  | none => .non
  | some r => dq r
/-- the first bad row -/
def fb (n : Nat) (a : Nat → Nat → Bool) (row : List Nat) : Option (Nat × Nat × Nat × Nat) := (r4 n a).find? (led (pos row))
/-- no clash of unlike things -/
def con (a : Nat → Nat → Bool) (x y : Nat) : Bool := !decide (x = y) && !a x y
theorem sym_con {n : Nat} {a : Nat → Nat → Bool} (h : Sym n a) : Sym n (con a) := by
  refine ⟨fun x hx y hy => ?_, fun x hx => by simp [con]⟩
  unfold con
  rw [h.1 x hx y hy]
  congr 2
  rw [Bool.eq_iff_iff]; simp [eq_comm]
theorem gap_list (n : Nat) (a : Nat → Nat → Bool) : (List.range n).flatMap (fun x => ((List.range' (x + 1) (n - (x + 1))).filter fun y => !a x y).map fun y => (x, y)) = prs n (con a) := by
  unfold prs
  rw [List.flatMap_def, List.flatMap_def]
  congr 1
  refine List.map_congr_left fun x hx => ?_
  have hx := List.mem_range.mp hx
  congr 1
  have e : List.range n = List.range (x + 1) ++ List.range' (x + 1) (n - (x + 1)) := by
    rw [List.range_eq_range', List.range_eq_range']
    have := @List.range'_append_1 0 (x + 1) (n - (x + 1))
    rw [Nat.zero_add] at this
    rw [this]; congr 1; omega
  rw [e, List.filter_append]
  have e1 : (List.range (x + 1)).filter (fun y => con a x y && decide (x < y)) = [] := by
    rw [List.filter_eq_nil_iff]
    intro y hy
    have := List.mem_range.mp hy
    have : ¬ x < y := by omega
    simp [this]
  rw [e1, List.nil_append]
  refine List.filter_congr fun y hy => ?_
  have := (mem_rng2.mp hy).1
  have h1 : x < y := by omega
  have h2 : x ≠ y := by omega
  simp [con, h1, h2]
/-- the possible rows of four from x, the lesser end first -/
def peC (n : Nat) (s m : Nat → Nat → Bool) (x b c : Nat) : List (Nat × Nat × Nat × Nat) := if c = x then [] else (((List.range n).filter fun d => (s c d || m c d) && !s b d && !s x d).filter fun d => decide (x < d) && !decide (d = b)).map fun d => (x, b, c, d)
def peB (n : Nat) (s m : Nat → Nat → Bool) (x b : Nat) : List (Nat × Nat × Nat × Nat) := ((List.range n).filter fun c => (s b c || m b c) && !s x c).flatMap (peC n s m x b)
def pe (n : Nat) (s m : Nat → Nat → Bool) (x : Nat) : List (Nat × Nat × Nat × Nat) := ((List.range n).filter fun b => s x b || m x b).flatMap (peB n s m x)
theorem peC_len (n : Nat) (s m : Nat → Nat → Bool) (x b c : Nat) : (peC n s m x b c).length ≤ n := by
  unfold peC
  split
  · simp
  · rw [List.length_map]
    have h1 := List.length_filter_le (fun d => decide (x < d) && !decide (d = b)) ((List.range n).filter fun d => (s c d || m c d) && !s b d && !s x d)
    have h2 := List.length_filter_le (fun d => (s c d || m c d) && !s b d && !s x d) (List.range n)
    simp at h2; omega
theorem peB_len (n : Nat) (s m : Nat → Nat → Bool) (x b : Nat) : (peB n s m x b).length ≤ n * n := by
  refine Nat.le_trans (flatMap_len (m := n) fun c _ => peC_len n s m x b c) (Nat.mul_le_mul_right _ ?_)
  have := List.length_filter_le (fun c => (s b c || m b c) && !s x c) (List.range n)
  simpa using this
theorem pe_len (n : Nat) (s m : Nat → Nat → Bool) (x : Nat) : (pe n s m x).length ≤ n * (n * n) := by
  refine Nat.le_trans (flatMap_len (m := n * n) fun c _ => peB_len n s m x c) (Nat.mul_le_mul_right _ ?_)
  have := List.length_filter_le (fun b => s x b || m x b) (List.range n)
  simpa using this
def p4 (n : Nat) (s m : Nat → Nat → Bool) : List (Nat × Nat × Nat × Nat) := (List.range n).flatMap (pe n s m)
theorem p4_len (n : Nat) (s m : Nat → Nat → Bool) : (p4 n s m).length ≤ n * (n * (n * n)) := by
  refine Nat.le_trans (flatMap_len (m := n * (n * n)) fun x _ => pe_len n s m x) ?_
  simp
theorem mem_pe {n : Nat} {s m : Nat → Nat → Bool} {x : Nat} {r : Nat × Nat × Nat × Nat} : r ∈ pe n s m x ↔ r.1 = x ∧ r.2.1 < n ∧ r.2.2.1 < n ∧ r.2.2.2 < n ∧ (s x r.2.1 || m x r.2.1) = true ∧ ((s r.2.1 r.2.2.1 || m r.2.1 r.2.2.1) && !s x r.2.2.1) = true ∧ r.2.2.1 ≠ x ∧ ((s r.2.2.1 r.2.2.2 || m r.2.2.1 r.2.2.2) && !s r.2.1 r.2.2.2 && !s x r.2.2.2) = true ∧ x < r.2.2.2 ∧ r.2.2.2 ≠ r.2.1 := by
  obtain ⟨r1, r2, r3, r4⟩ := r
  unfold pe peB
  simp only [List.mem_flatMap, List.mem_filter, List.mem_range]
  constructor
  · rintro ⟨b, ⟨h1, h2⟩, c, ⟨h3, h4⟩, h5⟩
    unfold peC at h5
    split at h5
    · cases h5
    · next e =>
      simp only [List.mem_map, List.mem_filter, List.mem_range, Prod.mk.injEq, Bool.and_eq_true, decide_eq_true_eq, Bool.not_eq_true', decide_eq_false_iff_not] at h5
      obtain ⟨d, ⟨⟨h6, h7⟩, h8, h9⟩, rfl, rfl, rfl, rfl⟩ := h5
      exact ⟨rfl, h1, h3, h6, h2, h4, e, by simpa using h7, h8, h9⟩
  · rintro ⟨h0, h1, h3, h6, h2, h4, e, h7, h8, h9⟩
    subst h0
    refine ⟨r2, ⟨h1, h2⟩, r3, ⟨h3, h4⟩, ?_⟩
    unfold peC
    rw [if_neg e]
    simp only [List.mem_map, List.mem_filter, List.mem_range, Prod.mk.injEq]
    refine ⟨r4, ⟨⟨h6, h7⟩, by simp [h8, h9]⟩, ?_⟩
    simp
theorem p4_lt {n : Nat} {s m : Nat → Nat → Bool} {r : Nat × Nat × Nat × Nat} (h : r ∈ p4 n s m) : r.1 < n ∧ r.2.1 < n ∧ r.2.2.1 < n ∧ r.2.2.2 < n := by
  unfold p4 at h
  simp only [List.mem_flatMap, List.mem_range, mem_pe] at h
  obtain ⟨x, h1, h2, h3, h4, h5, _⟩ := h
  exact ⟨h2 ▸ h1, h3, h4, h5⟩
theorem head_opt (l : List (Nat × Nat × Nat × Nat)) (p : Nat × Nat × Nat × Nat → Bool) : (l.filter p).head? = l.find? p := by
  induction l with
  | nil => rfl
  | cons x xs ih => cases q : p x <;> simp [List.filter_cons, List.find?_cons, q, ih]
theorem head_len (l : List (Nat × Nat × Nat × Nat)) (i : Nat) (h : 0 < l.length) : l.head? = some (l[0]'h) := by
  cases l with
  | nil => simp at h
  | cons x xs => rfl
theorem safe_end (l : List (Nat × Nat × Nat × Nat)) (M : Sto) : ((if decide (0 < l.length) = true then ofO (Option.map (RV.p false) (idxD (D.lst (l.map dq)) (dn 0))) M else Res.ok (RV.p false D.non) M) : Res RV) = .ok (.p false (optD l.head?)) M := by
  cases l with
  | nil => rfl
  | cons x xs => rw [if_pos (by simp), List.map_cons, idx_lst (x := dq x) (by simp)]; simp [optD]
/-! ### the draws -/
def LdI (ns : List Int) (M : Sto) (l : Nat) (sl : Slots) (M' : Sto) : Prop := ∃ (ds : List Nat) (v2 v3 v4 v5 : Option DV), ds.length ≤ l ∧ sl = [some (.p (.scr ns)), some (.own M.length), v2, v3, v4, v5] ∧ M' = M ++ [.live (.lst (ds.map dn))]
def LdB (ns : List Int) (M : Sto) (at_ l : Nat) (sl : Slots) (M' : Sto) : Prop := ∃ (ds : List Nat) (c : Nat) (v4 v5 : Option DV), ds.length ≤ l ∧ sl = [some (.p (.scr ns)), some (.own M.length), some (.p (dn at_)), some (.p (dn c)), v4, v5] ∧ M' = M ++ [.live (.lst (ds.map dn))]
def LdS (ns : List Int) (M : Sto) (at_ c l : Nat) (sl : Slots) (M' : Sto) : Prop := ∃ (ds : List Nat) (m : Nat) (v4 : Option DV), m < 2147483647 ∧ ds.length ≤ l ∧ sl = [some (.p (.scr ns)), some (.own M.length), some (.p (dn at_)), some (.p (dn c)), v4, some (.p (dn m))] ∧ M' = M ++ [.live (.lst (ds.map dn))]
theorem ld_big (k : Nat) (ns : List Int) (M : Sto) (ds : List Nat) (at_ c l : Nat) (v4 v5 : Option DV) (h : ds.length ≤ l) (hl : l ≤ 3780) : Goes (forGo (loopR pk.prg (run pk.prg pk.fs k) (.name 4) b__law_draws_1) ((List.range 60).map dn) [some (.p (.scr ns)), some (.own M.length), some (.p (dn at_)), some (.p (dn c)), v4, v5] (M ++ [.live (.lst (ds.map dn))])) (LdI ns M (l + 60)) := by
  refine for_goes0 (fun pre => LdB ns M at_ (l + pre.length)) ⟨ds, c, v4, v5, by simpa using h, rfl, rfl⟩ ?_ ?_
  · rintro pre2 j post2 hx2 sl M' ⟨ds', c, v4, v5, hl2, rfl, rfl⟩
    have hlen2 : (List.range 60).length = _ := congrArg List.length hx2
    simp at hlen2
    by_cases h0 : 0 < c
    · simp (disch := (first | omega | (simp only [List.length_map, mkM_len, fnM_len, List.length_range, List.length_range', List.length_take, List.length_drop, List.length_append, List.length_cons, List.length_nil]; omega))) [b__law_draws_1, h0]
      exact ⟨ds' ++ [c % 24], c / 24, _, _, by simp; omega, rfl, by simp⟩
    · simp (disch := (first | omega | (simp only [List.length_map, mkM_len, fnM_len, List.length_range, List.length_range', List.length_take, List.length_drop, List.length_append, List.length_cons, List.length_nil]; omega))) [b__law_draws_1, h0]
      exact ⟨ds', c, _, _, by omega, rfl, rfl⟩
  · rintro sl' M' ⟨ds', c, v4, v5, hl2, rfl, rfl⟩
    exact ⟨ds', _, _, _, _, by simpa using hl2, rfl, rfl⟩
theorem ld_small (k : Nat) (ns : List Int) (M : Sto) (ds : List Nat) (at_ c m l : Nat) (v4 : Option DV) (hm : m < 2147483647) (h : ds.length ≤ l) (hl : l ≤ 3780) : Goes (forGo (loopR pk.prg (run pk.prg pk.fs k) (.name 4) b__law_draws_2) ((List.range 6).map dn) [some (.p (.scr ns)), some (.own M.length), some (.p (dn at_)), some (.p (dn c)), v4, some (.p (dn m))] (M ++ [.live (.lst (ds.map dn))])) (LdI ns M (l + 60)) := by
  with_reducible refine for_goes0 (fun pre => LdS ns M at_ c (l + pre.length)) ?_ ?_ ?_
  · exact ⟨ds, m, v4, hm, by simpa using h, rfl, rfl⟩
  · rintro pre2 j post2 hx2 sl M' ⟨ds', m, v4, hm, hl2, rfl, rfl⟩
    have hlen2 : (List.range 6).length = _ := congrArg List.length hx2
    simp at hlen2
    simp (disch := (first | omega | (simp only [List.length_map, mkM_len, fnM_len, List.length_range, List.length_range', List.length_take, List.length_drop, List.length_append, List.length_cons, List.length_nil]; omega))) [b__law_draws_2]
    exact ⟨ds' ++ [(m * m + j * 38447 + at_ + 11) % 2147483587], _, _, Nat.lt_of_lt_of_le (Nat.mod_lt _ (by omega)) (by omega), by simp; omega, rfl, by simp⟩
  · rintro sl' M' ⟨ds', m, v4, hm, hl2, rfl, rfl⟩
    exact ⟨ds', _, _, _, _, by simp at hl2 ⊢; omega, rfl, rfl⟩
theorem run__law_draws (k : Nat) (ns : List Int) (M : Sto) (hn : ns.length ≤ 63) : ∃ ds : List Nat, run pk.prg pk.fs (k + 1) F__law_draws [.p (.scr ns)] M = .ok (.p true (.lst (ds.map dn))) M := by
  rw [run_eq fs__law_draws M rfl]
  simp (disch := (first | omega | (simp only [List.length_map, mkM_len, fnM_len, List.length_range, List.length_range', List.length_take, List.length_drop, List.length_append, List.length_cons, List.length_nil]; omega))) [b__law_draws, n__law_draws]
  refine for_P (fun r => ∃ ds : List Nat, r = .ok (.p true (.lst (ds.map dn))) M) (fun pre => LdI ns M (pre.length * 60)) ⟨[], none, none, none, none, by simp, rfl, rfl⟩ ?_ ?_
  · rintro pre at_ post hx sl M' ⟨ds, v2, v3, v4, v5, hl, rfl, rfl⟩
    have hr : at_ ∈ List.range ns.length := by rw [hx]; simp
    have hr2 := List.mem_range.mp hr
    have hlen : (List.range ns.length).length = _ := congrArg List.length hx
    simp at hlen
    have hat : at_ < ns.length := by omega
    have hp : pre.length * 60 ≤ 3780 := by omega
    have he : (pre ++ [at_]).length * 60 = pre.length * 60 + 60 := by simp; omega
    rw [he]
    have hm : ∀ z : Nat, z % 2147483647 < 2147483647 := fun z => Nat.mod_lt _ (by omega)
    by_cases hneg : ns[at_] < 0
    · obtain ⟨c, hc⟩ : ∃ c : Nat, 1 - ns[at_] = (c : Int) := ⟨(1 - ns[at_]).toNat, by omega⟩
      by_cases hbig : 1000000000000000000 ≤ c
      · simp (disch := (first | omega | (simp only [List.length_map, mkM_len, fnM_len, List.length_range, List.length_range', List.length_take, List.length_drop, List.length_append, List.length_cons, List.length_nil]; omega))) [b__law_draws_3, hat, hneg, hc, hbig, next_id]
        exact ld_big k ns M ds at_ c _ _ _ hl hp
      · simp (disch := (first | omega | (simp only [List.length_map, mkM_len, fnM_len, List.length_range, List.length_range', List.length_take, List.length_drop, List.length_append, List.length_cons, List.length_nil]; omega))) [b__law_draws_3, hat, hneg, hc, hbig, next_id]
        with_reducible refine ld_small k ns M ds at_ c _ _ _ ?_ hl hp
        exact hm _
    · obtain ⟨c, hc⟩ : ∃ c : Nat, ns[at_] = (c : Int) := ⟨(ns[at_]).toNat, by omega⟩
      have hneg2 : ¬ ((c : Int) < 0) := by omega
      by_cases hbig : 1000000000000000000 ≤ c
      · simp (disch := (first | omega | (simp only [List.length_map, mkM_len, fnM_len, List.length_range, List.length_range', List.length_take, List.length_drop, List.length_append, List.length_cons, List.length_nil]; omega))) [b__law_draws_3, hat, hneg2, hc, hbig, next_id]
        exact ld_big k ns M ds at_ c _ _ _ hl hp
      · simp (disch := (first | omega | (simp only [List.length_map, mkM_len, fnM_len, List.length_range, List.length_range', List.length_take, List.length_drop, List.length_append, List.length_cons, List.length_nil]; omega))) [b__law_draws_3, hat, hneg2, hc, hbig, next_id]
        with_reducible refine ld_small k ns M ds at_ c _ _ _ ?_ hl hp
        exact hm _
  · rintro sl' M' ⟨ds, v2, v3, v4, v5, hl, rfl, rfl⟩
    refine ⟨ds.reverse, ?_⟩
    simp (disch := (first | omega | (simp only [List.length_map, mkM_len, fnM_len, List.length_range, List.length_range', List.length_take, List.length_drop, List.length_append, List.length_cons, List.length_nil]; omega))) []
    rw [end_own (d := .lst ((ds.map dn).reverse)) (by omega) (by simp)]
    simp

/-- a store with the draws in front -/
def DM (ds : List Nat) (L : Sto) : Sto := .live (.lst (ds.map dn)) :: L
@[simp] theorem DM_app (ds : List Nat) (L X : Sto) : DM ds L ++ X = DM ds (L ++ X) := (rfl)
@[simp] theorem DM_len (ds : List Nat) (L : Sto) : (DM ds L).length = L.length + 1 := (rfl)
@[simp] theorem DM_get0 (ds : List Nat) (L : Sto) : (DM ds L)[0]? = some (.live (.lst (ds.map dn))) := (rfl)
@[simp] theorem DM_getS (ds : List Nat) (L : Sto) (i : Nat) : (DM ds L)[i + 1]? = L[i]? := (rfl)
@[simp] theorem DM_setS (ds : List Nat) (L : Sto) (i : Nat) (z : Cell) : (DM ds L).set (i + 1) z = DM ds (L.set i z) := (rfl)
@[simp] theorem DM_takeS (ds : List Nat) (L : Sto) (i : Nat) : (DM ds L).take (i + 1) = DM ds (L.take i) := (rfl)
@[simp] theorem DM_mtOk (ds : List Nat) (L : Sto) (m : Str) : mtOk m (.own 0) (DM ds L) = true := mtOk_own (xs := ds.map dn) (DM_get0 ds L)
@[simp] theorem DM_mtOkS (ds : List Nat) (L X : Sto) (m : Str) (xs : List D) : mtOk m (.own (L.length + 1)) (DM ds (L ++ .live (.lst xs) :: X)) = true := mtOk_own (xs := xs) (by rw [DM_getS]; exact sto_get0 _ _ _)
def tk (ds : List Nat) (m : Nat) : Nat := match ds.getLast? with
  | none => 0
  | some d => d % m
def tf (ds : List Nat) : Bool := ds.getLast?.isSome
theorem tk_lt (ds : List Nat) {m : Nat} (h : 0 < m) : tk ds m < m := by
  unfold tk; split
  · exact h
  · exact Nat.mod_lt _ h
@[simp] theorem run__law_take (k m : Nat) (ds : List Nat) (L : Sto) (hm : 0 < m) : run pk.prg pk.fs (k + 1) F__law_take [.own 0, .p (dn m)] (DM ds L) = .ok (.p (tf ds) (dn (tk ds m))) (DM ds.dropLast L) := by
  rw [run_eq fs__law_take _ rfl]
  rcases List.eq_nil_or_concat ds with rfl | ⟨es, d, rfl⟩
  · simp (disch := (first | omega | (simp only [List.length_map, mkM_len, fnM_len, List.length_range, List.length_range', List.length_take, List.length_drop, List.length_append, List.length_cons, List.length_nil]; omega))) [b__law_take, n__law_take, tk, tf]
  · have hp : popC 0 (DM (es ++ [d]) L) (.live (.lst ((es ++ [d]).map dn))) = .ok (.p false (dn d)) (DM es L) := by
      unfold popC
      simp only [List.map_append, List.map_cons, List.map_nil]
      rw [show ((es.map dn ++ [dn d])[(es.map dn ++ [dn d]).length - 1]?) = some (dn d) by simp]
      simp [DM]
    simp only [List.concat_eq_append]
    have hl : (es ++ [d]).length ≠ 0 := by simp
    simp (disch := (first | omega | (simp only [List.length_map, mkM_len, fnM_len, List.length_range, List.length_range', List.length_take, List.length_drop, List.length_append, List.length_cons, List.length_nil]; omega))) [b__law_take, n__law_take, tk, tf]
    rw [show (List.map dn es ++ [dn d]) = (es ++ [d]).map dn by simp, hp]
    simp (disch := (first | omega | (simp only [List.length_map, mkM_len, fnM_len, List.length_range, List.length_range', List.length_take, List.length_drop, List.length_append, List.length_cons, List.length_nil]; omega))) []
@[simp] theorem run__law_clash (k x y : Nat) (ps : List (Nat × Nat)) (M : Sto) : run pk.prg pk.fs (k + 1) F__law_clash [.p (.lst (ps.map dp)), .p (dn x), .p (dn y)] M = .ok (.p false (.bl (decide ((min x y, max x y) ∈ ps)))) M := by
  rw [run_eq fs__law_clash _ rfl]
  simp (disch := (first | omega | (simp only [List.length_map, mkM_len, fnM_len, List.length_range, List.length_range', List.length_take, List.length_drop, List.length_append, List.length_cons, List.length_nil]; omega))) [b__law_clash, n__law_clash]
theorem mt_pos (fr f2 : Bool) (row : List Nat) (x : Nat) (M : Sto) (h : x ∈ row) : mtD ("index" : Str) (.p fr (.lst (row.map dn))) [.p f2 (dn x)] M = .ok (.p false (dn (pos row x))) M := mt_index (e := dn) fr f2 row x M h
def ltP (n : Nat) (ps : List (Nat × Nat)) : Prop := ∀ q ∈ ps, q.1 < q.2 ∧ q.2 < n
theorem ltP_ok {n : Nat} {ps : List (Nat × Nat)} (h : ltP n ps) : okP n ps := fun q hq => by have := h q hq; omega
theorem adjP_min {n : Nat} {ps : List (Nat × Nat)} (h : ltP n ps) (x y : Nat) : decide ((min x y, max x y) ∈ ps) = adjP ps x y := by
  unfold adjP
  rw [Bool.eq_iff_iff]
  simp only [Bool.or_eq_true, decide_eq_true_eq]
  rcases Nat.lt_trichotomy x y with q | q | q
  · rw [Nat.min_eq_left (by omega), Nat.max_eq_right (by omega)]
    exact ⟨Or.inl, fun k => k.elim id fun k => by have := h _ k; simp at this; omega⟩
  · subst q; simp
  · rw [Nat.min_eq_right (by omega), Nat.max_eq_left (by omega)]
    exact ⟨Or.inr, fun k => k.elim (fun k => by have := h _ k; simp at this; omega) id⟩
theorem row_perm {n : Nat} {row : List Nat} (h : row.Perm (List.range n)) : Row n row :=
  ⟨h.nodup_iff.mpr List.nodup_range, by rw [h.length_eq, List.length_range], fun x => by rw [h.mem_iff, List.mem_range]⟩
theorem run__law_line (k n : Nat) (M : Sto) (h : 1 ≤ n) (hn : n ≤ 1000) : run pk.prg pk.fs (k + 1) F__law_line [.p (dn n)] M = .ok (.p true (.lst (((List.range (n - 1)).map fun x => (x, x + 1)).map dp))) M := by
  rw [run_eq fs__law_line _ rfl]
  simp (disch := (first | omega | (simp only [List.length_map, mkM_len, fnM_len, List.length_range, List.length_range', List.length_take, List.length_drop, List.length_append, List.length_cons, List.length_nil]; omega))) [b__law_line, n__law_line]
  rw [lc_map (fun x => some (dp (x, x + 1))) (fun i _ => by simp), filterMap_some, rb_ok, lstOf_ok (by simp; omega)]
  simp
theorem run__law_ring (k n : Nat) (M : Sto) (h : 2 ≤ n) (hn : n ≤ 1000) : ∃ ps : List (Nat × Nat), ps.Perm (((List.range (n - 1)).map fun x => (x, x + 1)) ++ [(0, n - 1)]) ∧ run pk.prg pk.fs (k + 1) F__law_ring [.p (dn n)] M = .ok (.p true (.lst (ps.map dp))) M := by
  obtain ⟨ps, h1, h2⟩ := sort_dp (((List.range (n - 1)).map fun x => (x, x + 1)) ++ [(0, n - 1)])
  refine ⟨ps, h1, ?_⟩
  rw [run_eq fs__law_ring _ rfl]
  simp (disch := (first | omega | (simp only [List.length_map, mkM_len, fnM_len, List.length_range, List.length_range', List.length_take, List.length_drop, List.length_append, List.length_cons, List.length_nil]; omega))) [b__law_ring, n__law_ring]
  rw [lc_map (fun x => some (dp (x, x + 1))) (fun i _ => by simp), filterMap_some, rb_ok, lstOf_ok (by simp; omega)]
  simp (disch := (first | omega | (simp only [List.length_map, mkM_len, fnM_len, List.length_range, List.length_range', List.length_take, List.length_drop, List.length_append, List.length_cons, List.length_nil]; omega))) []
  simp only [List.map_append, List.map_map, List.map_cons, List.map_nil] at h2
  have e : List.map (dp ∘ fun x => (x, x + 1)) (List.range (n - 1)) = List.map (fun x => dp (x, x + 1)) (List.range (n - 1)) := rfl
  rw [e] at h2
  rw [h2]
  simp
theorem rng3_ok (f g h : Bool) (M : Sto) : ∀ a, a < 2 → ∀ n, n < 30 → rng3R (.p f (dn a)) (.p g (dn n)) (.p h (dn 2)) M = .ok (((List.range n).filter fun x => x % 2 == a).map dn) M := by
  intro a ha n hn
  have : ∀ a, a < 2 → ∀ n, n < 30 → ((Builtin.Range.small (a : Nat) (n : Nat) 2) = true ∧ ((List.range (Builtin.Range.rangeSize (a : Nat) (n : Nat) 2).toNat).map fun k : Nat => ((a : Nat) : Int) + (k : Nat) * 2) = ((List.range n).filter fun x => x % 2 == a).map fun x : Nat => (x : Int)) := by decide +kernel
  obtain ⟨h1, h2⟩ := this a ha n hn
  have e := congrArg (List.map D.int) h2
  rw [List.map_map, List.map_map] at e
  have main : rng3R (.p f (.int (a : Int))) (.p g (.int (n : Int))) (.p h (.int 2)) M = .ok (((List.range n).filter fun x => x % 2 == a).map dn) M := by
    unfold rng3R
    dsimp only
    rw [h1, if_pos (by decide)]
    exact congrArg (fun z => Res.ok z M) e
  exact main
theorem run__law_ring_row (k n : Nat) (M : Sto) (hn : n < 30) : ∃ row : List Nat, Row n row ∧ run pk.prg pk.fs (k + 1) F__law_ring_row [.p (dn n)] M = .ok (.p true (.lst (row.map dn))) M := by
  refine ⟨((List.range n).filter fun x => x % 2 == 0) ++ ((List.range n).filter fun x => x % 2 == 1), row_perm ?_, ?_⟩
  · have e : (List.range n).filter (fun x => x % 2 == 1) = (List.range n).filter fun x => !(x % 2 == 0) := List.filter_congr fun x _ => by rcases Nat.mod_two_eq_zero_or_one x with q | q <;> simp [q]
    rw [e]
    exact List.filter_append_perm _ _
  · have l1 := List.length_filter_le (fun x => x % 2 == 0) (List.range n)
    have l2 := List.length_filter_le (fun x => x % 2 == 1) (List.range n)
    rw [List.length_range] at l1 l2
    rw [run_eq fs__law_ring_row _ rfl]
    simp (disch := (first | omega | (simp only [List.length_map, mkM_len, fnM_len, List.length_range, List.length_range', List.length_take, List.length_drop, List.length_append, List.length_cons, List.length_nil]; omega))) [b__law_ring_row, n__law_ring_row, rng3_ok]
    rw [lc_map (fun x => some (dn x)) (fun i _ => by simp), filterMap_some, rb_ok, lstOf_ok (by simp; omega)]
    simp (disch := (first | omega | (simp only [List.length_map, mkM_len, fnM_len, List.length_range, List.length_range', List.length_take, List.length_drop, List.length_append, List.length_cons, List.length_nil]; omega))) [rng3_ok]
    rw [lc_map (fun x => some (dn x)) (fun i _ => by simp), filterMap_some, rb_ok, lstOf_ok (by simp; omega)]
    simp (disch := (first | omega | (simp only [List.length_map, mkM_len, fnM_len, List.length_range, List.length_range', List.length_take, List.length_drop, List.length_append, List.length_cons, List.length_nil]; omega))) []

def dropAt (rest : List Nat) (w : Nat) : List Nat := ((List.range rest.length).filter fun j => !decide (j = w)).map fun j => rest.getD j 0
theorem dropAt_perm {rest : List Nat} {w : Nat} (h : w < rest.length) : rest.Perm (rest.getD w 0 :: dropAt rest w) := by
  have e : rest = (List.range rest.length).map fun j => rest.getD j 0 := by
    refine List.ext_getElem? fun i => ?_
    by_cases k : i < rest.length
    · simp [k]
    · rw [List.getElem?_eq_none (by omega), List.getElem?_eq_none (by simp; omega)]
  have p := List.perm_cons_erase (List.mem_range.mpr h)
  rw [List.Nodup.erase_eq_filter List.nodup_range] at p
  have e2 : (List.range rest.length).filter (fun x => x != w) = (List.range rest.length).filter fun j => !decide (j = w) := List.filter_congr fun x _ => by by_cases q : x = w <;> simp [q]
  rw [e2] at p
  have p2 := p.map fun j => rest.getD j 0
  rw [← e] at p2
  exact p2
theorem dropAt_len {rest : List Nat} {w : Nat} (h : w < rest.length) : (dropAt rest w).length + 1 = rest.length := by
  have := (dropAt_perm h).length_eq
  simp at this; omega
def LrI (n : Nat) (L : Sto) (l : Nat) (sl : Slots) (M' : Sto) : Prop := ∃ (ds row rest : List Nat) (v4 v5 : Option DV), rest.length + l = n ∧ row.length = l ∧ (row ++ rest).Perm (List.range n) ∧ sl = [some (.own 0), some (.p (dn n)), some (.p (.lst (rest.map dn))), some (.own (L.length + 1)), v4, v5, none, none] ∧ M' = DM ds (L ++ [.live (.lst (row.map dn))])
def OkRow (n : Nat) (L : Sto) (r : Res RV) : Prop := ∃ (row ds' : List Nat), Row n row ∧ r = .ok (.p true (.lst (row.map dn))) (DM ds' L)
theorem run__law_row (k n : Nat) (ds : List Nat) (L : Sto) (hn : n ≤ 1000) : OkRow n L (run pk.prg pk.fs (k + 2) F__law_row [.own 0, .p (dn n)] (DM ds L)) := by
  rw [run_eq fs__law_row _ rfl]
  simp (disch := (first | omega | (simp only [List.length_map, mkM_len, fnM_len, List.length_range, List.length_range', List.length_take, List.length_drop, List.length_append, List.length_cons, List.length_nil]; omega))) [b__law_row, n__law_row]
  rw [lc_map (fun x => some (dn x)) (fun i _ => by simp), filterMap_some, rb_ok, lstOf_ok (by simp; omega)]
  simp (disch := (first | omega | (simp only [List.length_map, mkM_len, fnM_len, List.length_range, List.length_range', List.length_take, List.length_drop, List.length_append, List.length_cons, List.length_nil]; omega))) []
  refine for_P (OkRow n L) (fun pre => LrI n L pre.length) ?_ ?_ ?_
  · exact ⟨ds, [], List.range n, none, none, by simp, rfl, by simp, rfl, by simp⟩
  · rintro pre t post hx sl M' ⟨ds, row, rest, v4, v5, h1, h2, h3, rfl, rfl⟩
    have hlen : (List.range n).length = _ := congrArg List.length hx
    simp at hlen
    have h0 : 0 < rest.length := by omega
    have hw := tk_lt ds h0
    have hg : rest[tk ds rest.length] = rest.getD (tk ds rest.length) 0 := by simp [hw]
    simp (disch := (first | omega | (simp only [List.length_map, mkM_len, fnM_len, List.length_range, List.length_range', List.length_take, List.length_drop, List.length_append, List.length_cons, List.length_nil]; omega))) [b__law_row_1, hw]
    rw [lc_map (fun j => if (!decide (j = tk ds rest.length)) = true then some (dn (rest.getD j 0)) else none) ?h]
    case h =>
      intro j hj
      have hj := List.mem_range.mp hj
      by_cases e : j = tk ds rest.length
      · subst e; simp (disch := (first | omega | (simp only [List.length_map, mkM_len, fnM_len, List.length_range, List.length_range', List.length_take, List.length_drop, List.length_append, List.length_cons, List.length_nil]; omega))) []
      · simp (disch := (first | omega | (simp only [List.length_map, mkM_len, fnM_len, List.length_range, List.length_range', List.length_take, List.length_drop, List.length_append, List.length_cons, List.length_nil]; omega))) [e, hj]
    have hl := dropAt_len hw
    have hd : List.map (fun j => dn (rest.getD j 0)) ((List.range rest.length).filter fun j => !decide (j = tk ds rest.length)) = (dropAt rest (tk ds rest.length)).map dn := by
      unfold dropAt; rw [List.map_map]; rfl
    rw [filterMap_if, hd, rb_ok, lstOf_ok (by rw [List.length_map]; omega)]
    simp (disch := (first | omega | (simp only [List.length_map, mkM_len, fnM_len, List.length_range, List.length_range', List.length_take, List.length_drop, List.length_append, List.length_cons, List.length_nil]; omega))) []
    refine ⟨ds.dropLast, row ++ [rest.getD (tk ds rest.length) 0], dropAt rest (tk ds rest.length), _, _, ?_, ?_, ?_, rfl, by rw [hg]; simp⟩
    · omega
    · simp only [List.length_append, List.length_cons, List.length_nil]; omega
    refine List.Perm.trans ?_ h3
    rw [List.append_assoc]
    exact List.Perm.append_left row (dropAt_perm hw).symm
  · rintro sl' M' ⟨ds, row, rest, v4, v5, h1, h2, h3, rfl, rfl⟩
    simp at h1
    subst h1
    rw [List.append_nil] at h3
    refine ⟨row, ds, row_perm h3, ?_⟩
    simp (disch := (first | omega | (simp only [List.length_map, mkM_len, fnM_len, List.length_range, List.length_range', List.length_take, List.length_drop, List.length_append, List.length_cons, List.length_nil]; omega))) []
    rw [end_own (d := .lst (row.map dn)) (by omega) (by rw [DM_getS]; exact sto_get0 _ _ _)]
    simp
def LfI (n left : Nat) (L : Sto) (l : Nat) (sl : Slots) (M' : Sto) : Prop := ∃ (ds : List Nat) (ps : List (Nat × Nat)) (v4 v5 : Option DV), ps.length ≤ l ∧ ltP n ps ∧ sl = [some (.own 0), some (.p (dn n)), some (.p (dn left)), some (.own (L.length + 1)), v4, v5] ∧ M' = DM ds (L ++ [.live (.lst (ps.map dp))])
theorem range'_pre {a b x : Nat} {pre post : List Nat} (h : List.range' a b = pre ++ x :: post) : pre.length ≤ b ∧ a ≤ x ∧ x < a + b := by
  have h1 : (List.range' a b).length = _ := congrArg List.length h
  have h2 : x ∈ List.range' a b := by rw [h]; simp
  rw [List.mem_range'_1] at h2
  simp at h1
  omega
theorem range_pre {n x : Nat} {pre post : List Nat} (h : List.range n = pre ++ x :: post) : pre.length < n ∧ x < n := by
  have h1 : (List.range n).length = _ := congrArg List.length h
  have h2 : x ∈ List.range n := by rw [h]; simp
  rw [List.mem_range] at h2
  simp at h1
  omega
theorem ltP_snoc {n x y : Nat} {ps : List (Nat × Nat)} (h : ltP n ps) (h1 : x < y) (h2 : y < n) : ltP n (ps ++ [(x, y)]) := by
  intro q hq
  rcases List.mem_append.mp hq with k | k
  · exact h q k
  · simp at k; subst k; exact ⟨h1, h2⟩
/-- a case of the law: the number of things, pairs, a row -/
def caseD (n : Nat) (ps : List (Nat × Nat)) (row : List Nat) : D := .lst [dn n, .lst (ps.map dp), .lst (row.map dn)]
def OkCase (n : Nat) (L : Sto) (r : Res RV) : Prop := ∃ (ps : List (Nat × Nat)) (row ds' : List Nat), ltP n ps ∧ ps.length ≤ n * n ∧ Row n row ∧ r = .ok (.p true (caseD n ps row)) (DM ds' L)
theorem row_range (n : Nat) : Row n (List.range n) := row_perm (List.Perm.refl _)
theorem run__law_free (k n left : Nat) (ds : List Nat) (L : Sto) (hn : n ≤ 1000) : OkCase n L (run pk.prg pk.fs (k + 2) F__law_free [.own 0, .p (dn n), .p (dn left)] (DM ds L)) := by
  have hnn : n * n ≤ 1000 * 1000 := mul_le hn hn
  rw [run_eq fs__law_free _ rfl]
  simp (disch := (first | omega | (simp only [List.length_map, mkM_len, fnM_len, List.length_range, List.length_range', List.length_take, List.length_drop, List.length_append, List.length_cons, List.length_nil]; omega))) [b__law_free, n__law_free]
  with_reducible refine for_P (OkCase n L) (fun pre => LfI n left L (pre.length * n)) ?_ ?_ ?_
  · exact ⟨ds, [], none, none, by simp, (by intro q hq; simp at hq), rfl, by simp⟩
  · rintro pre x post hx sl M' ⟨ds, ps, v4, v5, h1, h2, rfl, rfl⟩
    have hpp := range_pre hx
    have p1 := hpp.1
    have p2 := hpp.2
    have hb : pre.length * n + n ≤ n * n := by
      have := Nat.mul_le_mul_right n p1
      rw [Nat.succ_mul] at this; exact this
    have hb2 : (pre ++ [x]).length * n = pre.length * n + n := by simp [Nat.succ_mul]
    rw [hb2]
    simp (disch := (first | omega | (simp only [List.length_map, mkM_len, fnM_len, List.length_range, List.length_range', List.length_take, List.length_drop, List.length_append, List.length_cons, List.length_nil]; omega))) [b__law_free_2, next_id]
    with_reducible refine for_goes0 (fun pre2 sl M' => LfI n left L (pre.length * n + pre2.length) sl M' ∧ sl[4]? = some (some (.p (dn x)))) ?_ ?_ ?_
    · exact ⟨⟨ds, ps, _, _, by simpa using h1, h2, rfl, rfl⟩, rfl⟩
    · rintro pre2 y post2 hy sl M' ⟨⟨ds, ps, v4, v5, h1, h2, rfl, rfl⟩, h4⟩
      simp at h4
      subst h4
      have hqq := range'_pre hy
      have q1 := hqq.1
      have q2 := hqq.2.1
      have q3 := hqq.2.2
      by_cases c : left = 0 ∨ (x < left ∧ left ≤ y)
      · by_cases t : tk ds 2 = 1
        · simp (disch := (first | omega | (simp only [List.length_map, mkM_len, fnM_len, List.length_range, List.length_range', List.length_take, List.length_drop, List.length_append, List.length_cons, List.length_nil]; omega))) [b__law_free_1, c, t]
          exact ⟨ds.dropLast, ps ++ [(x, y)], _, _, by simp; omega, ltP_snoc h2 (by omega) (by omega), rfl, by simp⟩
        · simp (disch := (first | omega | (simp only [List.length_map, mkM_len, fnM_len, List.length_range, List.length_range', List.length_take, List.length_drop, List.length_append, List.length_cons, List.length_nil]; omega))) [b__law_free_1, c, t]
          exact ⟨ds.dropLast, ps, _, _, by omega, h2, rfl, rfl⟩
      · simp (disch := (first | omega | (simp only [List.length_map, mkM_len, fnM_len, List.length_range, List.length_range', List.length_take, List.length_drop, List.length_append, List.length_cons, List.length_nil]; omega))) [b__law_free_1, c]
        exact ⟨ds, ps, _, _, by omega, h2, rfl, rfl⟩
    · rintro sl' M' ⟨⟨ds, ps, v4, v5, h1, h2, rfl, rfl⟩, h4⟩
      exact ⟨_, ps, _, _, by simp at h1; omega, h2, rfl, rfl⟩
  · rintro sl' M' ⟨ds, ps, v4, v5, h1, h2, rfl, rfl⟩
    refine ⟨ps, _, ds, h2, by simpa using h1, row_range n, ?_⟩
    simp (disch := (first | omega | (simp only [List.length_map, mkM_len, fnM_len, List.length_range, List.length_range', List.length_take, List.length_drop, List.length_append, List.length_cons, List.length_nil]; omega))) []
    rw [lc_map (fun x => some (dn x)) (fun i _ => by simp), filterMap_some, rb_ok, lstOf_ok (by simp; omega)]
    simp (disch := (first | omega | (simp only [List.length_map, mkM_len, fnM_len, List.length_range, List.length_range', List.length_take, List.length_drop, List.length_append, List.length_cons, List.length_nil]; omega))) [caseD]

def LgI (n : Nat) (row : List Nat) (L : Sto) (l : Nat) (sl : Slots) (M' : Sto) : Prop := ∃ (ds : List Nat) (ps : List (Nat × Nat)) (v4 v5 : Option DV), ps.length ≤ l ∧ ltP n ps ∧ sl = [some (.own 0), some (.p (dn n)), some (.p (.lst (row.map dn))), some (.own (L.length + 1)), v4, v5] ∧ M' = DM ds (L ++ [.live (.lst (ps.map dp))])
theorem run__law_falling (k n : Nat) (ds : List Nat) (L : Sto) (hn : n ≤ 1000) : OkCase n L (run pk.prg pk.fs (k + 3) F__law_falling [.own 0, .p (dn n)] (DM ds L)) := by
  have hnn : n * n ≤ 1000 * 1000 := mul_le hn hn
  rw [run_eq fs__law_falling _ rfl]
  obtain ⟨row, ds1, hr, hrow⟩ := run__law_row k n ds L hn
  have hrl := hr.2.1
  simp (disch := (first | omega | (simp only [List.length_map, mkM_len, fnM_len, List.length_range, List.length_range', List.length_take, List.length_drop, List.length_append, List.length_cons, List.length_nil]; omega))) [b__law_falling, n__law_falling, hrow]
  with_reducible refine for_P (OkCase n L) (fun pre => LgI n row L (pre.length * n)) ?_ ?_ ?_
  · exact ⟨ds1, [], none, none, by simp, (by intro q hq; simp at hq), rfl, by simp⟩
  · rintro pre x post hx sl M' ⟨ds, ps, v4, v5, h1, h2, rfl, rfl⟩
    have hpp := range_pre hx
    have p1 := hpp.1
    have p2 := hpp.2
    have hb : pre.length * n + n ≤ n * n := by
      have := Nat.mul_le_mul_right n p1
      rw [Nat.succ_mul] at this; exact this
    have hb2 : (pre ++ [x]).length * n = pre.length * n + n := by simp [Nat.succ_mul]
    rw [hb2]
    simp (disch := (first | omega | (simp only [List.length_map, mkM_len, fnM_len, List.length_range, List.length_range', List.length_take, List.length_drop, List.length_append, List.length_cons, List.length_nil]; omega))) [b__law_falling_2, next_id]
    with_reducible refine for_goes0 (fun pre2 sl M' => LgI n row L (pre.length * n + pre2.length) sl M' ∧ sl[4]? = some (some (.p (dn x)))) ?_ ?_ ?_
    · exact ⟨⟨ds, ps, _, _, by simpa using h1, h2, rfl, rfl⟩, rfl⟩
    · rintro pre2 y post2 hy sl M' ⟨⟨ds, ps, v4, v5, h1, h2, rfl, rfl⟩, h4⟩
      simp at h4
      subst h4
      have hqq := range'_pre hy
      have q1 := hqq.1
      have q2 := hqq.2.1
      have q3 := hqq.2.2
      have q4 : y < row.length := by omega
      have q5 : x < row.length := by omega
      by_cases c : row[y] < row[x]
      · simp (disch := (first | omega | (simp only [List.length_map, mkM_len, fnM_len, List.length_range, List.length_range', List.length_take, List.length_drop, List.length_append, List.length_cons, List.length_nil]; omega))) [b__law_falling_1, c]
        exact ⟨ds, ps ++ [(x, y)], _, _, by simp; omega, ltP_snoc h2 (by omega) (by omega), rfl, by simp⟩
      · simp (disch := (first | omega | (simp only [List.length_map, mkM_len, fnM_len, List.length_range, List.length_range', List.length_take, List.length_drop, List.length_append, List.length_cons, List.length_nil]; omega))) [b__law_falling_1, c]
        exact ⟨ds, ps, _, _, by omega, h2, rfl, rfl⟩
    · rintro sl' M' ⟨⟨ds, ps, v4, v5, h1, h2, rfl, rfl⟩, h4⟩
      exact ⟨_, ps, _, _, by simp at h1; omega, h2, rfl, rfl⟩
  · rintro sl' M' ⟨ds, ps, v4, v5, h1, h2, rfl, rfl⟩
    refine ⟨ps, _, ds, h2, by simpa using h1, row_range n, ?_⟩
    simp (disch := (first | omega | (simp only [List.length_map, mkM_len, fnM_len, List.length_range, List.length_range', List.length_take, List.length_drop, List.length_append, List.length_cons, List.length_nil]; omega))) []
    rw [lc_map (fun x => some (dn x)) (fun i _ => by simp), filterMap_some, rb_ok, lstOf_ok (by simp; omega)]
    simp (disch := (first | omega | (simp only [List.length_map, mkM_len, fnM_len, List.length_range, List.length_range', List.length_take, List.length_drop, List.length_append, List.length_cons, List.length_nil]; omega))) [caseD]
def OkPlain (most : Nat) (L : Sto) (r : Res RV) : Prop := ∃ n, 4 ≤ n ∧ n ≤ most ∧ OkCase n L r
theorem ltP_line (n : Nat) : ltP n ((List.range (n - 1)).map fun x => (x, x + 1)) := by
  intro q hq
  simp only [List.mem_map, List.mem_range] at hq
  obtain ⟨x, h, rfl⟩ := hq
  exact ⟨by simp, by simp; omega⟩
theorem ltP_ring {n : Nat} (hn : 2 ≤ n) {ps : List (Nat × Nat)} (h : ps.Perm (((List.range (n - 1)).map fun x => (x, x + 1)) ++ [(0, n - 1)])) : ltP n ps := by
  intro q hq
  rcases List.mem_append.mp (h.mem_iff.mp hq) with k | k
  · exact ltP_line n q k
  · simp at k; subst k; exact ⟨by simp; omega, by simp; omega⟩
theorem len_ring {n : Nat} (hn : 2 ≤ n) {ps : List (Nat × Nat)} (h : ps.Perm (((List.range (n - 1)).map fun x => (x, x + 1)) ++ [(0, n - 1)])) : ps.length ≤ n * n := by
  have h1 := h.length_eq
  simp at h1
  have : n * 1 ≤ n * n := Nat.mul_le_mul_left _ (by omega)
  omega
theorem prs_congr_lt {n : Nat} {a b : Nat → Nat → Bool} (h : ∀ x, x < n → ∀ y, y < n → x < y → a x y = b x y) : prs n a = prs n b := by
  have e : ∀ x ∈ List.range n, (((List.range n).filter fun y => a x y && decide (x < y)).map fun y => (x, y)) = (((List.range n).filter fun y => b x y && decide (x < y)).map fun y => (x, y)) := by
    intro x hx
    congr 1
    refine List.filter_congr fun y hy => ?_
    by_cases q : x < y
    · rw [h x (List.mem_range.mp hx) y (List.mem_range.mp hy) q]
    · simp [q]
  unfold prs
  rw [List.flatMap_def, List.flatMap_def, List.map_congr_left e]
theorem adjP_lt {n x y : Nat} {ps : List (Nat × Nat)} (h : ltP n ps) (q : x < y) : adjP ps x y = decide ((x, y) ∈ ps) := by
  rw [← adjP_min h x y, Nat.min_eq_left (by omega), Nat.max_eq_right (by omega)]
def coF (n : Nat) (ps : List (Nat × Nat)) (x : Nat) : List (Nat × Nat) := ((List.range' (x + 1) (n - (x + 1))).filter fun y => !decide ((x, y) ∈ ps)).map fun y => (x, y)
theorem coF_len (n : Nat) (ps : List (Nat × Nat)) (x : Nat) : (coF n ps x).length ≤ n := by
  unfold coF
  rw [List.length_map]
  have := List.length_filter_le (fun y => !decide ((x, y) ∈ ps)) (List.range' (x + 1) (n - (x + 1)))
  rw [List.length_range'] at this
  omega
theorem coF_all {n : Nat} {ps : List (Nat × Nat)} (h : ltP n ps) : (List.range n).flatMap (coF n ps) = prs n (con (adjP ps)) := by
  have := gap_list n fun x y => decide ((x, y) ∈ ps)
  unfold coF
  rw [this]
  refine prs_congr_lt fun x hx y hy q => ?_
  unfold con
  rw [adjP_lt h q]
theorem run__law_contrary (k n : Nat) (ps : List (Nat × Nat)) (M : Sto) (hn : n ≤ 1000) (hp : ltP n ps) : run pk.prg pk.fs (k + 1) F__law_contrary [.p (dn n), .p (.lst (ps.map dp))] M = .ok (.p true (.lst ((prs n (con (adjP ps))).map dp))) M := by
  have hnn : n * n ≤ 1000 * 1000 := mul_le hn hn
  rw [run_eq fs__law_contrary _ rfl]
  simp (disch := (first | omega | (simp only [List.length_map, mkM_len, fnM_len, List.length_range, List.length_range', List.length_take, List.length_drop, List.length_append, List.length_cons, List.length_nil]; omega))) [b__law_contrary, n__law_contrary]
  with_reducible refine for_end (fun pre sl M' => ∃ v3 v4, sl = [some (.p (dn n)), some (.p (.lst (ps.map dp))), some (.own M.length), v3, v4] ∧ M' = M ++ [.live (.lst ((pre.flatMap (coF n ps)).map dp))]) ?_ ?_ ?_
  · exact ⟨none, none, rfl, by simp⟩
  · rintro pre x post hx sl M' ⟨v3, v4, rfl, rfl⟩
    have hpp := range_pre hx
    have p1 := hpp.1
    have p2 := hpp.2
    have hA : (pre.flatMap (coF n ps)).length ≤ n * n := Nat.le_trans (flatMap_len fun c _ => coF_len n ps c) (Nat.mul_le_mul_right _ (by omega))
    simp (disch := (first | omega | (simp only [List.length_map, mkM_len, fnM_len, List.length_range, List.length_range', List.length_take, List.length_drop, List.length_append, List.length_cons, List.length_nil]; omega))) [b__law_contrary_2, next_id]
    with_reducible refine for_goes0 (fun pre2 sl M' => ∃ v4, sl = [some (.p (dn n)), some (.p (.lst (ps.map dp))), some (.own M.length), some (.p (dn x)), v4] ∧ M' = M ++ [.live (.lst ((pre.flatMap (coF n ps) ++ (pre2.filter fun y => !decide ((x, y) ∈ ps)).map fun y => (x, y)).map dp))]) ?_ ?_ ?_
    · exact ⟨v4, rfl, by simp⟩
    · rintro pre2 y post2 hy sl M' ⟨v4, rfl, rfl⟩
      have hqq := range'_pre hy
      have q1 := hqq.1
      have q2 := hqq.2.1
      have hC := List.length_filter_le (fun y => !decide ((x, y) ∈ ps)) pre2
      by_cases c : (x, y) ∈ ps <;> simp (disch := (first | omega | (simp only [List.length_map, mkM_len, fnM_len, List.length_range, List.length_range', List.length_take, List.length_drop, List.length_append, List.length_cons, List.length_nil]; omega))) [b__law_contrary_1, c, List.filter_cons]
    · rintro sl' M' ⟨v4, rfl, rfl⟩
      simp [coF]
  · rintro sl' M' ⟨v3, v4, rfl, rfl⟩
    rw [coF_all hp]
    simp
    rw [end_own (d := .lst ((prs n (con (adjP ps))).map dp)) (by omega) (by simp)]
    simp
/-! ### the least four -/
def lc4 (ps : List (Nat × Nat)) (bw : Bool) (a b c d : Nat) : Bool := (bw && (adjP ps a b && (adjP ps b c && adjP ps c d))) || (!bw && !(adjP ps a c || (adjP ps b d || adjP ps a d)))
def LG3 (ps : List (Nat × Nat)) (bw : Bool) (a b c d : Nat) : Option RV := if lc4 ps bw a b c d = true then some (.p false (dq (a, b, c, d))) else none
def LG2 (n : Nat) (ps : List (Nat × Nat)) (row : List Nat) (bw : Bool) (a b c : Nat) : Option RV := ((List.range n).filter fun x => !decide (x = a) && (!decide (x = b) && (!decide (x = c) && decide (pos row x < pos row c)))).findSome? (LG3 ps bw a b c)
def LG1 (n : Nat) (ps : List (Nat × Nat)) (row : List Nat) (bw : Bool) (a b : Nat) : Option RV := ((List.range n).filter fun x => !decide (x = a) && !decide (x = b)).findSome? (LG2 n ps row bw a b)
def LG0 (n : Nat) (ps : List (Nat × Nat)) (row : List Nat) (bw : Bool) (a : Nat) : Option RV := ((List.range n).filter fun x => !decide (x = a) && decide (pos row a < pos row x)).findSome? (LG1 n ps row bw a)
/-- what the law looks for -/
def pl4 (ps : List (Nat × Nat)) (row : List Nat) (bw : Bool) (a b c d : Nat) : Bool := (!decide (b = a) && decide (pos row a < pos row b)) && ((!decide (c = a) && !decide (c = b)) && ((!decide (d = a) && (!decide (d = b) && (!decide (d = c) && decide (pos row d < pos row c)))) && lc4 ps bw a b c d))
theorem findSome_filter {α β : Type} (p : α → Bool) (g : α → Option β) (l : List α) : (l.filter p).findSome? g = l.findSome? fun x => if p x = true then g x else none := by
  induction l with
  | nil => rfl
  | cons x xs ih => cases q : p x <;> simp [List.filter_cons, List.findSome?_cons, q, ih]
theorem findSome_congr {α β : Type} {f g : α → Option β} {l : List α} (h : ∀ x ∈ l, f x = g x) : l.findSome? f = l.findSome? g := by
  induction l with
  | nil => rfl
  | cons x xs ih => rw [List.findSome?_cons, List.findSome?_cons, h x (by simp), ih fun y hy => h y (by simp [hy])]
theorem findSome_if {α β : Type} (b : Bool) (g : α → Option β) (l : List α) : (if b = true then l.findSome? g else none) = l.findSome? fun x => if b = true then g x else none := by
  cases b
  · symm; simp [List.findSome?_eq_none_iff]
  · simp
theorem LG0_eq (n : Nat) (ps : List (Nat × Nat)) (row : List Nat) (bw : Bool) : (List.range n).findSome? (LG0 n ps row bw) = (first4 n (pl4 ps row bw)).map fun r => .p false (dq r) := by
  unfold first4
  rw [List.map_findSome?]
  refine findSome_congr fun a _ => ?_
  unfold LG0
  rw [findSome_filter]
  simp only [Function.comp]
  rw [List.map_findSome?]
  refine findSome_congr fun b _ => ?_
  unfold LG1
  rw [findSome_filter, findSome_if]
  simp only [Function.comp]
  rw [List.map_findSome?]
  refine findSome_congr fun c _ => ?_
  unfold LG2
  rw [findSome_filter, findSome_if, findSome_if]
  simp only [Function.comp]
  rw [List.map_findSome?]
  refine findSome_congr fun d _ => ?_
  unfold LG3 pl4
  simp only [Function.comp]
  cases (!decide (b = a) && decide (pos row a < pos row b)) <;> cases (!decide (c = a) && !decide (c = b)) <;> cases (!decide (d = a) && (!decide (d = b) && (!decide (d = c) && decide (pos row d < pos row c)))) <;> cases lc4 ps bw a b c d <;> rfl
noncomputable def sortP (ps : List (Nat × Nat)) : List (Nat × Nat) := Classical.choose (sort_dp ps)
theorem sortP_perm (ps : List (Nat × Nat)) : (sortP ps).Perm ps := (Classical.choose_spec (sort_dp ps)).1
theorem bi_sortP (ps : List (Nat × Nat)) : biD ("sorted" : Str) [.lst (ps.map dp)] = some (.p true (.lst ((sortP ps).map dp))) := (Classical.choose_spec (sort_dp ps)).2
@[simp] theorem bi_sortP1 (ps : List (Nat × Nat)) : biD ("sorted" : Str) [.lst (ps.map dp)] = some (.p true (.lst ((sortP ps).map dp))) := bi_sortP ps
@[simp] theorem bi_sortP2 (ps qs : List (Nat × Nat)) : biD ("sorted" : Str) [.lst (ps.map dp ++ qs.map dp)] = some (.p true (.lst ((sortP (ps ++ qs)).map dp))) := by rw [← List.map_append, bi_sortP]
def dl (w : List (Nat × Nat)) : D := .lst (w.map dp)
theorem compGo_sub {α : Type} {f : D → Sto → Res (Option D)} {e : α → D} {L : Sto} (h : ∀ x ds, ∃ ds', f (e x) (DM ds L) = .ok (some (e x)) (DM ds' L) ∨ f (e x) (DM ds L) = .ok none (DM ds' L)) : ∀ (xs : List α) (ds : List Nat), ∃ (ys : List α) (ds' : List Nat), ys.Sublist xs ∧ compGo f (xs.map e) (DM ds L) = .ok (ys.map e) (DM ds' L)
  | [], ds => ⟨[], ds, List.Sublist.refl _, rfl⟩
  | x :: xs, ds => by
    obtain ⟨d1, h1⟩ := h x ds
    obtain ⟨ys, d2, h2, h3⟩ := compGo_sub h xs d1
    rcases h1 with h1 | h1
    · refine ⟨x :: ys, d2, h2.cons_cons x, ?_⟩
      show (f (e x) (DM ds L)).bind _ = _
      rw [h1, rb_ok, h3]; rfl
    · refine ⟨ys, d2, h2.cons x, ?_⟩
      show (f (e x) (DM ds L)).bind _ = _
      rw [h1, rb_ok, h3]; rfl
def okW (fx op w : List (Nat × Nat)) : Prop := (∀ q ∈ w, q ∈ fx ∨ q ∈ op) ∧ ∀ q ∈ fx, q ∈ w
theorem okW_sort {fx op r : List (Nat × Nat)} (h : ∀ q ∈ r, q ∈ op) : okW fx op (sortP (fx ++ r)) := by
  have p := sortP_perm (fx ++ r)
  refine ⟨fun q hq => ?_, fun q hq => p.mem_iff.mpr (List.mem_append_left _ hq)⟩
  rcases List.mem_append.mp (p.mem_iff.mp hq) with z | z
  · exact Or.inl z
  · exact Or.inr (h q z)
def Sub (r op : List (Nat × Nat)) : Prop := ∀ q ∈ r, q ∈ op
def OkWebs (fx op : List (Nat × Nat)) (L : Sto) (r : Res RV) : Prop := ∃ (webs : List (List (Nat × Nat))) (ds' : List Nat), (∀ w ∈ webs, okW fx op w) ∧ r = .ok (.p true (.lst (webs.map dl))) (DM ds' L)
/-! ### the plain law of k92 -/
theorem find_findSome {α : Type} (p : α → Bool) (l : List α) : l.find? p = l.findSome? fun x => if p x = true then some x else none := by
  induction l with
  | nil => rfl
  | cons x xs ih => cases q : p x <;> simp [List.find?_cons, List.findSome?_cons, q, ih]
theorem flatMap_find {α β : Type} (g : α → List β) (p : β → Bool) (l : List α) : (l.flatMap g).find? p = l.findSome? fun x => (g x).find? p := by
  induction l with
  | nil => rfl
  | cons x xs ih => rw [List.flatMap_cons, List.find?_append, List.findSome?_cons, ih]; cases (g x).find? p <;> rfl
def qq (s m : Nat → Nat → Bool) (f : Nat → Nat) (x b c d : Nat) : Bool := (s x b || m x b) && (((s b c || m b c) && !s x c) && (!decide (c = x) && (((s c d || m c d) && !s b d && !s x d) && ((decide (x < d) && !decide (d = b)) && led f (x, b, c, d)))))
theorem peC_find (n : Nat) (s m : Nat → Nat → Bool) (f : Nat → Nat) (x b c : Nat) : (peC n s m x b c).find? (led f) = (List.range n).findSome? fun d => if (!decide (c = x) && (((s c d || m c d) && !s b d && !s x d) && ((decide (x < d) && !decide (d = b)) && led f (x, b, c, d)))) = true then some (x, b, c, d) else none := by
  unfold peC
  by_cases e : c = x
  · simp [e]
    symm; simp [List.findSome?_eq_none_iff]
  · rw [if_neg e, find_findSome, List.findSome?_map, findSome_filter, findSome_filter]
    refine findSome_congr fun d _ => ?_
    simp only [Function.comp]
    rw [show decide (c = x) = false by simpa using e]
    cases ((s c d || m c d) && !s b d && !s x d) <;> cases (decide (x < d) && !decide (d = b)) <;> cases led f (x, b, c, d) <;> rfl
theorem p4_find (n : Nat) (s m : Nat → Nat → Bool) (f : Nat → Nat) : (p4 n s m).find? (led f) = first4 n (qq s m f) := by
  unfold p4 first4
  rw [flatMap_find]
  refine findSome_congr fun x _ => ?_
  unfold pe
  rw [flatMap_find, findSome_filter]
  refine findSome_congr fun b _ => ?_
  unfold peB
  rw [flatMap_find, findSome_filter, findSome_if]
  refine findSome_congr fun c _ => ?_
  rw [peC_find, findSome_if, findSome_if]
  refine findSome_congr fun d _ => ?_
  unfold qq
  cases (s x b || m x b) <;> cases ((s b c || m b c) && !s x c) <;> rfl
theorem adjP_comm (ps : List (Nat × Nat)) (x y : Nat) : adjP ps x y = adjP ps y x := by unfold adjP; rw [Bool.or_comm]
/-- what pl4 says -/
theorem pl4_iff {ps : List (Nat × Nat)} {row : List Nat} {bw : Bool} {a b c d : Nat} : pl4 ps row bw a b c d = true ↔ b ≠ a ∧ pos row a < pos row b ∧ c ≠ a ∧ c ≠ b ∧ d ≠ a ∧ d ≠ b ∧ d ≠ c ∧ pos row d < pos row c ∧ lc4 ps bw a b c d = true := by
  unfold pl4
  simp only [Bool.and_eq_true, Bool.not_eq_true', decide_eq_false_iff_not, decide_eq_true_eq]
  constructor
  · rintro ⟨⟨h1, h2⟩, ⟨h3, h4⟩, ⟨h5, h6, h7, h8⟩, h9⟩; exact ⟨h1, h2, h3, h4, h5, h6, h7, h8, h9⟩
  · rintro ⟨h1, h2, h3, h4, h5, h6, h7, h8, h9⟩; exact ⟨⟨h1, h2⟩, ⟨h3, h4⟩, ⟨h5, h6, h7, h8⟩, h9⟩
theorem lc4_t {ps : List (Nat × Nat)} {a b c d : Nat} : lc4 ps true a b c d = true ↔ adjP ps a b = true ∧ adjP ps b c = true ∧ adjP ps c d = true := by
  unfold lc4; simp
theorem lc4_f {ps : List (Nat × Nat)} {a b c d : Nat} : lc4 ps false a b c d = true ↔ adjP ps a c = false ∧ adjP ps b d = false ∧ adjP ps a d = false := by
  unfold lc4; simp
theorem pl4_sym {ps : List (Nat × Nat)} {row : List Nat} {bw : Bool} {a b c d : Nat} (h : pl4 ps row bw a b c d = true) : pl4 ps row bw d c b a = true ∧ a ≠ d := by
  rw [pl4_iff] at h ⊢
  obtain ⟨h1, h2, h3, h4, h5, h6, h7, h8, h9⟩ := h
  refine ⟨⟨fun z => h7 z.symm, h8, fun z => h6 z.symm, fun z => h4 z.symm, fun z => h5 z.symm, fun z => h3 z.symm, fun z => h1 z.symm, h2, ?_⟩, fun z => h5 z.symm⟩
  cases bw
  · rw [lc4_f] at h9 ⊢
    rw [adjP_comm ps d b, adjP_comm ps c a, adjP_comm ps d a]
    exact ⟨h9.2.1, h9.1, h9.2.2⟩
  · rw [lc4_t] at h9 ⊢
    rw [adjP_comm ps d c, adjP_comm ps c b, adjP_comm ps b a]
    exact ⟨h9.2.2, h9.2.1, h9.1⟩
theorem led_iff {f : Nat → Nat} {a b c d : Nat} : led f (a, b, c, d) = true ↔ f a < f b ∧ f d < f c := by
  unfold led; simp
theorem told_below {n : Nat} {ps : List (Nat × Nat)} {row : List Nat} (hp : ltP n ps) : (p4 n (fun _ _ => false) (adjP ps)).find? (led (pos row)) = first4 n (pl4 ps row true) := by
  rw [p4_find]
  have S := sym_adjP (ltP_ok hp)
  refine first4_half (fun a _ b _ c _ d _ h => pl4_sym h) fun a ha b hb c hc d hd => ?_
  rw [Bool.eq_iff_iff, Bool.and_eq_true, pl4_iff, lc4_t]
  unfold qq
  simp only [Bool.false_or, Bool.and_eq_true, Bool.not_eq_true', decide_eq_false_iff_not, decide_eq_true_eq, led_iff, Bool.not_false, and_true]
  constructor
  · rintro ⟨h1, h2, h3, h4, ⟨h5, h6⟩, h7, h8⟩
    refine ⟨⟨?_, h7, h3, ?_, by omega, h6, ?_, h8, h1, h2, h4⟩, h5⟩
    · rintro rfl; rw [S.2 _ ha] at h1; cases h1
    · rintro rfl; rw [S.2 _ hb] at h2; cases h2
    · rintro rfl; rw [S.2 _ hc] at h4; cases h4
  · rintro ⟨⟨h1, h2, h3, h4, h5, h6, h7, h8, h9, h10, h11⟩, h12⟩
    exact ⟨h9, h10, h3, h11, ⟨h12, h6⟩, h2, h8⟩
theorem can_iff {n : Nat} {a : Nat → Nat → Bool} (S : Sym n a) {x y : Nat} (hx : x < n) : (a x y || con a x y) = true ↔ x ≠ y := by
  unfold con
  constructor
  · rintro h rfl
    rw [S.2 _ hx] at h; simp at h
  · intro h
    cases a x y <;> simp [h]
theorem told_above {n : Nat} {ps : List (Nat × Nat)} {row : List Nat} (hp : ltP n ps) : (p4 n (adjP ps) (con (adjP ps))).find? (led (pos row)) = first4 n (pl4 ps row false) := by
  rw [p4_find]
  have S := sym_adjP (ltP_ok hp)
  refine first4_half (fun a _ b _ c _ d _ h => pl4_sym h) fun a ha b hb c hc d hd => ?_
  rw [Bool.eq_iff_iff, Bool.and_eq_true, pl4_iff, lc4_f]
  unfold qq
  simp only [Bool.and_eq_true, can_iff S ha, can_iff S hb, can_iff S hc, Bool.not_eq_true', decide_eq_false_iff_not, decide_eq_true_eq, led_iff]
  constructor
  · rintro ⟨h1, ⟨h2, h2'⟩, h3, ⟨⟨h4, h4'⟩, h4''⟩, ⟨h5, h6⟩, h7, h8⟩
    exact ⟨⟨fun z => h1 z.symm, h7, h3, fun z => h2 z.symm, by omega, h6, fun z => h4 z.symm, h8, h2', h4', h4''⟩, h5⟩
  · rintro ⟨⟨h1, h2, h3, h4, h5, h6, h7, h8, h9, h10, h11⟩, h12⟩
    exact ⟨fun z => h1 z.symm, ⟨fun z => h4 z.symm, h9⟩, h3, ⟨⟨fun z => h7 z.symm, h10⟩, h11⟩, ⟨h12, h6⟩, h2, h8⟩
theorem mem_r4 {n : Nat} {a : Nat → Nat → Bool} {r : Nat × Nat × Nat × Nat} : r ∈ r4 n a ↔ r.1 < n ∧ r.2.1 < n ∧ r.2.2.1 < n ∧ r.2.2.2 < n ∧ a r.1 r.2.1 = true ∧ a r.2.1 r.2.2.1 = true ∧ a r.1 r.2.2.1 = false ∧ r.2.2.1 ≠ r.1 ∧ a r.2.2.1 r.2.2.2 = true ∧ a r.2.1 r.2.2.2 = false ∧ a r.1 r.2.2.2 = false ∧ r.2.2.2 ≠ r.2.1 ∧ r.1 < r.2.2.2 := by
  unfold r4
  simp only [List.mem_flatMap, List.mem_filter, List.mem_range, mem_rf, decide_eq_true_eq, Bool.and_true, Bool.and_eq_true, Bool.not_eq_true']
  constructor
  · rintro ⟨x, h1, ⟨rfl, h2, h3, h4, h5, ⟨h6, h7⟩, h8, ⟨⟨h9, h10⟩, h11⟩, h12⟩, h13⟩
    exact ⟨h1, h2, h3, h4, h5, h6, h7, h8, h9, h10, h11, h12, h13⟩
  · rintro ⟨h1, h2, h3, h4, h5, h6, h7, h8, h9, h10, h11, h12, h13⟩
    exact ⟨_, h1, ⟨rfl, h2, h3, h4, h5, ⟨h6, h7⟩, h8, ⟨⟨h9, h10⟩, h11⟩, h12⟩, h13⟩
theorem fb_none {n : Nat} {a : Nat → Nat → Bool} {row : List Nat} : fb n a row = none ↔ ∀ r ∈ r4 n a, led (pos row) r = false := by
  unfold fb; rw [List.find?_eq_none]; simp
theorem right_all {n : Nat} {ps w : List (Nat × Nat)} {row : List Nat} {bw : Bool} (hw : ltP n w) (h : first4 n (pl4 ps row bw) = none)
    (h1 : bw = true → ∀ x y, adjP w x y = true → adjP ps x y = true) (h2 : bw = false → ∀ x y, adjP w x y = false → adjP ps x y = false) : fb n (adjP w) row = none := by
  have S := sym_adjP (ltP_ok hw)
  rw [fb_none]
  rintro ⟨a, b, c, d⟩ hr
  obtain ⟨k1, k2, k3, k4, k5, k6, k7, k8, k9, k10, k11, k12, k13⟩ := mem_r4.mp hr
  dsimp only at k1 k2 k3 k4 k5 k6 k7 k8 k9 k10 k11 k12 k13
  rw [first4_none] at h
  have := h a k1 b k2 c k3 d k4
  cases q : led (pos row) (a, b, c, d) with
  | false => rfl
  | true =>
    rw [led_iff] at q
    exfalso
    have : pl4 ps row bw a b c d = true := by
      rw [pl4_iff]
      refine ⟨?_, q.1, k8, ?_, by omega, k12, ?_, q.2, ?_⟩
      · rintro rfl; rw [S.2 _ k1] at k5; cases k5
      · rintro rfl; rw [S.2 _ k2] at k6; cases k6
      · rintro rfl; rw [S.2 _ k3] at k9; cases k9
      · cases bw
        · rw [lc4_f]; exact ⟨h2 rfl _ _ k7, h2 rfl _ _ k10, h2 rfl _ _ k11⟩
        · rw [lc4_t]; exact ⟨h1 rfl _ _ k5, h1 rfl _ _ k6, h1 rfl _ _ k9⟩
    simp_all
theorem not_right {n : Nat} {a : Nat → Nat → Bool} {row : List Nat} {x b c d : Nat} (S : Sym n a) (hx : x < n) (hb : b < n) (hc : c < n) (hd : d < n) (h1 : a x b = true) (h2 : a b c = true) (h3 : a c d = true) (h4 : a x c = false) (h5 : a b d = false) (h6 : a x d = false)
    (n1 : c ≠ x) (n2 : d ≠ b) (n3 : x ≠ d) (l1 : pos row x < pos row b) (l2 : pos row d < pos row c) : fb n a row ≠ none := by
  intro h
  rw [fb_none] at h
  rcases Nat.lt_or_gt_of_ne n3 with q | q
  · have := h (x, b, c, d) (mem_r4.mpr ⟨hx, hb, hc, hd, h1, h2, h4, n1, h3, h5, h6, n2, q⟩)
    rw [led_iff.mpr ⟨l1, l2⟩] at this; cases this
  · have := h (d, c, b, x) (mem_r4.mpr ⟨hd, hc, hb, hx, by rw [S.1 _ hd _ hc]; exact h3, by rw [S.1 _ hc _ hb]; exact h2, by rw [S.1 _ hd _ hb]; exact h5, fun z => n2 z.symm, by rw [S.1 _ hb _ hx]; exact h1, by rw [S.1 _ hc _ hx]; exact h4, by rw [S.1 _ hd _ hx]; exact h6, fun z => n1 z.symm, q⟩)
    rw [led_iff.mpr ⟨l2, l1⟩] at this; cases this
def pr (x y : Nat) : Nat × Nat := (min x y, max x y)
theorem pr_lt {n x y : Nat} (hx : x < n) (hy : y < n) (h : x ≠ y) : (pr x y).1 < (pr x y).2 ∧ (pr x y).2 < n := by unfold pr; dsimp only; omega
theorem pr_eq {a b x y : Nat} : ((x, y) = pr a b ∨ (y, x) = pr a b) ↔ (x = a ∧ y = b ∨ x = b ∧ y = a) := by
  unfold pr
  simp only [Prod.mk.injEq]
  rcases Nat.le_total a b with h | h
  · rw [Nat.min_eq_left h, Nat.max_eq_right h]
    constructor
    · rintro (⟨h1, h2⟩ | ⟨h1, h2⟩)
      · exact Or.inl ⟨h1, h2⟩
      · exact Or.inr ⟨h2, h1⟩
    · rintro (⟨h1, h2⟩ | ⟨h1, h2⟩)
      · exact Or.inl ⟨h1, h2⟩
      · exact Or.inr ⟨h2, h1⟩
  · rw [Nat.min_eq_right h, Nat.max_eq_left h]
    constructor
    · rintro (⟨h1, h2⟩ | ⟨h1, h2⟩)
      · exact Or.inr ⟨h1, h2⟩
      · exact Or.inl ⟨h2, h1⟩
    · rintro (⟨h1, h2⟩ | ⟨h1, h2⟩)
      · exact Or.inr ⟨h2, h1⟩
      · exact Or.inl ⟨h1, h2⟩
theorem adj3 {a b c d e f x y : Nat} : adjP [pr a b, pr c d, pr e f] x y = true ↔ (x = a ∧ y = b ∨ x = b ∧ y = a) ∨ (x = c ∧ y = d ∨ x = d ∧ y = c) ∨ (x = e ∧ y = f ∨ x = f ∧ y = e) := by
  unfold adjP
  simp only [Bool.or_eq_true, decide_eq_true_eq, List.mem_cons, List.not_mem_nil, or_false]
  rw [← pr_eq, ← pr_eq, ← pr_eq]
  constructor
  · rintro ((h | h | h) | (h | h | h))
    · exact Or.inl (Or.inl h)
    · exact Or.inr (Or.inl (Or.inl h))
    · exact Or.inr (Or.inr (Or.inl h))
    · exact Or.inl (Or.inr h)
    · exact Or.inr (Or.inl (Or.inr h))
    · exact Or.inr (Or.inr (Or.inr h))
  · rintro ((h | h) | (h | h) | (h | h))
    · exact Or.inl (Or.inl h)
    · exact Or.inr (Or.inl h)
    · exact Or.inl (Or.inr (Or.inl h))
    · exact Or.inr (Or.inr (Or.inl h))
    · exact Or.inl (Or.inr (Or.inr h))
    · exact Or.inr (Or.inr (Or.inr h))
theorem lt3 {n a b c d e f : Nat} (ha : a < n) (hb : b < n) (hc : c < n) (hd : d < n) (he : e < n) (hf : f < n) (h1 : a ≠ b) (h2 : c ≠ d) (h3 : e ≠ f) : ltP n [pr a b, pr c d, pr e f] := by
  intro q hq
  simp only [List.mem_cons, List.not_mem_nil, or_false] at hq
  rcases hq with rfl | rfl | rfl
  · exact pr_lt ha hb h1
  · exact pr_lt hc hd h2
  · exact pr_lt he hf h3
theorem ltP_prs (n : Nat) (a : Nat → Nat → Bool) : ltP n (prs n a) := by
  rintro ⟨x, y⟩ h
  obtain ⟨h1, h2, h3, h4⟩ := mem_prs.mp h
  exact ⟨h4, h2⟩
theorem four_below {n : Nat} {ps : List (Nat × Nat)} {row : List Nat} {r : Nat × Nat × Nat × Nat} (h : first4 n (pl4 ps row true) = some r) : ltP n [pr r.1 r.2.1, pr r.2.1 r.2.2.1, pr r.2.2.1 r.2.2.2] ∧ fb n (adjP [pr r.1 r.2.1, pr r.2.1 r.2.2.1, pr r.2.2.1 r.2.2.2]) row ≠ none := by
  obtain ⟨a, b, c, d⟩ := r
  obtain ⟨h1, h2, h3, h4, h5⟩ := first4_some h
  dsimp only at *
  obtain ⟨k1, k2, k3, k4, k5, k6, k7, k8, k9⟩ := pl4_iff.mp h5
  have L := lt3 h1 h2 h2 h3 h3 h4 (fun z => k1 z.symm) (fun z => k4 z.symm) (fun z => k7 z.symm)
  refine ⟨L, not_right (sym_adjP (ltP_ok L)) h1 h2 h3 h4 (adj3.mpr (by omega)) (adj3.mpr (by omega)) (adj3.mpr (by omega)) (Bool.eq_false_iff.mpr fun z => ?_) (Bool.eq_false_iff.mpr fun z => ?_) (Bool.eq_false_iff.mpr fun z => ?_) k3 k6 (fun z => k5 z.symm) k2 k8⟩
  all_goals (rw [adj3] at z; omega)
theorem four_above {n : Nat} {ps : List (Nat × Nat)} {row : List Nat} {r : Nat × Nat × Nat × Nat} (h : first4 n (pl4 ps row false) = some r) : ltP n [pr r.1 r.2.2.1, pr r.2.1 r.2.2.2, pr r.1 r.2.2.2] ∧ fb n (adjP (prs n (con (adjP [pr r.1 r.2.2.1, pr r.2.1 r.2.2.2, pr r.1 r.2.2.2])))) row ≠ none := by
  obtain ⟨a, b, c, d⟩ := r
  obtain ⟨h1, h2, h3, h4, h5⟩ := first4_some h
  dsimp only at *
  obtain ⟨k1, k2, k3, k4, k5, k6, k7, k8, k9⟩ := pl4_iff.mp h5
  have L := lt3 h1 h3 h2 h4 h1 h4 (fun z => k3 z.symm) (fun z => k6 z.symm) (fun z => k5 z.symm)
  have S := sym_con (sym_adjP (ltP_ok L))
  have e : ∀ x, x < n → ∀ y, y < n → (adjP (prs n (con (adjP [pr a c, pr b d, pr a d]))) x y = true ↔ x ≠ y ∧ ¬ ((x = a ∧ y = c ∨ x = c ∧ y = a) ∨ (x = b ∧ y = d ∨ x = d ∧ y = b) ∨ (x = a ∧ y = d ∨ x = d ∧ y = a))) := by
    intro x hx y hy
    rw [adjP_prs S x hx y hy]
    unfold con
    rw [Bool.and_eq_true, Bool.not_eq_true', Bool.not_eq_true', decide_eq_false_iff_not, ← Bool.not_eq_true, adj3]
  have P := ltP_prs n (con (adjP [pr a c, pr b d, pr a d]))
  refine ⟨L, not_right (sym_adjP (ltP_ok P)) h1 h2 h3 h4 ((e _ h1 _ h2).mpr (by omega)) ((e _ h2 _ h3).mpr (by omega)) ((e _ h3 _ h4).mpr (by omega)) (Bool.eq_false_iff.mpr fun z => ?_) (Bool.eq_false_iff.mpr fun z => ?_) (Bool.eq_false_iff.mpr fun z => ?_) k3 k6 (fun z => k5 z.symm) k2 k8⟩
  · rw [e _ h1 _ h3] at z; omega
  · rw [e _ h2 _ h4] at z; omega
  · rw [e _ h1 _ h4] at z; omega

section
variable (P : Prg) (c : Orc) (sl : Slots) (M : Sto)
def rzR (P : Prg) (xc : Nat) (sl : Slots) (as : List RV) (M1 : Sto) : SRes := match frzs as M1, P.xcs[xc]? with
    | some (ds, M2), some i => if i.fs.length = ds.length ∧ ds.all fmtD = true then .exc ⟨xc, (i.fs.zip ds).reverse⟩ sl M2 else .bad
    | _, _ => .bad
@[simp] theorem s_raise (xc : Nat) (es : Es) : execS P c (.raise xc es) sl M = (evalEs P c es sl M).st sl (rzR P xc sl) := (rfl)
theorem fmt_dn {a : Nat} (h : a < 18446744073709551616) : fmtD (dn a) = true := by
  unfold fmtD dn; simp only [Bool.and_eq_true, decide_eq_true_eq]; omega
def tryR (r : SRes) (k : Ex → Slots → Sto → SRes) : SRes := match r with
  | .exc x sl1 M1 => k x sl1 M1
  | r => r
@[simp] theorem s_try (body : Ss) (hs : Hs) : execS P c (.try_ body hs) sl M = tryR (execSs P c body sl M) (execHs P c hs) := by
  show (match execSs P c body sl M with | .exc x sl1 M1 => execHs P c hs x sl1 M1 | r => r) = _
  cases execSs P c body sl M <;> rfl
@[simp] theorem tryR_exc (x : Ex) (k : Ex → Slots → Sto → SRes) : tryR (.exc x sl M) k = k x sl M := (rfl)
@[simp] theorem tryR_nx (k : Ex → Slots → Sto → SRes) : tryR (.nx sl M) k = .nx sl M := (rfl)
def hEnd (i : Nat) (r : SRes) : SRes := match r with
        | .nx sl1 M1 => .nx (noX (sl1.set i none)) M1
        | .bk sl1 M1 => .bk (noX (sl1.set i none)) M1
        | .ct sl1 M1 => .ct (noX (sl1.set i none)) M1
        | .rt a M1 => .rt a M1
        | _ => .bad
def hs1 (o : Option Bool) (a b : SRes) : SRes := match o with
  | some true => a
  | some false => b
  | none => .bad
@[simp] theorem hs_cons (xc i : Nat) (body : Ss) (r : Hs) (x : Ex) : execHs P c (.cons xc (some i) body r) x sl M = hs1 (exmD P x.c xc) (hEnd i (execSs P c body ((noX sl).set i (some (.exc x))) M)) (execHs P c r x sl M) := by
  show (match exmD P x.c xc with | some true => _ | some false => _ | none => _) = _
  cases exmD P x.c xc with
  | none => rfl
  | some b => cases b <;> rfl
@[simp] theorem hs1_t (a b : SRes) : hs1 (some true) a b = a := (rfl)
@[simp] theorem hEnd_nx (i : Nat) : hEnd i (.nx sl M) = .nx (noX (sl.set i none)) M := (rfl)
@[simp] theorem noX_nil : noX [] = [] := (rfl)
@[simp] theorem noX_p (d : D) (r : Slots) : noX (some (.p d) :: r) = some (.p d) :: noX r := (rfl)
@[simp] theorem noX_own (k : Nat) (r : Slots) : noX (some (.own k) :: r) = some (.own k) :: noX r := (rfl)
@[simp] theorem noX_none (r : Slots) : noX (none :: r) = none :: noX r := (rfl)
@[simp] theorem noX_exc (x : Ex) (r : Slots) : noX (some (.exc x) :: r) = none :: noX r := (rfl)
def eflR (P : Prg) (f : Str) (v : Option (Option DV)) (M : Sto) : Res RV := match v with
    | some (some (.exc x)) => (match P.xcs[x.c]? with
      | some i => if i.fs.contains f then ofO ((x.fs.lookup f).map (.p false)) M else .bad
      | none => .bad)
    | _ => .bad
@[simp] theorem e_efld (i : Nat) (f : Str) : evalE P c (.efld i f) sl M = eflR P f sl[i]? M := (rfl)
def lpN (r : SRes) (k : Slots → Sto → SRes) : SRes := match r with | .nx sl1 M1 => k sl1 M1 | .ct sl1 M1 => k sl1 M1 | .bk sl1 M1 => .nx sl1 M1 | r => r
theorem forGo_c (f : D → Slots → Sto → SRes) (x : D) (xs : List D) : forGo f (x :: xs) sl M = lpN (f x sl M) (forGo f xs) := by
  rw [forGo_cons]; unfold lpN; cases f x sl M <;> rfl
theorem forGo_n (f : D → Slots → Sto → SRes) : forGo f [] sl M = .nx sl M := (rfl)
@[simp] theorem lpN_nx (k : Slots → Sto → SRes) : lpN (.nx sl M) k = k sl M := (rfl)
@[simp] theorem lpN_ct (k : Slots → Sto → SRes) : lpN (.ct sl M) k = k sl M := (rfl)
@[simp] theorem lpN_rt (a : RV) (k : Slots → Sto → SRes) : lpN (.rt a M) k = .rt a M := (rfl)
@[simp] theorem lpN_exc (x : Ex) (k : Slots → Sto → SRes) : lpN (.exc x sl M) k = .exc x sl M := (rfl)
end
theorem forGo_app {α : Type} {f : D → Slots → Sto → SRes} {e : α → D} {ys : List D} (I : List α → Slots → Sto → Prop) (all : List α) : ∀ (xs pre : List α) {sl : Slots} {M : Sto}, all = pre ++ xs → I pre sl M →
    (∀ pre x post, all = pre ++ x :: post → ∀ sl M, I pre sl M → Goes (f (e x) sl M) (I (pre ++ [x]))) →
    ∃ sl' M', forGo f (xs.map e ++ ys) sl M = forGo f ys sl' M' ∧ I all sl' M'
  | [], pre, sl, M, ha, h, _ => ⟨sl, M, rfl, by rw [ha, List.append_nil]; exact h⟩
  | x :: xs, pre, sl, M, ha, h, H => by
    have h1 := H pre x xs ha sl M h
    have ha2 : all = (pre ++ [x]) ++ xs := by rw [ha]; simp
    rw [List.map_cons, List.cons_append, forGo_cons]
    cases q : f (e x) sl M with
    | nx sl1 M1 => rw [q] at h1; exact forGo_app I all xs (pre ++ [x]) ha2 h1 H
    | ct sl1 M1 => rw [q] at h1; exact forGo_app I all xs (pre ++ [x]) ha2 h1 H
    | bk sl1 M1 => rw [q] at h1; exact h1.elim
    | rt a M1 => rw [q] at h1; exact h1.elim
    | exc a b c => rw [q] at h1; exact h1.elim
    | bad => rw [q] at h1; exact h1.elim
/-- a row that is no order: the first place that is wrong -/
def CrI (n : Nat) (s : D) (M : Sto) (pre : List (Nat × Nat)) (sl : Slots) (M' : Sto) : Prop := ∃ v3 v4, sl = [some (.p (dn n)), some (.p s), some (.p (dn (maskOf n fun y => decide (y ∈ pre.map (·.1))))), v3, v4] ∧ M' = M
/-! ### refusals -/
@[simp] theorem un_neg (a : Nat) : unD .USub (dn a) = some (.int (-(a : Int))) := (rfl)
@[simp] theorem oR_dn (f : Bool) (a : Nat) (M : Sto) : oR (.p f (dn a)) M = .ok (some (a : Int)) M := (rfl)
theorem cut_init (xs : List D) (h : 0 < xs.length) : cutD xs none (some (-1)) = xs.dropLast := by
  unfold cutD HT.sIx
  dsimp only
  rw [if_pos (by omega), List.dropLast_eq_take]
  simp only [List.drop_zero, Nat.sub_zero]
  congr 1
  omega
theorem cut_tail (xs : List D) (h : 0 < xs.length) : cutD xs (some 1) none = xs.drop 1 := by
  unfold cutD HT.sIx
  dsimp only
  rw [if_neg (by omega)]
  have : min (1 : Int).toNat xs.length = 1 := by
    show min 1 xs.length = 1
    omega
  rw [this]
  exact List.take_of_length_le (by simp)
@[simp] theorem slc_init (m : Nat) : slcD (.lst ((List.range (m + 1)).map dn)) none (some (-1)) = some (.lst ((List.range m).map dn)) := by
  show some (D.lst (cutD _ _ _)) = _
  rw [cut_init _ (by simp), List.range_succ, List.map_append]
  simp
@[simp] theorem slc_tail (m : Nat) : slcD (.lst ((List.range (m + 1)).map dn)) (some 1) none = some (.lst ((List.range' 1 m).map dn)) := by
  show some (D.lst (cutD _ _ _)) = _
  rw [cut_tail _ (by simp), List.range_eq_range', List.range'_succ]
  simp
end K

namespace K
open PySem DI Ev
/-- membership, as a test -/
def memB (xs : List Nat) (y : Nat) : Bool := decide (y ∈ xs)
theorem memB_nil : memB [] = fun _ => false := by funext y; simp [memB]
theorem memB_snoc (xs : List Nat) (x : Nat) : memB (xs ++ [x]) = fun y => memB xs y || decide (y = x) := by funext y; simp [memB]
theorem run_mask_of (k n : Nat) (xs : List Nat) (s : D) (M : Sto) (hn : n ≤ 1000) (hs : IsSeq s (xs.map dn)) (hx : ∀ x ∈ xs, x < n) :
    run pk.prg pk.fs (k + 1) F_mask_of [.p s] M = .ok (.p false (dn (maskOf n (memB xs)))) M := by
  rw [run_eq fs_mask_of M rfl]
  simp (disch := (first | omega | (simp only [List.length_map, mkM_len, fnM_len, List.length_range, List.length_range', List.length_take, List.length_drop, List.length_append, List.length_cons, List.length_nil]; omega))) [b_mask_of, n_mask_of, seqR_is hs]
  refine for_end (fun pre sl M' => ∃ v2, sl = [some (.p s), some (.p (dn (maskOf n (memB pre)))), v2] ∧ M' = M) ⟨none, by simp [maskOf_none, memB_nil], rfl⟩ ?_ ?_
  · rintro pre x post e sl M' ⟨v2, rfl, rfl⟩
    have h1 := hx x (by simp [e])
    simp (disch := (first | omega | (simp only [List.length_map, mkM_len, fnM_len, List.length_range, List.length_range', List.length_take, List.length_drop, List.length_append, List.length_cons, List.length_nil]; omega))) [h1, b_mask_of_1, memB_snoc]
  · rintro sl' M' ⟨v2, rfl, rfl⟩
    simp
/-- the row lies in what is kept -/
def inR (kp : Nat → Bool) (r : Nat × Nat × Nat × Nat) : Bool := kp r.1 && kp r.2.1 && kp r.2.2.1 && kp r.2.2.2
def endB (rows : List (Nat × Nat × Nat × Nat)) (kp : Nat → Bool) (y : Nat) : Bool := rows.any fun r => inR kp r && (decide (y = r.1) || decide (y = r.2.2.2))
def midB (rows : List (Nat × Nat × Nat × Nat)) (kp : Nat → Bool) (y : Nat) : Bool := rows.any fun r => inR kp r && (decide (y = r.2.1) || decide (y = r.2.2.1))
theorem endB_nil (kp : Nat → Bool) : endB [] kp = fun _ => false := rfl
theorem midB_nil (kp : Nat → Bool) : midB [] kp = fun _ => false := rfl
def ltR (n : Nat) (r : Nat × Nat × Nat × Nat) : Prop := r.1 < n ∧ r.2.1 < n ∧ r.2.2.1 < n ∧ r.2.2.2 < n
theorem maskOf_zero {n : Nat} {p : Nat → Bool} : maskOf n p = 0 ↔ ∀ y, y < n → p y = false := by
  constructor
  · intro h y hy
    have := testBit_maskOf n p y
    rw [h] at this
    simpa [hy] using this.symm
  · intro h
    rw [maskOf_congr h, maskOf_none]
theorem row_out {n : Nat} {kp : Nat → Bool} {r : Nat × Nat × Nat × Nat} (h : ltR n r) : (maskOf n fun y => memB [r.1, r.2.1, r.2.2.1, r.2.2.2] y && !kp y) = 0 ↔ inR kp r = true := by
  rw [maskOf_zero]
  unfold inR memB
  obtain ⟨h1, h2, h3, h4⟩ := h
  constructor
  · intro q
    have q1 := q _ h1
    have q2 := q _ h2
    have q3 := q _ h3
    have q4 := q _ h4
    simp at q1 q2 q3 q4
    simp [q1, q2, q3, q4]
  · intro q y hy
    simp only [Bool.and_eq_true] at q
    obtain ⟨⟨⟨q1, q2⟩, q3⟩, q4⟩ := q
    simp only [Bool.and_eq_false_iff, decide_eq_false_iff_not, Bool.not_eq_false']
    by_cases e : y ∈ [r.1, r.2.1, r.2.2.1, r.2.2.2]
    · right
      simp only [List.mem_cons, List.not_mem_nil, or_false] at e
      rcases e with e | e | e | e <;> subst e <;> assumption
    · exact Or.inl e
theorem seq_dq (r : Nat × Nat × Nat × Nat) : IsSeq (dq r) ([r.1, r.2.1, r.2.2.1, r.2.2.2].map dn) := Or.inr rfl
theorem run_eam (k n : Nat) (rows : List (Nat × Nat × Nat × Nat)) (kp : Nat → Bool) (M : Sto) (hn : n ≤ 1000) (hr : ∀ r ∈ rows, ltR n r) :
    run pk.prg pk.fs (k + 2) F_end_and_middle_masks [.p (.tup (rows.map dq)), .p (dn (maskOf n kp))] M = .ok (.p false (.tup [dn (maskOf n (endB rows kp)), dn (maskOf n (midB rows kp))])) M := by
  rw [run_eq fs_end_and_middle_masks M rfl]
  simp (disch := (first | omega | (simp only [List.length_map, mkM_len, fnM_len, List.length_range, List.length_range', List.length_take, List.length_drop, List.length_append, List.length_cons, List.length_nil]; omega))) [b_end_and_middle_masks, n_end_and_middle_masks]
  refine for_end (fun pre sl M' => ∃ v4, sl = [some (.p (.tup (rows.map dq))), some (.p (dn (maskOf n kp))), some (.p (dn (maskOf n (endB pre kp)))), some (.p (dn (maskOf n (midB pre kp)))), v4] ∧ M' = M) ⟨none, by simp [maskOf_none, endB_nil, midB_nil], rfl⟩ ?_ ?_
  · rintro pre r post e sl M' ⟨v4, rfl, rfl⟩
    have h1 := hr r (by simp [e])
    have hz := row_out (kp := kp) h1
    have hm := h1
    obtain ⟨m1, m2, m3, m4⟩ := hm
    have r0 := run_mask_of k n [r.1, r.2.1, r.2.2.1, r.2.2.2] (dq r) M' hn (seq_dq r) (by simp [m1, m2, m3, m4])
    have r1 := run_mask_of k n [r.1, r.2.2.2] (dp (r.1, r.2.2.2)) M' hn (Or.inr rfl) (by simp [m1, m4])
    have r2 := run_mask_of k n [r.2.1, r.2.2.1] (dp (r.2.1, r.2.2.1)) M' hn (Or.inr rfl) (by simp [m2, m3])
    simp (disch := (first | omega | (simp only [List.length_map, mkM_len, fnM_len, List.length_range, List.length_range', List.length_take, List.length_drop, List.length_append, List.length_cons, List.length_nil]; omega))) [b_end_and_middle_masks_1, r0]
    by_cases q : inR kp r = true
    · have hz := hz.mpr q
      simp (disch := (first | omega | (simp only [List.length_map, mkM_len, fnM_len, List.length_range, List.length_range', List.length_take, List.length_drop, List.length_append, List.length_cons, List.length_nil]; omega))) [hz, r1, r2]
      constructor
      · refine congrArg dn (maskOf_congr fun y hy => ?_)
        simp [endB, q, memB]
      · refine congrArg dn (maskOf_congr fun y hy => ?_)
        simp [midB, q, memB]
    · have hz : ¬ _ := fun w => q (hz.mp w)
      simp (disch := (first | omega | (simp only [List.length_map, mkM_len, fnM_len, List.length_range, List.length_range', List.length_take, List.length_drop, List.length_append, List.length_cons, List.length_nil]; omega))) [hz]
      constructor
      · refine congrArg dn (maskOf_congr fun y hy => ?_)
        simp [endB, q, memB]
      · refine congrArg dn (maskOf_congr fun y hy => ?_)
        simp [midB, q, memB]
  · rintro sl' M' ⟨v4, rfl, rfl⟩
    simp
end K

namespace K
open PySem DI Ev
section
variable (P : Prg) (c : Orc)
def starR (es : Es) (sl : Slots) (a : RV) (M1 : Sto) : Res (List RV) := match a.get M1 with
    | some (.lst xs) => (evalEs P c es sl M1).bind fun as M2 => .ok (xs.map (.p false) ++ as) M2
    | some (.tup xs) => (evalEs P c es sl M1).bind fun as M2 => .ok (xs.map (.p false) ++ as) M2
    | _ => .bad
@[simp] theorem es_star (e : E) (es : Es) (sl : Slots) (M : Sto) : evalEs P c (.star e es) sl M = (evalE P c e sl M).bind (starR P c es sl) := (rfl)
@[simp] theorem starR_tup (es : Es) (sl : Slots) (fr : Bool) (xs : List D) (M : Sto) : starR P c es sl (.p fr (.tup xs)) M = (evalEs P c es sl M).bind fun as M2 => .ok (xs.map (.p false) ++ as) M2 := (rfl)
@[simp] theorem starR_lst (es : Es) (sl : Slots) (fr : Bool) (xs : List D) (M : Sto) : starR P c es sl (.p fr (.lst xs)) M = (evalEs P c es sl M).bind fun as M2 => .ok (xs.map (.p false) ++ as) M2 := (rfl)
theorem propR_own {f : Str} {j g : Nat} {x : Cell} {M : Sto} (h : M[j]? = some x) (hp : propD P f x.d = some g) : propR P c f (.own j) M = noexc (callR P c g [.own j] M) := by
  unfold propR
  rw [get_own, h]
  simp only [Option.map_some, hp]
  rfl
theorem methR_own {m : Str} {es : Es} {sl : Slots} {j f : Nat} {x : Cell} {M : Sto} (h : M[j]? = some x) (hp : methD P m x.d = some f) : methR P c m es sl (.own j) M = (evalEs P c es sl M).bind fun as M2 => callR P c f (.own j :: as.map RV.dv) M2 := by
  unfold methR
  rw [get_own, h]
  simp only [Option.map_some, hp]
  rfl
theorem frzs_app (xs : List D) (as : List RV) (M : Sto) : frzs (xs.map (.p false) ++ as) M = (frzs as M).map fun q => (xs ++ q.1, q.2) := by
  induction xs with
  | nil => simp
  | cons x xs ih => simp [ih]; cases frzs as M <;> rfl
theorem tupR_app (xs : List D) (as : List RV) (M M2 : Sto) (ds : List D) (h : frzs as M = some (ds, M2)) (hl : xs.length + ds.length ≤ 16777216) : tupR (xs.map (.p false) ++ as) M = .ok (.p false (.tup (xs ++ ds))) M2 :=
  tupR_ok _ (by rw [frzs_app, h]; rfl) (by simpa using hl)
end
/-- a take: the thing, laid in front or not -/
def sideS (b : Bool) : D := if b = true then .str ("front" : Str) else .str ("back" : Str)
def pD (q : Nat × Bool) : D := .tup [dn q.1, sideS q.2]
def frL (ts : List (Nat × Bool)) : List Nat := (ts.filter (·.2)).map (·.1)
def bkL (ts : List (Nat × Bool)) : List Nat := (ts.filter (!·.2)).map (·.1)
def tkD (n : Nat) (a : Nat → Nat → Bool) (fr bk : List Nat) (ts : List (Nat × Bool)) : D := .ins C_Taking [(("web" : Str), webD n a), (("front" : Str), .tup (fr.map dn)), (("back" : Str), .tup (bk.map dn)), (("taken_pairs" : Str), .tup (ts.map pD)), (("four_rows" : Str), .tup ((r4 n a).map dq))]
abbrev takeD (n : Nat) (a : Nat → Nat → Bool) (ts : List (Nat × Bool)) : D := tkD n a (frL ts) (bkL ts) ts
@[simp] theorem take_web (n : Nat) (a : Nat → Nat → Bool) (fr bk : List Nat) (ts : List (Nat × Bool)) : fldD pk.prg ("web" : Str) (tkD n a fr bk ts) = some (webD n a) := by rfl
@[simp] theorem take_front (n : Nat) (a : Nat → Nat → Bool) (fr bk : List Nat) (ts : List (Nat × Bool)) : fldD pk.prg ("front" : Str) (tkD n a fr bk ts) = some (.tup (fr.map dn)) := by rfl
@[simp] theorem take_back (n : Nat) (a : Nat → Nat → Bool) (fr bk : List Nat) (ts : List (Nat × Bool)) : fldD pk.prg ("back" : Str) (tkD n a fr bk ts) = some (.tup (bk.map dn)) := by rfl
@[simp] theorem take_pairs (n : Nat) (a : Nat → Nat → Bool) (fr bk : List Nat) (ts : List (Nat × Bool)) : fldD pk.prg ("taken_pairs" : Str) (tkD n a fr bk ts) = some (.tup (ts.map pD)) := by rfl
@[simp] theorem take_rows (n : Nat) (a : Nat → Nat → Bool) (fr bk : List Nat) (ts : List (Nat × Bool)) : fldD pk.prg ("four_rows" : Str) (tkD n a fr bk ts) = some (.tup ((r4 n a).map dq)) := by rfl
@[simp] theorem prop_left (n : Nat) (a : Nat → Nat → Bool) (fr bk : List Nat) (ts : List (Nat × Bool)) : propD pk.prg ("things_left" : Str) (tkD n a fr bk ts) = some F_Taking_things_left := by rfl
@[simp] theorem prop_row (n : Nat) (a : Nat → Nat → Bool) (fr bk : List Nat) (ts : List (Nat × Bool)) : propD pk.prg ("takes_row" : Str) (tkD n a fr bk ts) = some F_Taking_takes_row := by rfl
@[simp] theorem meth_take (n : Nat) (a : Nat → Nat → Bool) (fr bk : List Nat) (ts : List (Nat × Bool)) : methD pk.prg ("take" : Str) (tkD n a fr bk ts) = some F_Taking_take := by rfl
@[simp] theorem meth_all (n : Nat) (a : Nat → Nat → Bool) (fr bk : List Nat) (ts : List (Nat × Bool)) : methD pk.prg ("take_all" : Str) (tkD n a fr bk ts) = some F_Taking_take_all := by rfl
@[simp] theorem sf_tk_front (j : Nat) (sl : Slots) (M : Sto) (n : Nat) (a : Nat → Nat → Bool) (fr bk : List Nat) (ts : List (Nat × Bool)) (x : Nat) : sfC pk.prg j ("front" : Str) (.tup (List.map dn fr ++ [dn x])) sl M (.live (tkD n a fr bk ts)) = .nx sl (M.set j (.live (tkD n a (fr ++ [x]) bk ts))) := by
  unfold tkD
  rw [sf_Taking_front _ _ _ _ _ (by simp), List.map_append]
  rfl
@[simp] theorem sf_tk_back (j : Nat) (sl : Slots) (M : Sto) (n : Nat) (a : Nat → Nat → Bool) (fr bk : List Nat) (ts : List (Nat × Bool)) (x : Nat) : sfC pk.prg j ("back" : Str) (.tup (List.map dn bk ++ [dn x])) sl M (.live (tkD n a fr bk ts)) = .nx sl (M.set j (.live (tkD n a fr (bk ++ [x]) ts))) := by
  unfold tkD
  rw [sf_Taking_back _ _ _ _ _ (by simp), List.map_append]
  rfl
@[simp] theorem sf_tk_pairs (j : Nat) (sl : Slots) (M : Sto) (n : Nat) (a : Nat → Nat → Bool) (fr bk : List Nat) (ts : List (Nat × Bool)) (q : Nat × Bool) : sfC pk.prg j ("taken_pairs" : Str) (.tup (List.map pD ts ++ [pD q])) sl M (.live (tkD n a fr bk ts)) = .nx sl (M.set j (.live (tkD n a fr bk (ts ++ [q])))) := by
  unfold tkD
  rw [sf_Taking_taken_pairs _ _ _ _ _ (by simp), List.map_append]
  rfl
theorem run_taking_init (k n : Nat) (a : Nat → Nat → Bool) (M : Sto) (hn : n ≤ 60) :
    run pk.prg pk.fs (k + 4) F_Taking___init__ [.own M.length, .p (webD n a)] (M ++ [.live (.ins C_Taking [])]) = .ok (.p false .non) (M ++ [.live (takeD n a [])]) := by
  rw [run_eq fs_Taking___init__ _ rfl]
  simp (disch := (first | omega | (simp only [List.length_map, mkM_len, fnM_len, List.length_range, List.length_range', List.length_take, List.length_drop, List.length_append, List.length_cons, List.length_nil]; omega))) [b_Taking___init__, n_Taking___init__, run_rows_of_four, hn, takeD, tkD, frL, bkL]
theorem make_taking (k n : Nat) (a : Nat → Nat → Bool) (M : Sto) (f1 : Bool) (hn : n ≤ 60) :
    makeR pk.prg (run pk.prg pk.fs (k + 4)) C_Taking [.p f1 (webD n a)] M = .ok (.p true (takeD n a [])) M :=
  make_ok (f := false) (i := cl_Taking) rfl (run_taking_init k n a M hn)
def tkn (ts : List (Nat × Bool)) : List Nat := frL ts ++ bkL ts
def leftP (ts : List (Nat × Bool)) (x : Nat) : Bool := !decide (x ∈ tkn ts)
def leftL (n : Nat) (ts : List (Nat × Bool)) : List Nat := (List.range n).filter (leftP ts)
theorem tk_len (ts : List (Nat × Bool)) : (frL ts).length ≤ ts.length ∧ (bkL ts).length ≤ ts.length := by
  unfold frL bkL
  have h1 := List.length_filter_le (·.2) ts
  have h2 := List.length_filter_le (!·.2) ts
  simp only [List.length_map]
  exact ⟨h1, h2⟩
theorem run_things_left (k n : Nat) (a : Nat → Nat → Bool) (ts : List (Nat × Bool)) (M : Sto) (j : Nat) (hn : n ≤ 60) (ht : ts.length ≤ 1000) (hg : M[j]? = some (.live (takeD n a ts))) :
    run pk.prg pk.fs (k + 1) F_Taking_things_left [.own j] M = .ok (.p false (.tup ((leftL n ts).map dn))) M := by
  rw [run_eq fs_Taking_things_left M rfl]
  obtain ⟨h1, h2⟩ := tk_len ts
  simp (disch := (first | omega | (simp only [List.length_map, mkM_len, fnM_len, List.length_range, List.length_range', List.length_take, List.length_drop, List.length_append, List.length_cons, List.length_nil]; omega))) [b_Taking_things_left, n_Taking_things_left, fldR_own _ _ _ hg]
  have e : tupR (((frL ts).map dn).map (.p false) ++ (((bkL ts).map dn).map (.p false))) M = .ok (.p false (.tup ((tkn ts).map dn))) M := by
    rw [tupR_app _ _ M M ((bkL ts).map dn) (by simpa using frzs_app ((bkL ts).map dn) [] M) (by simp; omega)]
    simp [tkn]
  simp only [List.map_map] at e
  simp (disch := (first | omega | (simp only [List.length_map, mkM_len, fnM_len, List.length_range, List.length_range', List.length_take, List.length_drop, List.length_append, List.length_cons, List.length_nil]; omega))) [e, fldR_own _ _ _ hg]
  rw [lc_map (fun x => if leftP ts x = true then some (dn x) else none) (fun x _ => by
    have q : leftP ts x = !decide (x ∈ tkn ts) := rfl
    cases z : leftP ts x <;> rw [z] at q <;> simp [← q])]
  have hl := List.length_filter_le (leftP ts) (List.range n)
  rw [List.length_range] at hl
  rw [filterMap_if, rb_ok, lstOf_ok (by simp; omega)]
  simp [leftL]
theorem run_takes_row (k n : Nat) (a : Nat → Nat → Bool) (ts : List (Nat × Bool)) (M : Sto) (j : Nat) (hg : M[j]? = some (.live (takeD n a ts))) :
    run pk.prg pk.fs (k + 1) F_Taking_takes_row [.own j] M = .ok (.p false (.tup (ts.map pD))) M := by
  rw [run_eq fs_Taking_takes_row M rfl]
  simp (disch := (first | omega | (simp only [List.length_map, mkM_len, fnM_len, List.length_range, List.length_range', List.length_take, List.length_drop, List.length_append, List.length_cons, List.length_nil]; omega))) [b_Taking_takes_row, n_Taking_takes_row, fldR_own _ _ _ hg]
theorem propR_left (k n : Nat) (a : Nat → Nat → Bool) (ts : List (Nat × Bool)) (M : Sto) (j : Nat) (hn : n ≤ 60) (ht : ts.length ≤ 1000) (hg : M[j]? = some (.live (takeD n a ts))) :
    propR pk.prg (run pk.prg pk.fs (k + 1)) ("things_left" : Str) (.own j) M = .ok (.p false (.tup ((leftL n ts).map dn))) M := by
  rw [propR_own _ _ (x := .live (takeD n a ts)) hg (by rfl : propD pk.prg ("things_left" : Str) (takeD n a ts) = some F_Taking_things_left), call_Taking_things_left, run_things_left k n a ts M j hn ht hg]
  rfl
theorem propR_row (k n : Nat) (a : Nat → Nat → Bool) (ts : List (Nat × Bool)) (M : Sto) (j : Nat) (hg : M[j]? = some (.live (takeD n a ts))) :
    propR pk.prg (run pk.prg pk.fs (k + 1)) ("takes_row" : Str) (.own j) M = .ok (.p false (.tup (ts.map pD))) M := by
  rw [propR_own _ _ (x := .live (takeD n a ts)) hg (by rfl : propD pk.prg ("takes_row" : Str) (takeD n a ts) = some F_Taking_takes_row), call_Taking_takes_row, run_takes_row k n a ts M j hg]
  rfl
end K

namespace K
open PySem DI Ev
def sdD : Option Bool → D
  | none => .non
  | some b => sideS b
theorem pl_front : plainD (.str ("front" : Str)) = true := by show PyData.strOk _ = true; decide +kernel
theorem pl_back : plainD (.str ("back" : Str)) = true := by show PyData.strOk _ = true; decide +kernel
theorem sd_plain (sd : Option Bool) : plainD (sdD sd) = true ∧ depD (sdD sd) ≤ 60 := by
  rcases sd with _ | _ | _
  · exact ⟨by rfl, by decide⟩
  · exact ⟨pl_back, Nat.zero_le _⟩
  · exact ⟨pl_front, Nat.zero_le _⟩
@[simp] theorem side_ok (sd : Option Bool) : cmpD .NotIn (sdD sd) (.tup [.non, .str ("front" : Str), .str ("back" : Str)]) = some false := by
  show (din _ _).map (!·) = _
  rw [din_ok (b := true) (sd_plain sd).1 (by simp [plainDs, plainD]; exact ⟨pl_front, pl_back⟩) (sd_plain sd).2 (by decide) (by rcases sd with _ | _ | _ <;> simp [sdD, sideS])]
  rfl
@[simp] theorem side_nb (sd : Option Bool) : cmpD .NotEq (sdD sd) (.str ("back" : Str)) = some (decide (sd ≠ some false)) := by
  show (deq _ _).map (!·) = _
  rw [deq_ok (b := decide (sd = some false)) (sd_plain sd).1 pl_back (sd_plain sd).2 (by decide) (by rcases sd with _ | _ | _ <;> simp [sdD, sideS] <;> decide)]
  rcases sd with _ | _ | _ <;> rfl
@[simp] theorem side_nf (sd : Option Bool) : cmpD .NotEq (sdD sd) (.str ("front" : Str)) = some (decide (sd ≠ some true)) := by
  show (deq _ _).map (!·) = _
  rw [deq_ok (b := decide (sd = some true)) (sd_plain sd).1 pl_front (sd_plain sd).2 (by decide) (by rcases sd with _ | _ | _ <;> simp [sdD, sideS] <;> decide)]
  rcases sd with _ | _ | _ <;> rfl
theorem left_lt {n : Nat} {ts : List (Nat × Bool)} {x : Nat} : x ∈ leftL n ts ↔ x < n ∧ leftP ts x = true := by
  unfold leftL; rw [List.mem_filter, List.mem_range]
theorem mask_left (n : Nat) (ts : List (Nat × Bool)) : maskOf n (memB (leftL n ts)) = maskOf n (leftP ts) := by
  refine maskOf_congr fun y hy => ?_
  unfold memB
  rw [Bool.eq_iff_iff, decide_eq_true_eq, left_lt]
  simp [hy]
theorem run_mask_left (k n : Nat) (ts : List (Nat × Bool)) (M : Sto) (hn : n ≤ 1000) :
    run pk.prg pk.fs (k + 1) F_mask_of [.p (.tup ((leftL n ts).map dn))] M = .ok (.p false (dn (maskOf n (leftP ts)))) M := by
  rw [run_mask_of k n (leftL n ts) _ M hn (Or.inr rfl) (fun x hx => (left_lt.mp hx).1), mask_left]
def exBT (d : D) : Ex := ⟨X_BadThing, [(("thing" : Str), d)]⟩
def exSide : Ex := ⟨X_BadNumber, [(("name" : Str), .str ("side" : Str))]⟩
def exTake : Ex := ⟨X_NoneSuch, [(("name" : Str), .str ("take" : Str))]⟩
@[simp] theorem rz_BadThing (sl : Slots) (f : Bool) (d : D) (M : Sto) (h : fmtD d = true) : rzR pk.prg X_BadThing sl [.p f d] M = .exc (exBT d) sl M := by
  show (if (1 : Nat) = 1 ∧ ([d].all fmtD) = true then SRes.exc ⟨X_BadThing, ([(("thing" : Str), d)]).reverse⟩ sl M else .bad) = _
  rw [if_pos ⟨rfl, by simp [h]⟩]; rfl
@[simp] theorem rz_side (sl : Slots) (f : Bool) (M : Sto) : rzR pk.prg X_BadNumber sl [.p f (.str ("side" : Str))] M = .exc exSide sl M := by
  show (if (1 : Nat) = 1 ∧ ([D.str ("side" : Str)].all fmtD) = true then SRes.exc ⟨X_BadNumber, ([(("name" : Str), D.str ("side" : Str))]).reverse⟩ sl M else .bad) = _
  rw [if_pos ⟨rfl, by rfl⟩]; rfl
@[simp] theorem rz_take (sl : Slots) (f : Bool) (M : Sto) : rzR pk.prg X_NoneSuch sl [.p f (.str ("take" : Str))] M = .exc exTake sl M := by
  show (if (1 : Nat) = 1 ∧ ([D.str ("take" : Str)].all fmtD) = true then SRes.exc ⟨X_NoneSuch, ([(("name" : Str), D.str ("take" : Str))]).reverse⟩ sl M else .bad) = _
  rw [if_pos ⟨rfl, by rfl⟩]; rfl
/-- the rows of the web that lie in what is left -/
def eB (n : Nat) (a : Nat → Nat → Bool) (ts : List (Nat × Bool)) (x : Nat) : Bool := endB (r4 n a) (leftP ts) x
def mB (n : Nat) (a : Nat → Nat → Bool) (ts : List (Nat × Bool)) (x : Nat) : Bool := midB (r4 n a) (leftP ts) x
theorem r4_ltR {n : Nat} {a : Nat → Nat → Bool} : ∀ r ∈ r4 n a, ltR n r := fun r h => r4_lt h
theorem run_eam_left (k n : Nat) (a : Nat → Nat → Bool) (ts : List (Nat × Bool)) (M : Sto) (hn : n ≤ 1000) :
    run pk.prg pk.fs (k + 2) F_end_and_middle_masks [.p (.tup ((r4 n a).map dq)), .p (dn (maskOf n (leftP ts)))] M = .ok (.p false (.tup [dn (maskOf n (eB n a ts)), dn (maskOf n (mB n a ts))])) M :=
  run_eam k n (r4 n a) (leftP ts) M hn r4_ltR
theorem frL_snoc (ts : List (Nat × Bool)) (x : Nat) : frL (ts ++ [(x, true)]) = frL ts ++ [x] ∧ bkL (ts ++ [(x, true)]) = bkL ts := by simp [frL, bkL]
theorem bkL_snoc (ts : List (Nat × Bool)) (x : Nat) : frL (ts ++ [(x, false)]) = frL ts ∧ bkL (ts ++ [(x, false)]) = bkL ts ++ [x] := by simp [frL, bkL]
theorem takeD_t (n : Nat) (a : Nat → Nat → Bool) (ts : List (Nat × Bool)) (x : Nat) : takeD n a (ts ++ [(x, true)]) = tkD n a (frL ts ++ [x]) (bkL ts) (ts ++ [(x, true)]) := by
  show tkD _ _ _ _ _ = _; rw [(frL_snoc ts x).1, (frL_snoc ts x).2]
theorem takeD_f (n : Nat) (a : Nat → Nat → Bool) (ts : List (Nat × Bool)) (x : Nat) : takeD n a (ts ++ [(x, false)]) = tkD n a (frL ts) (bkL ts ++ [x]) (ts ++ [(x, false)]) := by
  show tkD _ _ _ _ _ = _; rw [(bkL_snoc ts x).1, (bkL_snoc ts x).2]
theorem run_take (k n : Nat) (a : Nat → Nat → Bool) (ts : List (Nat × Bool)) (x : Nat) (sd : Option Bool) (M : Sto) (j : Nat) (hn : n ≤ 60) (ht : ts.length ≤ 1000) (hg : M[j]? = some (.live (takeD n a ts))) (hx : x ∈ leftL n ts) :
    run pk.prg pk.fs (k + 4) F_Taking_take [.own j, .p (dn x), .p (sdD sd)] M =
      if eB n a ts x = false ∧ sd ≠ some false then .ok (.p false (sideS true)) (M.set j (.live (takeD n a (ts ++ [(x, true)]))))
      else if mB n a ts x = false ∧ sd ≠ some true then .ok (.p false (sideS false)) (M.set j (.live (takeD n a (ts ++ [(x, false)]))))
      else .exc exTake M := by
  rw [run_eq fs_Taking_take M rfl]
  obtain ⟨h1, h2⟩ := tk_len ts
  obtain ⟨x1, x2⟩ := left_lt.mp hx
  have he : (maskOf n (eB n a ts)).testBit x = eB n a ts x := by rw [testBit_maskOf]; simp [x1]
  have hm : (maskOf n (mB n a ts)).testBit x = mB n a ts x := by rw [testBit_maskOf]; simp [x1]
  simp (disch := (first | omega | (simp only [List.length_map, mkM_len, fnM_len, List.length_range, List.length_range', List.length_take, List.length_drop, List.length_append, List.length_cons, List.length_nil]; omega))) [b_Taking_take, n_Taking_take, fldR_own _ _ _ hg, propR_left _ n a ts M j hn ht hg, x1, hx, run_mask_left, run_eam_left, hg, he, hm]
  have t1 : tupR (((frL ts).map dn).map (.p false) ++ [.p false (dn x)]) M = .ok (.p false (.tup ((frL ts ++ [x]).map dn))) M := by
    rw [tupR_app _ _ M M [dn x] rfl (by simp; omega)]; simp
  have t2 : tupR (((bkL ts).map dn).map (.p false) ++ [.p false (dn x)]) M = .ok (.p false (.tup ((bkL ts ++ [x]).map dn))) M := by
    rw [tupR_app _ _ M M [dn x] rfl (by simp; omega)]; simp
  simp only [List.map_map] at t1 t2
  have hj : j < M.length := (List.getElem?_eq_some_iff.mp hg).1
  have hgg : M[j] = .live (takeD n a ts) := (List.getElem?_eq_some_iff.mp hg).2
  have fb : sideS true = .str ("front" : Str) ∧ sideS false = .str ("back" : Str) := ⟨rfl, rfl⟩
  by_cases q1 : eB n a ts x = false ∧ ¬sd = some false
  · have u1 : tupR ((ts.map (RV.p false ∘ pD)) ++ [.p false (.tup [dn x, .str ("front" : Str)])]) (M.set j (.live (tkD n a (frL ts ++ [x]) (bkL ts) ts))) = .ok (.p false (.tup (ts.map pD ++ [pD (x, true)]))) (M.set j (.live (tkD n a (frL ts ++ [x]) (bkL ts) ts))) := by
      have := tupR_app (ts.map pD) [.p false (pD (x, true))] (M.set j (.live (tkD n a (frL ts ++ [x]) (bkL ts) ts))) _ [pD (x, true)] rfl (by simp; omega)
      simpa [pD, fb] using this
    simp only [q1, not_false_eq_true, and_self, if_true, t1]
    simp (disch := (first | omega | (simp only [List.length_map, mkM_len, fnM_len, List.length_range, List.length_range', List.length_take, List.length_drop, List.length_append, List.length_cons, List.length_nil]; omega))) [hgg, hj, u1, fb]
    rw [takeD_t]
  · simp only [q1, if_false]
    by_cases q2 : mB n a ts x = false ∧ ¬sd = some true
    · have u2 : tupR ((ts.map (RV.p false ∘ pD)) ++ [.p false (.tup [dn x, .str ("back" : Str)])]) (M.set j (.live (tkD n a (frL ts) (bkL ts ++ [x]) ts))) = .ok (.p false (.tup (ts.map pD ++ [pD (x, false)]))) (M.set j (.live (tkD n a (frL ts) (bkL ts ++ [x]) ts))) := by
        have := tupR_app (ts.map pD) [.p false (pD (x, false))] (M.set j (.live (tkD n a (frL ts) (bkL ts ++ [x]) ts))) _ [pD (x, false)] rfl (by simp; omega)
        simpa [pD, fb] using this
      simp only [q2, not_false_eq_true, and_self, if_true, t2]
      simp (disch := (first | omega | (simp only [List.length_map, mkM_len, fnM_len, List.length_range, List.length_range', List.length_take, List.length_drop, List.length_append, List.length_cons, List.length_nil]; omega))) [hgg, hj, u2, fb]
      rw [takeD_f]
    · simp only [q2, if_false]
      simp (disch := (first | omega | (simp only [List.length_map, mkM_len, fnM_len, List.length_range, List.length_range', List.length_take, List.length_drop, List.length_append, List.length_cons, List.length_nil]; omega))) []
end K

namespace K
open PySem DI Ev
def freeL (n : Nat) (a : Nat → Nat → Bool) (ts : List (Nat × Bool)) : List Nat := (List.range n).filter fun i => leftP ts i && (!eB n a ts i || !mB n a ts i)
def stepT (n : Nat) (a : Nat → Nat → Bool) (ts : List (Nat × Bool)) : List (Nat × Bool) := match freeL n a ts with
  | [] => ts
  | x :: _ => ts ++ [(x, !eB n a ts x)]
def itT (n : Nat) (a : Nat → Nat → Bool) : Nat → List (Nat × Bool) → List (Nat × Bool)
  | 0, ts => ts
  | m + 1, ts => stepT n a (itT n a m ts)
theorem stepT_len (n : Nat) (a : Nat → Nat → Bool) (ts : List (Nat × Bool)) : (stepT n a ts).length ≤ ts.length + 1 := by
  unfold stepT; split <;> simp
theorem itT_len (n : Nat) (a : Nat → Nat → Bool) (ts : List (Nat × Bool)) : ∀ m, (itT n a m ts).length ≤ ts.length + m
  | 0 => Nat.le_refl _
  | m + 1 => by
    have h1 := itT_len n a ts m
    have h2 := stepT_len n a (itT n a m ts)
    show (stepT n a (itT n a m ts)).length ≤ _
    omega
theorem free_head {n : Nat} {a : Nat → Nat → Bool} {ts : List (Nat × Bool)} {x : Nat} {xs : List Nat} (h : freeL n a ts = x :: xs) : x ∈ leftL n ts ∧ (eB n a ts x = false ∨ mB n a ts x = false) := by
  have : x ∈ freeL n a ts := by rw [h]; simp
  unfold freeL at this
  rw [List.mem_filter] at this
  obtain ⟨h1, h2⟩ := this
  simp only [Bool.and_eq_true, Bool.or_eq_true, Bool.not_eq_true'] at h2
  exact ⟨left_lt.mpr ⟨List.mem_range.mp h1, h2.1⟩, h2.2⟩
theorem run_take_all (k n : Nat) (a : Nat → Nat → Bool) (ts : List (Nat × Bool)) (M : Sto) (j : Nat) (hn : n ≤ 60) (ht : ts.length ≤ 900) (hg : M[j]? = some (.live (takeD n a ts))) :
    run pk.prg pk.fs (k + 5) F_Taking_take_all [.own j] M = .ok (.p false (.tup ((leftL n (itT n a n ts)).map dn))) (M.set j (.live (takeD n a (itT n a n ts)))) := by
  rw [run_eq fs_Taking_take_all M rfl]
  have hj : j < M.length := (List.getElem?_eq_some_iff.mp hg).1
  have hgg : M[j] = .live (takeD n a ts) := (List.getElem?_eq_some_iff.mp hg).2
  simp (disch := (first | omega | (simp only [List.length_map, mkM_len, fnM_len, List.length_range, List.length_range', List.length_take, List.length_drop, List.length_append, List.length_cons, List.length_nil]; omega))) [b_Taking_take_all, n_Taking_take_all, fldR_own _ _ _ hg]
  refine for_end (fun pre sl M' => ∃ v1 v2 v3 v4 v5, sl = [some (.own j), v1, v2, v3, v4, v5] ∧ M' = M.set j (.live (takeD n a (itT n a pre.length ts)))) ⟨none, none, none, none, none, rfl, ?_⟩ ?_ ?_
  · show M = M.set j (.live (takeD n a ts))
    rw [← hgg, List.set_getElem_self]
  · rintro pre x post e sl M' ⟨v1, v2, v3, v4, v5, rfl, rfl⟩
    have hp : pre.length ≤ n := by
      have := congrArg List.length e
      simp at this; omega
    have hl := itT_len n a ts pre.length
    generalize et : itT n a pre.length ts = us at hl
    have hg' : (M.set j (.live (takeD n a us)))[j]? = some (.live (takeD n a us)) := by simp [hj]
    have hL := propR_left (k + 3) n a us _ j hn (by omega) hg'
    simp (disch := (first | omega | (simp only [List.length_map, mkM_len, fnM_len, List.length_range, List.length_range', List.length_take, List.length_drop, List.length_append, List.length_cons, List.length_nil]; omega))) [b_Taking_take_all_1, fldR_own _ _ _ hg', hL, run_mask_left, run_eam_left]
    have hs : itT n a (pre.length + 1) ts = stepT n a us := by show stepT n a (itT n a pre.length ts) = _; rw [et]
    have hc : (∃ x, x < n ∧ leftP us x = true ∧ (eB n a us x = false ∨ mB n a us x = false)) ↔ freeL n a us ≠ [] := by
      constructor
      · rintro ⟨x, h1, h2, h3⟩ q
        have : x ∈ freeL n a us := by
          unfold freeL
          rw [List.mem_filter]
          exact ⟨List.mem_range.mpr h1, by simp [h2, h3]⟩
        rw [q] at this; cases this
      · intro q
        cases ef : freeL n a us with
        | nil => exact absurd ef q
        | cons y ys =>
          obtain ⟨h1, h2⟩ := free_head ef
          exact ⟨y, (left_lt.mp h1).1, (left_lt.mp h1).2, h2⟩
    simp only [hc]
    have hd : (List.range n).filter (fun i => leftP us i && (!eB n a us i || !mB n a us i)) = freeL n a us := rfl
    simp only [hd]
    cases ef : freeL n a us with
    | nil =>
      have es : stepT n a us = us := by unfold stepT; rw [ef]
      simp (disch := (first | omega | (simp only [List.length_map, mkM_len, fnM_len, List.length_range, List.length_range', List.length_take, List.length_drop, List.length_append, List.length_cons, List.length_nil]; omega))) [hs, es]
    | cons y ys =>
      obtain ⟨h1, h2⟩ := free_head ef
      have es : stepT n a us = us ++ [(y, !eB n a us y)] := by unfold stepT; rw [ef]
      have hm : methD pk.prg ("take" : Str) (Cell.live (takeD n a us)).d = some F_Taking_take := by rfl
      have hr := run_take k n a us y none _ j hn (by omega) hg' h1
      have hr2 : run pk.prg pk.fs (k + 4) F_Taking_take [.own j, .p (dn y), .p .non] (M.set j (.live (takeD n a us))) = .ok (.p false (sideS (!eB n a us y))) (M.set j (.live (takeD n a (us ++ [(y, !eB n a us y)])))) := by
        show run pk.prg pk.fs (k + 4) F_Taking_take [.own j, .p (dn y), .p (sdD none)] _ = _
        rw [hr]
        cases q : eB n a us y with
        | false => simp
        | true =>
          have q2 : mB n a us y = false := by rcases h2 with h2 | h2; · rw [q] at h2; cases h2
                                              · exact h2
          simp [q2]
      have hi : idxD (D.lst (dn y :: List.map dn ys)) (dn 0) = some (dn y) := idx_lst (by simp)
      simp (disch := (first | omega | (simp only [List.length_map, mkM_len, fnM_len, List.length_range, List.length_range', List.length_take, List.length_drop, List.length_append, List.length_cons, List.length_nil]; omega))) [methR_own _ _ hg' hm, hr2, hs, es, hi]
  · rintro sl' M' ⟨v1, v2, v3, v4, v5, rfl, rfl⟩
    have hl := itT_len n a ts n
    have hg' : (M.set j (.live (takeD n a (itT n a n ts))))[j]? = some (.live (takeD n a (itT n a n ts))) := by simp [hj]
    have hL := propR_left (k + 3) n a (itT n a n ts) _ j hn (by omega) hg'
    simp (disch := (first | omega | (simp only [List.length_map, mkM_len, fnM_len, List.length_range, List.length_range', List.length_take, List.length_drop, List.length_append, List.length_cons, List.length_nil]; omega))) [hL]
end K

namespace K
open PySem DI Ev
theorem methn_tk {c : Orc} {m : Str} {f n : Nat} {a : Nat → Nat → Bool} {fr bk : List Nat} {ts : List (Nat × Bool)} {M M1 : Sto} {b : Bool} {d : D} (h : methD pk.prg m (tkD n a fr bk ts) = some f)
    (hr : callR pk.prg c f [.own M.length] (M ++ [.live (tkD n a fr bk ts)]) = .ok (.p b d) M1) : methnR pk.prg c m (.p true (tkD n a fr bk ts)) M = .ok (.p false d) (M1.take M.length) := by
  unfold tkD at *
  unfold methnR
  simp only [h, hr]
theorem run_core (k n : Nat) (a : Nat → Nat → Bool) (M : Sto) (hn : n ≤ 60) :
    run pk.prg pk.fs (k + 6) F_core [.p (webD n a)] M = .ok (.p false (.tup ((leftL n (itT n a n [])).map dn))) M := by
  rw [run_eq fs_core M rfl]
  have hg : (M ++ [Cell.live (takeD n a [])])[M.length]? = some (.live (takeD n a [])) := by simp
  have h1 := run_take_all k n a [] (M ++ [.live (takeD n a [])]) M.length hn (by simp) hg
  have h2 := methn_tk (c := run pk.prg pk.fs (k + 5)) (m := ("take_all" : Str)) (M := M) (by rfl : methD pk.prg ("take_all" : Str) (takeD n a []) = some F_Taking_take_all) (by rw [call_Taking_take_all]; exact h1)
  have h3 : ((M ++ [Cell.live (takeD n a [])]).set M.length (.live (takeD n a (itT n a n [])))).take M.length = M := by
    rw [List.set_append_right _ _ (Nat.le_refl _)]; simp
  rw [h3] at h2
  have h4 := make_taking (k + 1) n a M false hn
  simp (disch := (first | omega | (simp only [List.length_map, mkM_len, fnM_len, List.length_range, List.length_range', List.length_take, List.length_drop, List.length_append, List.length_cons, List.length_nil]; omega))) [b_core, n_core, h4, h2]
end K

namespace K
open PySem DI Ev
/-! ### the core: however things are taken, it is left -/
abbrev R4 := List (Nat × Nat × Nat × Nat)
theorem inR_mono {p q : Nat → Bool} {r : Nat × Nat × Nat × Nat} (h : ∀ y, p y = true → q y = true) (k : inR p r = true) : inR q r = true := by
  unfold inR at *
  simp only [Bool.and_eq_true] at *
  exact ⟨⟨⟨h _ k.1.1.1, h _ k.1.1.2⟩, h _ k.1.2⟩, h _ k.2⟩
theorem endB_mono {rows : R4} {p q : Nat → Bool} {x : Nat} (h : ∀ y, p y = true → q y = true) (k : endB rows p x = true) : endB rows q x = true := by
  unfold endB at *
  rw [List.any_eq_true] at *
  obtain ⟨r, h1, h2⟩ := k
  rw [Bool.and_eq_true] at h2
  exact ⟨r, h1, by rw [Bool.and_eq_true]; exact ⟨inR_mono h h2.1, h2.2⟩⟩
theorem midB_mono {rows : R4} {p q : Nat → Bool} {x : Nat} (h : ∀ y, p y = true → q y = true) (k : midB rows p x = true) : midB rows q x = true := by
  unfold midB at *
  rw [List.any_eq_true] at *
  obtain ⟨r, h1, h2⟩ := k
  rw [Bool.and_eq_true] at h2
  exact ⟨r, h1, by rw [Bool.and_eq_true]; exact ⟨inR_mono h h2.1, h2.2⟩⟩
/-- the thing lies in a set of things each of which is an end and a middle within the set -/
def InCore (n : Nat) (rows : R4) (x : Nat) : Prop := ∃ q : Nat → Bool, q x = true ∧ ∀ y, q y = true → y < n ∧ endB rows q y = true ∧ midB rows q y = true
theorem core_lt {n : Nat} {rows : R4} {x : Nat} (h : InCore n rows x) : x < n := by
  obtain ⟨q, h1, h2⟩ := h
  exact (h2 x h1).1
theorem core_in {n : Nat} {rows : R4} {p : Nat → Bool} (hp : ∀ x, InCore n rows x → p x = true) {x : Nat} (h : InCore n rows x) : endB rows p x = true ∧ midB rows p x = true := by
  obtain ⟨q, h1, h2⟩ := h
  have hq : ∀ y, q y = true → p y = true := fun y hy => hp y ⟨q, hy, h2⟩
  obtain ⟨_, h3, h4⟩ := h2 x h1
  exact ⟨endB_mono hq h3, midB_mono hq h4⟩
theorem inR_bound {n : Nat} {p : Nat → Bool} {r : Nat × Nat × Nat × Nat} (hr : ltR n r) : inR (fun y => decide (y < n) && p y) r = inR p r := by
  obtain ⟨h1, h2, h3, h4⟩ := hr
  simp [inR, h1, h2, h3, h4]
theorem core_of {n : Nat} {rows : R4} {p : Nat → Bool} (hr : ∀ r ∈ rows, ltR n r) (hp : ∀ x, x < n → p x = true → endB rows p x = true ∧ midB rows p x = true) {x : Nat} (hx : x < n) (h : p x = true) : InCore n rows x := by
  have e1 : ∀ y, endB rows (fun y => decide (y < n) && p y) y = endB rows p y := fun y => by
    unfold endB
    rw [Bool.eq_iff_iff, List.any_eq_true, List.any_eq_true]
    constructor
    · rintro ⟨r, k1, k2⟩; exact ⟨r, k1, by rw [inR_bound (hr r k1)] at k2; exact k2⟩
    · rintro ⟨r, k1, k2⟩; exact ⟨r, k1, by rw [inR_bound (hr r k1)]; exact k2⟩
  have e2 : ∀ y, midB rows (fun y => decide (y < n) && p y) y = midB rows p y := fun y => by
    unfold midB
    rw [Bool.eq_iff_iff, List.any_eq_true, List.any_eq_true]
    constructor
    · rintro ⟨r, k1, k2⟩; exact ⟨r, k1, by rw [inR_bound (hr r k1)] at k2; exact k2⟩
    · rintro ⟨r, k1, k2⟩; exact ⟨r, k1, by rw [inR_bound (hr r k1)]; exact k2⟩
  refine ⟨fun y => decide (y < n) && p y, by simp [hx, h], fun y hy => ?_⟩
  simp only [Bool.and_eq_true, decide_eq_true_eq] at hy
  rw [e1, e2]
  exact ⟨hy.1, hp y hy.1 hy.2⟩
/-- nothing of the core is taken -/
def Fair (n : Nat) (a : Nat → Nat → Bool) (ts : List (Nat × Bool)) : Prop := ∀ x, InCore n (r4 n a) x → leftP ts x = true
theorem fair_nil (n : Nat) (a : Nat → Nat → Bool) : Fair n a [] := fun x _ => by simp [leftP, tkn, frL, bkL]
theorem mem_tkn {ts : List (Nat × Bool)} {x : Nat} : x ∈ tkn ts ↔ ∃ b, (x, b) ∈ ts := by
  unfold tkn frL bkL
  simp only [List.mem_append, List.mem_map, List.mem_filter]
  constructor
  · rintro (⟨⟨y, b⟩, ⟨h1, h2⟩, rfl⟩ | ⟨⟨y, b⟩, ⟨h1, h2⟩, rfl⟩)
    · exact ⟨b, h1⟩
    · exact ⟨b, h1⟩
  · rintro ⟨b, h⟩
    cases b with
    | true => exact Or.inl ⟨(x, true), ⟨h, rfl⟩, rfl⟩
    | false => exact Or.inr ⟨(x, false), ⟨h, rfl⟩, rfl⟩
theorem leftP_snoc (ts : List (Nat × Bool)) (x : Nat) (b : Bool) (y : Nat) : leftP (ts ++ [(x, b)]) y = (leftP ts y && !decide (y = x)) := by
  unfold leftP
  rw [Bool.eq_iff_iff]
  simp only [Bool.not_eq_true', decide_eq_false_iff_not, Bool.and_eq_true, mem_tkn, List.mem_append, List.mem_singleton, Prod.mk.injEq]
  constructor
  · intro h
    exact ⟨fun ⟨c, k⟩ => h ⟨c, Or.inl k⟩, fun e => h ⟨b, Or.inr ⟨e, rfl⟩⟩⟩
  · rintro ⟨h1, h2⟩ ⟨c, k | k⟩
    · exact h1 ⟨c, k⟩
    · exact h2 k.1
theorem fair_snoc {n : Nat} {a : Nat → Nat → Bool} {ts : List (Nat × Bool)} {x : Nat} {b : Bool} (h : Fair n a ts) (hx : eB n a ts x = false ∨ mB n a ts x = false) : Fair n a (ts ++ [(x, b)]) := by
  intro y hy
  rw [leftP_snoc, h y hy, Bool.true_and, Bool.not_eq_true', decide_eq_false_iff_not]
  rintro rfl
  obtain ⟨h1, h2⟩ := core_in h hy
  rcases hx with q | q
  · exact absurd (h1.symm.trans q) (by simp)
  · exact absurd (h2.symm.trans q) (by simp)
theorem fair_step {n : Nat} {a : Nat → Nat → Bool} {ts : List (Nat × Bool)} (h : Fair n a ts) : Fair n a (stepT n a ts) := by
  unfold stepT
  cases ef : freeL n a ts with
  | nil => exact h
  | cons x xs => exact fair_snoc h (free_head ef).2
theorem fair_it {n : Nat} {a : Nat → Nat → Bool} {ts : List (Nat × Bool)} (h : Fair n a ts) : ∀ m, Fair n a (itT n a m ts)
  | 0 => h
  | m + 1 => fair_step (fair_it h m)
theorem free_sub {n : Nat} {a : Nat → Nat → Bool} {ts : List (Nat × Bool)} {x : Nat} (h : x ∈ freeL n a ts) : x ∈ leftL n ts := by
  unfold freeL at h
  rw [List.mem_filter] at h
  simp only [Bool.and_eq_true] at h
  exact left_lt.mpr ⟨List.mem_range.mp h.1, h.2.1⟩
theorem left_less {n : Nat} {ts : List (Nat × Bool)} {x : Nat} {b : Bool} (h : x ∈ leftL n ts) : (leftL n (ts ++ [(x, b)])).length + 1 ≤ (leftL n ts).length := by
  have e : leftL n (ts ++ [(x, b)]) = (leftL n ts).filter fun y => !decide (y = x) := by
    unfold leftL
    rw [List.filter_filter]
    refine List.filter_congr fun y _ => ?_
    rw [leftP_snoc, Bool.and_comm]
  rw [e]
  have h1 : ((leftL n ts).filter fun y => !decide (y = x)).length < (leftL n ts).length := by
    rw [List.length_filter_lt_length_iff_exists]
    exact ⟨x, h, by simp⟩
  exact h1
theorem it_done (n : Nat) (a : Nat → Nat → Bool) (ts : List (Nat × Bool)) : ∀ m, freeL n a (itT n a m ts) = [] ∨ (leftL n (itT n a m ts)).length + m ≤ (leftL n ts).length
  | 0 => Or.inr (Nat.le_refl _)
  | m + 1 => by
    have ih := it_done n a ts m
    show freeL n a (stepT n a (itT n a m ts)) = [] ∨ (leftL n (stepT n a (itT n a m ts))).length + (m + 1) ≤ _
    generalize itT n a m ts = us at ih
    unfold stepT
    cases ef : freeL n a us with
    | nil => exact Or.inl ef
    | cons x xs =>
      right
      rcases ih with ih | ih
      · rw [ef] at ih; cases ih
      · have := left_less (b := !eB n a us x) (free_head ef).1
        show (leftL n (us ++ [(x, !eB n a us x)])).length + (m + 1) ≤ _
        omega
theorem it_end (n : Nat) (a : Nat → Nat → Bool) (ts : List (Nat × Bool)) : freeL n a (itT n a n ts) = [] := by
  rcases it_done n a ts n with h | h
  · exact h
  · have h1 : (leftL n ts).length ≤ n := by
      unfold leftL
      have := List.length_filter_le (leftP ts) (List.range n)
      simpa using this
    have h2 : leftL n (itT n a n ts) = [] := List.eq_nil_of_length_eq_zero (by omega)
    cases ef : freeL n a (itT n a n ts) with
    | nil => rfl
    | cons x xs =>
      have := free_sub (x := x) (by rw [ef]; simp : x ∈ freeL n a (itT n a n ts))
      rw [h2] at this; cases this
noncomputable def coreL (n : Nat) (rows : R4) : List Nat := (List.range n).filter fun x => @decide (InCore n rows x) (Classical.propDecidable _)
theorem done_core {n : Nat} {a : Nat → Nat → Bool} {ts : List (Nat × Bool)} (h : Fair n a ts) (hf : freeL n a ts = []) : leftL n ts = coreL n (r4 n a) := by
  unfold leftL coreL
  refine List.filter_congr fun x hx => ?_
  have hx := List.mem_range.mp hx
  have dq : ∀ P : Prop, @decide P (Classical.propDecidable _) = true ↔ P := fun P => by simp
  rw [Bool.eq_iff_iff, dq]
  constructor
  · intro q
    refine core_of r4_ltR (p := leftP ts) (fun y hy hl => ?_) hx q
    have : y ∉ freeL n a ts := by rw [hf]; simp
    unfold freeL at this
    rw [List.mem_filter] at this
    simp only [List.mem_range, hy, hl, Bool.true_and, Bool.or_eq_true, Bool.not_eq_true', true_and, not_or] at this
    exact ⟨by simpa [eB] using this.1, by simpa [mB] using this.2⟩
  · exact h x
theorem it_core {n : Nat} {a : Nat → Nat → Bool} {ts : List (Nat × Bool)} (h : Fair n a ts) : leftL n (itT n a n ts) = coreL n (r4 n a) := done_core (fair_it h n) (it_end n a ts)
end K

namespace K
open PySem DI Ev
def nr (n : Nat) (ps : List (Nat × Nat)) (x : Nat) : List Nat := (List.range n).filter fun y => adjP ps x y
theorem nr_len (n : Nat) (ps : List (Nat × Nat)) (x : Nat) : (nr n ps x).length ≤ n := by
  unfold nr
  have := List.length_filter_le (fun y => adjP ps x y) (List.range n)
  simpa using this
theorem nr_pre {n : Nat} {ps : List (Nat × Nat)} {x : Nat} {pre post : List Nat} {y : Nat} (h : nr n ps x = pre ++ y :: post) : pre.length ≤ n ∧ y < n := ⟨(pre_len h).1, (pre_len h).2.1⟩
theorem run__law_near (k n x : Nat) (ps : List (Nat × Nat)) (M : Sto) (hn : n ≤ 1000) (hp : ltP n ps) : run pk.prg pk.fs (k + 1) F__law_near [.p (dn n), .p (.lst (ps.map dp)), .p (dn x)] M = .ok (.p true (.lst ((nr n ps x).map dn))) M := by
  rw [run_eq fs__law_near _ rfl]
  simp (disch := (first | omega | (simp only [List.length_map, mkM_len, fnM_len, List.length_range, List.length_range', List.length_take, List.length_drop, List.length_append, List.length_cons, List.length_nil]; omega))) [b__law_near, n__law_near]
  rw [lc_map (fun y => if adjP ps x y = true then some (dn y) else none) (fun y _ => by
    have q := adjP_min hp x y
    cases z : adjP ps x y <;> rw [z] at q <;> simp at q <;> simp [q])]
  have hl := nr_len n ps x
  rw [filterMap_if, rb_ok, lstOf_ok (by simpa [nr] using Nat.le_trans hl (by omega))]
  simp [nr]
theorem sort_dq (ps : R4) : ∃ qs : R4, qs.Perm ps ∧ biD ("sorted" : Str) [.lst (ps.map dq)] = some (.p true (.lst (qs.map dq))) := by
  have hb : sortB (ps.map dq) = true := by
    unfold sortB
    rw [Bool.or_eq_true, Bool.or_eq_true]; left; right
    rw [List.all_eq_true]
    intro x hx
    obtain ⟨p, _, rfl⟩ := List.mem_map.mp hx
    rfl
  have hp : (sortD (ps.map dq)).Perm (ps.map dq) := List.mergeSort_perm _ _
  obtain ⟨qs, h1, h2⟩ := perm_map (f := dq) (g := fun d => match d with | .tup [.int i, .int j, .int k, .int l] => (i.toNat, j.toNat, k.toNat, l.toNat) | _ => (0, 0, 0, 0)) (fun x => by show ((x.1 : Int).toNat, (x.2.1 : Int).toNat, (x.2.2.1 : Int).toNat, (x.2.2.2 : Int).toNat) = x; simp) hp
  exact ⟨qs, h1, by rw [bi_sorted _ hb, h2]⟩
def lqT (ps : List (Nat × Nat)) (a b d : Nat) : Bool := decide (a < d) && (!decide (d = b) && (!adjP ps b d && !adjP ps a d))
def lqC (n : Nat) (ps : List (Nat × Nat)) (a b c : Nat) : R4 := if (!decide (c = a) && !adjP ps a c) = true then ((nr n ps c).filter (lqT ps a b)).map fun d => (a, b, c, d) else []
def lqB (n : Nat) (ps : List (Nat × Nat)) (a b : Nat) : R4 := (nr n ps b).flatMap (lqC n ps a b)
def lqA (n : Nat) (ps : List (Nat × Nat)) (a : Nat) : R4 := (nr n ps a).flatMap (lqB n ps a)
def lq (n : Nat) (ps : List (Nat × Nat)) : R4 := (List.range n).flatMap (lqA n ps)
theorem lqC_len (n : Nat) (ps : List (Nat × Nat)) (a b c : Nat) : (lqC n ps a b c).length ≤ n := by
  unfold lqC
  split
  · have := List.length_filter_le (lqT ps a b) (nr n ps c)
    have := nr_len n ps c
    simp; omega
  · simp
theorem lqB_len (n : Nat) (ps : List (Nat × Nat)) (a b : Nat) : (lqB n ps a b).length ≤ n * n := by
  have h1 := flatMap_len (f := lqC n ps a b) (xs := nr n ps b) fun c _ => lqC_len n ps a b c
  exact Nat.le_trans h1 (mul_le (nr_len n ps b) (Nat.le_refl n))
theorem lqA_len (n : Nat) (ps : List (Nat × Nat)) (a : Nat) : (lqA n ps a).length ≤ n * (n * n) := by
  have h1 := flatMap_len (f := lqB n ps a) (xs := nr n ps a) fun c _ => lqB_len n ps a c
  exact Nat.le_trans h1 (mul_le (nr_len n ps a) (Nat.le_refl _))
theorem lq_len (n : Nat) (ps : List (Nat × Nat)) : (lq n ps).length ≤ n * (n * (n * n)) := by
  have h1 := flatMap_len (f := lqA n ps) (xs := List.range n) fun c _ => lqA_len n ps c
  simpa [lq] using h1
noncomputable def quadsL (n : Nat) (ps : List (Nat × Nat)) : R4 := Classical.choose (sort_dq (lq n ps))
theorem quadsL_perm (n : Nat) (ps : List (Nat × Nat)) : (quadsL n ps).Perm (lq n ps) := (Classical.choose_spec (sort_dq (lq n ps))).1
theorem bi_quads (n : Nat) (ps : List (Nat × Nat)) : biD ("sorted" : Str) [.lst ((lq n ps).map dq)] = some (.p true (.lst ((quadsL n ps).map dq))) := (Classical.choose_spec (sort_dq (lq n ps))).2
theorem run__law_quads (k n : Nat) (ps : List (Nat × Nat)) (M : Sto) (hn : n ≤ 30) (hp : ltP n ps) :
    run pk.prg pk.fs (k + 2) F__law_quads [.p (dn n), .p (.lst (ps.map dp))] M = .ok (.p true (.lst ((quadsL n ps).map dq))) M := by
  have h2 : n * n ≤ 900 := mul_le (c := 30) (d := 30) hn hn
  have h3 : n * (n * n) ≤ 30 * 900 := mul_le hn h2
  have hn1 : n ≤ 1000 := by omega
  have hN : ∀ (x : Nat) (M : Sto), run pk.prg pk.fs (k + 1) F__law_near [.p (dn n), .p (.lst (ps.map dp)), .p (dn x)] M = .ok (.p true (.lst ((nr n ps x).map dn))) M := fun x M => run__law_near k n x ps M hn1 hp
  have hC : ∀ (x y : Nat) (M : Sto), run pk.prg pk.fs (k + 1) F__law_clash [.p (.lst (ps.map dp)), .p (dn x), .p (dn y)] M = .ok (.p false (.bl (adjP ps x y))) M := fun x y M => by rw [run__law_clash, adjP_min hp]
  rw [run_eq fs__law_quads _ rfl]
  simp (disch := (first | omega | (simp only [List.length_map, mkM_len, fnM_len, List.length_range, List.length_range', List.length_take, List.length_drop, List.length_append, List.length_cons, List.length_nil]; omega))) [b__law_quads, n__law_quads]
  with_reducible refine for_end (fun pre sl M' => ∃ v3 v4 v5 v6, sl = [some (.p (dn n)), some (.p (.lst (ps.map dp))), some (.own M.length), v3, v4, v5, v6] ∧ M' = M ++ [.live (.lst ((pre.flatMap (lqA n ps)).map dq))]) ⟨none, none, none, none, rfl, by simp⟩ ?_ ?_
  · rintro prea a posta ha sl M' ⟨v3, v4, v5, v6, rfl, rfl⟩
    have la := range_pre ha
    have la := la.1
    have HA : (prea.flatMap (lqA n ps)).length ≤ 30 * (30 * 900) := Nat.le_trans (flatMap_len fun c _ => lqA_len n ps c) (mul_le (by omega) h3)
    simp (disch := (first | omega | (simp only [List.length_map, mkM_len, fnM_len, List.length_range, List.length_range', List.length_take, List.length_drop, List.length_append, List.length_cons, List.length_nil]; omega))) [b__law_quads_4, hN]
    with_reducible refine for_goes0 (fun pre sl M' => ∃ v4 v5 v6, sl = [some (.p (dn n)), some (.p (.lst (ps.map dp))), some (.own M.length), some (.p (dn a)), v4, v5, v6] ∧ M' = M ++ [.live (.lst ((prea.flatMap (lqA n ps) ++ pre.flatMap (lqB n ps a)).map dq))]) ⟨v4, v5, v6, rfl, by simp⟩ ?_ ?_
    · rintro preb b postb hb sl M' ⟨v4, v5, v6, rfl, rfl⟩
      have lb := (nr_pre hb).1
      have HB : (preb.flatMap (lqB n ps a)).length ≤ 30 * 900 := Nat.le_trans (flatMap_len fun c _ => lqB_len n ps a c) (mul_le (by omega) h2)
      simp (disch := (first | omega | (simp only [List.length_map, mkM_len, fnM_len, List.length_range, List.length_range', List.length_take, List.length_drop, List.length_append, List.length_cons, List.length_nil]; omega))) [b__law_quads_3, hN]
      with_reducible refine for_goes0 (fun pre sl M' => ∃ v5 v6, sl = [some (.p (dn n)), some (.p (.lst (ps.map dp))), some (.own M.length), some (.p (dn a)), some (.p (dn b)), v5, v6] ∧ M' = M ++ [.live (.lst ((prea.flatMap (lqA n ps) ++ preb.flatMap (lqB n ps a) ++ pre.flatMap (lqC n ps a b)).map dq))]) ⟨v5, v6, rfl, by simp⟩ ?_ ?_
      · rintro prec c postc hc sl M' ⟨v5, v6, rfl, rfl⟩
        have lc := (nr_pre hc).1
        have HC : (prec.flatMap (lqC n ps a b)).length ≤ 30 * 30 := Nat.le_trans (flatMap_len fun d _ => lqC_len n ps a b d) (mul_le (by omega) hn)
        by_cases e : (!decide (c = a) && !adjP ps a c) = true
        · have e' := e
          simp at e'
          obtain ⟨e1, e2⟩ := e'
          simp (disch := (first | omega | (simp only [List.length_map, mkM_len, fnM_len, List.length_range, List.length_range', List.length_take, List.length_drop, List.length_append, List.length_cons, List.length_nil]; omega))) [b__law_quads_2, hN, hC, e1, e2]
          with_reducible refine for_goes0 (fun pre sl M' => ∃ v6, sl = [some (.p (dn n)), some (.p (.lst (ps.map dp))), some (.own M.length), some (.p (dn a)), some (.p (dn b)), some (.p (dn c)), v6] ∧ M' = M ++ [.live (.lst ((prea.flatMap (lqA n ps) ++ preb.flatMap (lqB n ps a) ++ prec.flatMap (lqC n ps a b) ++ (pre.filter (lqT ps a b)).map fun d => (a, b, c, d)).map dq))]) ⟨v6, rfl, by simp⟩ ?_ ?_
          · rintro pred d postd hd sl M' ⟨v6, rfl, rfl⟩
            have ld := (nr_pre hd).1
            have HD := List.length_filter_le (lqT ps a b) pred
            by_cases q : lqT ps a b d = true
            · have q' := q
              unfold lqT at q'
              simp at q'
              obtain ⟨q1, q2, q3, q4⟩ := q'
              simp (disch := (first | omega | (simp only [List.length_map, mkM_len, fnM_len, List.length_range, List.length_range', List.length_take, List.length_drop, List.length_append, List.length_cons, List.length_nil]; omega))) [b__law_quads_1, hC, q1, q2, q3, q4, List.filter_cons, q]
            · have qf : lqT ps a b d = false := by simpa using q
              by_cases q1 : a < d
              · by_cases q2 : d = b
                · have qb : lqT ps a b b = false := by simp [lqT]
                  simp (disch := (first | omega | (simp only [List.length_map, mkM_len, fnM_len, List.length_range, List.length_range', List.length_take, List.length_drop, List.length_append, List.length_cons, List.length_nil]; omega))) [b__law_quads_1, hC, q1, q2, qb, List.filter_cons]
                · have q3 : (!adjP ps b d && !adjP ps a d) = false := by
                    have q' := qf
                    unfold lqT at q'
                    simpa [q1, q2] using q'
                  simp (disch := (first | omega | (simp only [List.length_map, mkM_len, fnM_len, List.length_range, List.length_range', List.length_take, List.length_drop, List.length_append, List.length_cons, List.length_nil]; omega))) [b__law_quads_1, hC, q1, q2, q3, qf, List.filter_cons]
              · simp (disch := (first | omega | (simp only [List.length_map, mkM_len, fnM_len, List.length_range, List.length_range', List.length_take, List.length_drop, List.length_append, List.length_cons, List.length_nil]; omega))) [b__law_quads_1, hC, q1, qf, List.filter_cons]
          · rintro sl' M' ⟨v6, rfl, rfl⟩
            simp [lqC, e1, e2]
        · have ez : lqC n ps a b c = [] := by unfold lqC; rw [if_neg e]
          by_cases e1 : c = a
          · have ea : lqC n ps a b a = [] := by simp [lqC]
            simp (disch := (first | omega | (simp only [List.length_map, mkM_len, fnM_len, List.length_range, List.length_range', List.length_take, List.length_drop, List.length_append, List.length_cons, List.length_nil]; omega))) [b__law_quads_2, hC, e1, ea]
          · have e2 : adjP ps a c = true := by
              have e' := e
              simp [e1] at e'
              exact e'
            simp (disch := (first | omega | (simp only [List.length_map, mkM_len, fnM_len, List.length_range, List.length_range', List.length_take, List.length_drop, List.length_append, List.length_cons, List.length_nil]; omega))) [b__law_quads_2, hC, e1, e2, ez]
      · rintro sl' M' ⟨v5, v6, rfl, rfl⟩
        simp [lqB]
    · rintro sl' M' ⟨v4, v5, v6, rfl, rfl⟩
      simp [lqA]
  · rintro sl' M' ⟨v3, v4, v5, v6, rfl, rfl⟩
    rw [show List.flatMap (lqA n ps) (List.range n) = lq n ps from rfl]
    simp (disch := (first | omega | (simp only [List.length_map, mkM_len, fnM_len, List.length_range, List.length_range', List.length_take, List.length_drop, List.length_append, List.length_cons, List.length_nil]; omega))) [bi_quads]
end K

namespace K
open PySem DI Ev
theorem mem_lq {n : Nat} {ps : List (Nat × Nat)} {r : Nat × Nat × Nat × Nat} : r ∈ lq n ps ↔ r ∈ r4 n (adjP ps) := by
  rw [mem_r4]
  obtain ⟨a, b, c, d⟩ := r
  unfold lq lqA lqB nr
  simp only [List.mem_flatMap, List.mem_filter, List.mem_range]
  constructor
  · rintro ⟨a', h1, b', ⟨h2, h3⟩, c', ⟨h4, h5⟩, h6⟩
    unfold lqC at h6
    split at h6
    · rename_i h7
      simp only [List.mem_map, List.mem_filter, nr, List.mem_range, lqT, Bool.and_eq_true, decide_eq_true_eq, Bool.not_eq_true', decide_eq_false_iff_not, Prod.mk.injEq] at h6 h7
      obtain ⟨d', ⟨⟨k1, k2⟩, k3, k4, k5, k6⟩, rfl, rfl, rfl, rfl⟩ := h6
      exact ⟨h1, h2, h4, k1, h3, h5, h7.2, h7.1, k2, k5, k6, k4, k3⟩
    · cases h6
  · rintro ⟨h1, h2, h3, h4, h5, h6, h7, h8, h9, h10, h11, h12, h13⟩
    refine ⟨a, h1, b, ⟨h2, h5⟩, c, ⟨h3, h6⟩, ?_⟩
    unfold lqC
    rw [if_pos (by simp; exact ⟨h8, h7⟩)]
    simp only [List.mem_map, List.mem_filter, nr, List.mem_range, lqT, Bool.and_eq_true, decide_eq_true_eq, Bool.not_eq_true', decide_eq_false_iff_not, Prod.mk.injEq]
    exact ⟨d, ⟨⟨h4, h9⟩, h13, h12, h10, h11⟩, by simp⟩
theorem mem_quads {n : Nat} {ps : List (Nat × Nat)} {r : Nat × Nat × Nat × Nat} : r ∈ quadsL n ps ↔ r ∈ r4 n (adjP ps) := by
  rw [(quadsL_perm n ps).mem_iff, mem_lq]
theorem any_congr {α : Type} {l m : List α} {p : α → Bool} (h : ∀ x, x ∈ l ↔ x ∈ m) : l.any p = m.any p := by
  rw [Bool.eq_iff_iff, List.any_eq_true, List.any_eq_true]
  constructor
  · rintro ⟨x, h1, h2⟩; exact ⟨x, (h x).mp h1, h2⟩
  · rintro ⟨x, h1, h2⟩; exact ⟨x, (h x).mpr h1, h2⟩
theorem endB_quads (n : Nat) (ps : List (Nat × Nat)) (kp : Nat → Bool) (x : Nat) : endB (quadsL n ps) kp x = endB (r4 n (adjP ps)) kp x := any_congr fun _ => mem_quads
theorem midB_quads (n : Nat) (ps : List (Nat × Nat)) (kp : Nat → Bool) (x : Nat) : midB (quadsL n ps) kp x = midB (r4 n (adjP ps)) kp x := any_congr fun _ => mem_quads
theorem quads_len (n : Nat) (ps : List (Nat × Nat)) (hn : n ≤ 30) : (quadsL n ps).length ≤ 810000 := by
  rw [(quadsL_perm n ps).length_eq]
  have h2 : n * n ≤ 30 * 30 := mul_le hn hn
  have h3 : n * (n * n) ≤ 30 * (30 * 30) := mul_le hn h2
  have h4 : n * (n * (n * n)) ≤ 30 * (30 * (30 * 30)) := mul_le hn h3
  exact Nat.le_trans (lq_len n ps) h4
theorem four_in (left : List Nat) (r : Nat × Nat × Nat × Nat) : (([r.1, r.2.1, r.2.2.1, r.2.2.2].filter (memB left)).length = 4) ↔ inR (memB left) r = true := by
  have h4 : [r.1, r.2.1, r.2.2.1, r.2.2.2].length = 4 := rfl
  rw [← h4, List.length_filter_eq_length_iff]
  unfold inR
  simp [and_assoc]
theorem run__law_inside (k : Nat) (qs : R4) (left : List Nat) (M : Sto) (hq : qs.length ≤ 1000000) :
    run pk.prg pk.fs (k + 1) F__law_inside [.p (.lst (qs.map dq)), .p (.lst (left.map dn))] M = .ok (.p true (.lst ((qs.filter (inR (memB left))).map dq))) M := by
  rw [run_eq fs__law_inside _ rfl]
  simp (disch := (first | omega | (simp only [List.length_map, mkM_len, fnM_len, List.length_range, List.length_range', List.length_take, List.length_drop, List.length_append, List.length_cons, List.length_nil]; omega))) [b__law_inside, n__law_inside]
  rw [lc_map (fun r => if inR (memB left) r = true then some (dq r) else none) ?h]
  case h =>
    intro r hr
    simp (disch := (first | omega | (simp only [List.length_map, mkM_len, fnM_len, List.length_range, List.length_range', List.length_take, List.length_drop, List.length_append, List.length_cons, List.length_nil]; omega))) [seqR_is (seq_dq r)]
    have hf := four_in left r
    have hl := List.length_filter_le (memB left) [r.1, r.2.1, r.2.2.1, r.2.2.2]
    have h4 : [r.1, r.2.1, r.2.2.1, r.2.2.2].length = 4 := rfl
    rw [h4] at hl
    rw [show [dn r.1, dn r.2.1, dn r.2.2.1, dn r.2.2.2] = [r.1, r.2.1, r.2.2.1, r.2.2.2].map dn from rfl, lc_map (fun x => if memB left x = true then some (dn x) else none) (fun x _ => by
      have z : memB left x = decide (x ∈ left) := rfl
      cases q : memB left x <;> rw [q] at z <;> simp [← z]), filterMap_if, rb_ok, lstOf_ok (by rw [List.length_map]; omega)]
    generalize [r.1, r.2.1, r.2.2.1, r.2.2.2].filter (memB left) = fl at hf hl
    by_cases q : inR (memB left) r = true
    · have q4 := hf.mpr q
      simp (disch := (first | omega | (simp only [List.length_map, mkM_len, fnM_len, List.length_range, List.length_range', List.length_take, List.length_drop, List.length_append, List.length_cons, List.length_nil]; omega))) [q4, q]
    · have q4 : ¬ fl.length = 4 := fun w => q (hf.mp w)
      simp (disch := (first | omega | (simp only [List.length_map, mkM_len, fnM_len, List.length_range, List.length_range', List.length_take, List.length_drop, List.length_append, List.length_cons, List.length_nil]; omega))) [q4, q]
  have hl := List.length_filter_le (inR (memB left)) qs
  rw [filterMap_if, rb_ok, lstOf_ok (by rw [List.length_map]; omega)]
  simp (disch := (first | omega | (simp only [List.length_map, mkM_len, fnM_len, List.length_range, List.length_range', List.length_take, List.length_drop, List.length_append, List.length_cons, List.length_nil]; omega))) []
end K

namespace K
open PySem DI Ev
theorem none_end {rows : R4} {kp : Nat → Bool} {p : Nat × Nat × Nat × Nat → Bool} : (((rows.filter (inR kp)).filter p).length = 0) ↔ (rows.any fun r => inR kp r && p r) = false := by
  rw [List.length_eq_zero_iff, List.filter_filter, List.filter_eq_nil_iff, List.any_eq_false]
  constructor
  · intro h r hr q
    rw [Bool.and_eq_true] at q
    exact h r hr (by rw [Bool.and_eq_true]; exact ⟨q.2, q.1⟩)
  · intro h r hr q
    rw [Bool.and_eq_true] at q
    exact h r hr (by rw [Bool.and_eq_true]; exact ⟨q.2, q.1⟩)
theorem run__law_no_end (k : Nat) (qs : R4) (left : List Nat) (x : Nat) (M : Sto) (hq : qs.length ≤ 1000000) :
    run pk.prg pk.fs (k + 2) F__law_no_end [.p (.lst (qs.map dq)), .p (.lst (left.map dn)), .p (dn x)] M = .ok (.p false (.bl (!endB qs (memB left) x))) M := by
  rw [run_eq fs__law_no_end _ rfl]
  have hi := run__law_inside k qs left M hq
  simp (disch := (first | omega | (simp only [List.length_map, mkM_len, fnM_len, List.length_range, List.length_range', List.length_take, List.length_drop, List.length_append, List.length_cons, List.length_nil]; omega))) [b__law_no_end, n__law_no_end, hi]
  rw [lc_map (fun r => if (decide (x = r.1) || decide (x = r.2.2.2)) = true then some (dq r) else none) (fun r _ => by
    by_cases q1 : x = r.1 <;> by_cases q2 : x = r.2.2.2 <;> simp [q1, q2])]
  have hl := List.length_filter_le (fun r : Nat × Nat × Nat × Nat => decide (x = r.1) || decide (x = r.2.2.2)) (qs.filter (inR (memB left)))
  have hl2 := List.length_filter_le (inR (memB left)) qs
  have hz := none_end (rows := qs) (kp := memB left) (p := fun r => decide (x = r.1) || decide (x = r.2.2.2))
  rw [filterMap_if, rb_ok, lstOf_ok (by rw [List.length_map]; omega)]
  have he : endB qs (memB left) x = qs.any fun r => inR (memB left) r && (decide (x = r.1) || decide (x = r.2.2.2)) := rfl
  rw [he]
  generalize (qs.any fun r => inR (memB left) r && (decide (x = r.1) || decide (x = r.2.2.2))) = b at hz
  generalize ((qs.filter (inR (memB left))).filter fun r => decide (x = r.1) || decide (x = r.2.2.2)) = fl at hz
  cases b with
  | false => have h0 := hz.mpr rfl; simp (disch := (first | omega | (simp only [List.length_map, mkM_len, fnM_len, List.length_range, List.length_range', List.length_take, List.length_drop, List.length_append, List.length_cons, List.length_nil]; omega))) [h0]
  | true => have h0 : ¬ fl.length = 0 := fun w => absurd (hz.mp w) (by simp); simp (disch := (first | omega | (simp only [List.length_map, mkM_len, fnM_len, List.length_range, List.length_range', List.length_take, List.length_drop, List.length_append, List.length_cons, List.length_nil]; omega))) [h0]
theorem run__law_no_middle (k : Nat) (qs : R4) (left : List Nat) (x : Nat) (M : Sto) (hq : qs.length ≤ 1000000) :
    run pk.prg pk.fs (k + 2) F__law_no_middle [.p (.lst (qs.map dq)), .p (.lst (left.map dn)), .p (dn x)] M = .ok (.p false (.bl (!midB qs (memB left) x))) M := by
  rw [run_eq fs__law_no_middle _ rfl]
  have hi := run__law_inside k qs left M hq
  simp (disch := (first | omega | (simp only [List.length_map, mkM_len, fnM_len, List.length_range, List.length_range', List.length_take, List.length_drop, List.length_append, List.length_cons, List.length_nil]; omega))) [b__law_no_middle, n__law_no_middle, hi]
  rw [lc_map (fun r => if (decide (x = r.2.1) || decide (x = r.2.2.1)) = true then some (dq r) else none) (fun r _ => by
    by_cases q1 : x = r.2.1 <;> by_cases q2 : x = r.2.2.1 <;> simp [q1, q2])]
  have hl := List.length_filter_le (fun r : Nat × Nat × Nat × Nat => decide (x = r.2.1) || decide (x = r.2.2.1)) (qs.filter (inR (memB left)))
  have hl2 := List.length_filter_le (inR (memB left)) qs
  have hz := none_end (rows := qs) (kp := memB left) (p := fun r => decide (x = r.2.1) || decide (x = r.2.2.1))
  rw [filterMap_if, rb_ok, lstOf_ok (by rw [List.length_map]; omega)]
  have he : midB qs (memB left) x = qs.any fun r => inR (memB left) r && (decide (x = r.2.1) || decide (x = r.2.2.1)) := rfl
  rw [he]
  generalize (qs.any fun r => inR (memB left) r && (decide (x = r.2.1) || decide (x = r.2.2.1))) = b at hz
  generalize ((qs.filter (inR (memB left))).filter fun r => decide (x = r.2.1) || decide (x = r.2.2.1)) = fl at hz
  cases b with
  | false => have h0 := hz.mpr rfl; simp (disch := (first | omega | (simp only [List.length_map, mkM_len, fnM_len, List.length_range, List.length_range', List.length_take, List.length_drop, List.length_append, List.length_cons, List.length_nil]; omega))) [h0]
  | true => have h0 : ¬ fl.length = 0 := fun w => absurd (hz.mp w) (by simp); simp (disch := (first | omega | (simp only [List.length_map, mkM_len, fnM_len, List.length_range, List.length_range', List.length_take, List.length_drop, List.length_append, List.length_cons, List.length_nil]; omega))) [h0]
theorem run__law_able (k : Nat) (qs : R4) (left : List Nat) (M : Sto) (hq : qs.length ≤ 1000000) (hl : left.length ≤ 1000) :
    run pk.prg pk.fs (k + 3) F__law_able [.p (.lst (qs.map dq)), .p (.lst (left.map dn))] M = .ok (.p true (.lst ((left.filter fun x => !endB qs (memB left) x || !midB qs (memB left) x).map dn))) M := by
  rw [run_eq fs__law_able _ rfl]
  simp (disch := (first | omega | (simp only [List.length_map, mkM_len, fnM_len, List.length_range, List.length_range', List.length_take, List.length_drop, List.length_append, List.length_cons, List.length_nil]; omega))) [b__law_able, n__law_able]
  have h1 := fun x => run__law_no_end k qs left x M hq
  have h2 := fun x => run__law_no_middle k qs left x M hq
  rw [lc_map (fun x => if (!endB qs (memB left) x || !midB qs (memB left) x) = true then some (dn x) else none) (fun x _ => by
    cases q1 : endB qs (memB left) x <;> cases q2 : midB qs (memB left) x <;> simp [h1, h2, q1, q2])]
  have hl2 := List.length_filter_le (fun x => !endB qs (memB left) x || !midB qs (memB left) x) left
  rw [filterMap_if, rb_ok, lstOf_ok (by rw [List.length_map]; omega)]
  simp (disch := (first | omega | (simp only [List.length_map, mkM_len, fnM_len, List.length_range, List.length_range', List.length_take, List.length_drop, List.length_append, List.length_cons, List.length_nil]; omega))) []
end K

namespace K
open PySem DI Ev
/-- the law's way to the core: all that may go goes at once -/
def cs (n : Nat) (qs : R4) : Nat → List Nat
  | 0 => List.range n
  | m + 1 => (cs n qs m).filter fun x => endB qs (memB (cs n qs m)) x && midB qs (memB (cs n qs m)) x
theorem cs_len (n : Nat) (qs : R4) : ∀ m, (cs n qs m).length ≤ n
  | 0 => by simp [cs]
  | m + 1 => Nat.le_trans (List.length_filter_le _ _) (cs_len n qs m)
def endL (rs : R4) : List Nat := rs.flatMap fun r => [r.1, r.2.2.2]
def midL (rs : R4) : List Nat := rs.flatMap fun r => [r.2.1, r.2.2.1]
theorem endL_len (rs : R4) : (endL rs).length ≤ 2 * rs.length := by
  have := flatMap_len (f := fun r : Nat × Nat × Nat × Nat => [r.1, r.2.2.2]) (m := 2) (xs := rs) fun _ _ => by simp
  unfold endL; omega
theorem midL_len (rs : R4) : (midL rs).length ≤ 2 * rs.length := by
  have := flatMap_len (f := fun r : Nat × Nat × Nat × Nat => [r.2.1, r.2.2.1]) (m := 2) (xs := rs) fun _ _ => by simp
  unfold midL; omega
theorem memB_end (qs : R4) (kp : Nat → Bool) (x : Nat) : decide (x ∈ endL (qs.filter (inR kp))) = endB qs kp x := by
  unfold endL endB
  rw [Bool.eq_iff_iff, decide_eq_true_eq, List.any_eq_true]
  simp only [List.mem_flatMap, List.mem_filter, List.mem_cons, List.not_mem_nil, or_false, Bool.and_eq_true, Bool.or_eq_true, decide_eq_true_eq]
  constructor
  · rintro ⟨r, ⟨h1, h2⟩, h3⟩; exact ⟨r, h1, h2, h3⟩
  · rintro ⟨r, h1, h2, h3⟩; exact ⟨r, ⟨h1, h2⟩, h3⟩
theorem memB_mid (qs : R4) (kp : Nat → Bool) (x : Nat) : decide (x ∈ midL (qs.filter (inR kp))) = midB qs kp x := by
  unfold midL midB
  rw [Bool.eq_iff_iff, decide_eq_true_eq, List.any_eq_true]
  simp only [List.mem_flatMap, List.mem_filter, List.mem_cons, List.not_mem_nil, or_false, Bool.and_eq_true, Bool.or_eq_true, decide_eq_true_eq]
  constructor
  · rintro ⟨r, ⟨h1, h2⟩, h3⟩; exact ⟨r, h1, h2, h3⟩
  · rintro ⟨r, h1, h2, h3⟩; exact ⟨r, ⟨h1, h2⟩, h3⟩
theorem run__law_core (k n : Nat) (qs : R4) (M : Sto) (hn : n ≤ 30) (hq : qs.length ≤ 1000000) :
    run pk.prg pk.fs (k + 1) F__law_core [.p (dn n), .p (.lst (qs.map dq))] M = .ok (.p false (.lst ((cs n qs n).map dn))) M := by
  rw [run_eq fs__law_core _ rfl]
  simp (disch := (first | omega | (simp only [List.length_map, mkM_len, fnM_len, List.length_range, List.length_range', List.length_take, List.length_drop, List.length_append, List.length_cons, List.length_nil]; omega))) [b__law_core, n__law_core]
  rw [lc_map (fun x => some (dn x)) (fun i _ => by simp), filterMap_some, rb_ok, lstOf_ok (by simp; omega)]
  simp (disch := (first | omega | (simp only [List.length_map, mkM_len, fnM_len, List.length_range, List.length_range', List.length_take, List.length_drop, List.length_append, List.length_cons, List.length_nil]; omega))) []
  with_reducible refine for_end (fun pre sl M' => ∃ v3 v4 v5 v6 v7 v8, sl = [some (.p (dn n)), some (.p (.lst (qs.map dq))), some (.p (.lst ((cs n qs pre.length).map dn))), v3, v4, v5, v6, v7, v8] ∧ M' = M) ⟨none, none, none, none, none, none, rfl, rfl⟩ ?_ ?_
  · rintro pre x post hx sl M' ⟨v3, v4, v5, v6, v7, v8, rfl, rfl⟩
    have hcs : cs n qs (pre.length + 1) = (cs n qs pre.length).filter fun x => endB qs (memB (cs n qs pre.length)) x && midB qs (memB (cs n qs pre.length)) x := rfl
    have hcl := cs_len n qs pre.length
    generalize cs n qs pre.length = left at hcs hcl
    simp (disch := (first | omega | (simp only [List.length_map, mkM_len, fnM_len, List.length_range, List.length_range', List.length_take, List.length_drop, List.length_append, List.length_cons, List.length_nil]; omega))) [b__law_core_2]
    rw [lc_map (fun r => if inR (memB left) r = true then some (dq r) else none) ?h]
    case h =>
      intro r hr
      simp (disch := (first | omega | (simp only [List.length_map, mkM_len, fnM_len, List.length_range, List.length_range', List.length_take, List.length_drop, List.length_append, List.length_cons, List.length_nil]; omega))) [seqR_is (seq_dq r)]
      have hf := four_in left r
      have hl := List.length_filter_le (memB left) [r.1, r.2.1, r.2.2.1, r.2.2.2]
      have h4 : [r.1, r.2.1, r.2.2.1, r.2.2.2].length = 4 := rfl
      rw [h4] at hl
      rw [show [dn r.1, dn r.2.1, dn r.2.2.1, dn r.2.2.2] = [r.1, r.2.1, r.2.2.1, r.2.2.2].map dn from rfl, lc_map (fun x => if memB left x = true then some (dn x) else none) (fun x _ => by
        have z : memB left x = decide (x ∈ left) := rfl
        cases q : memB left x <;> rw [q] at z <;> simp [← z]), filterMap_if, rb_ok, lstOf_ok (by rw [List.length_map]; omega)]
      generalize [r.1, r.2.1, r.2.2.1, r.2.2.2].filter (memB left) = fl at hf hl
      by_cases q : inR (memB left) r = true
      · have q4 := hf.mpr q
        simp (disch := (first | omega | (simp only [List.length_map, mkM_len, fnM_len, List.length_range, List.length_range', List.length_take, List.length_drop, List.length_append, List.length_cons, List.length_nil]; omega))) [q4, q]
      · have q4 : ¬ fl.length = 4 := fun w => q (hf.mp w)
        simp (disch := (first | omega | (simp only [List.length_map, mkM_len, fnM_len, List.length_range, List.length_range', List.length_take, List.length_drop, List.length_append, List.length_cons, List.length_nil]; omega))) [q4, q]
    have hl := List.length_filter_le (inR (memB left)) qs
    rw [filterMap_if, rb_ok, lstOf_ok (by rw [List.length_map]; omega)]
    have he := memB_end qs (memB left)
    have hm := memB_mid qs (memB left)
    generalize qs.filter (inR (memB left)) = ins at hl he hm
    simp (disch := (first | omega | (simp only [List.length_map, mkM_len, fnM_len, List.length_range, List.length_range', List.length_take, List.length_drop, List.length_append, List.length_cons, List.length_nil]; omega))) []
    with_reducible refine for_goes (fun pre2 sl M2 => ∃ v7, sl = [some (.p (dn n)), some (.p (.lst (qs.map dq))), some (.p (.lst (left.map dn))), some (.p (dn x)), some (.p (.lst (ins.map dq))), some (.p (.lst ((endL pre2).map dn))), some (.p (.lst ((midL pre2).map dn))), v7, v8] ∧ M2 = M') ?_ ?_ ?_
    · exact ⟨v7, rfl, rfl⟩
    · rintro pre2 r post2 hr sl M2 ⟨v7, rfl, rfl⟩
      have h1 := endL_len pre2
      have h2 := midL_len pre2
      have h3 : pre2.length ≤ ins.length := by
        have := congrArg List.length hr
        simp at this; omega
      simp (disch := (first | omega | (simp only [List.length_map, mkM_len, fnM_len, List.length_range, List.length_range', List.length_take, List.length_drop, List.length_append, List.length_cons, List.length_nil]; omega))) [b__law_core_1]
      constructor <;> simp [endL, midL]
    · rintro sl' M' ⟨v7, rfl, rfl⟩
      simp (disch := (first | omega | (simp only [List.length_map, mkM_len, fnM_len, List.length_range, List.length_range', List.length_take, List.length_drop, List.length_append, List.length_cons, List.length_nil]; omega))) []
      rw [lc_map (fun x => if (endB qs (memB left) x && midB qs (memB left) x) = true then some (dn x) else none) (fun y _ => by
        have e1 := he y
        have e2 := hm y
        cases q1 : endB qs (memB left) y <;> cases q2 : midB qs (memB left) y <;> rw [q1] at e1 <;> rw [q2] at e2 <;> simp at e1 e2 <;> simp [e1, e2])]
      have hl3 := List.length_filter_le (fun x => endB qs (memB left) x && midB qs (memB left) x) left
      rw [filterMap_if, rb_ok, lstOf_ok (by rw [List.length_map]; omega), ← hcs]
      simp (disch := (first | omega | (simp only [List.length_map, mkM_len, fnM_len, List.length_range, List.length_range', List.length_take, List.length_drop, List.length_append, List.length_cons, List.length_nil]; omega))) []
  · rintro sl' M' ⟨v3, v4, v5, v6, v7, v8, rfl, rfl⟩
    simp (disch := (first | omega | (simp only [List.length_map, mkM_len, fnM_len, List.length_range, List.length_range', List.length_take, List.length_drop, List.length_append, List.length_cons, List.length_nil]; omega))) []
end K

namespace K
open PySem DI Ev
theorem cs_form (n : Nat) (qs : R4) : ∀ m, ∃ p : Nat → Bool, cs n qs m = (List.range n).filter p
  | 0 => ⟨fun _ => true, (List.filter_eq_self.mpr fun _ _ => rfl).symm⟩
  | m + 1 => by
    obtain ⟨p, h⟩ := cs_form n qs m
    refine ⟨fun x => (endB qs (memB (cs n qs m)) x && midB qs (memB (cs n qs m)) x) && p x, ?_⟩
    rw [← List.filter_filter, ← h]
    rfl
theorem cs_lt {n : Nat} {qs : R4} {m x : Nat} (h : x ∈ cs n qs m) : x < n := by
  obtain ⟨p, e⟩ := cs_form n qs m
  rw [e, List.mem_filter, List.mem_range] at h
  exact h.1
def Stab (qs : R4) (l : List Nat) : Prop := ∀ x ∈ l, endB qs (memB l) x = true ∧ midB qs (memB l) x = true
theorem cs_stab (n : Nat) (qs : R4) : ∀ m, Stab qs (cs n qs m) ∨ (cs n qs m).length + m ≤ n
  | 0 => Or.inr (by simp [cs])
  | m + 1 => by
    by_cases hs : Stab qs (cs n qs m)
    · left
      have e : cs n qs (m + 1) = cs n qs m := by
        show (cs n qs m).filter _ = _
        rw [List.filter_eq_self]
        intro x hx
        have := hs x hx
        simp [this.1, this.2]
      rw [e]; exact hs
    · right
      rcases cs_stab n qs m with h | h
      · exact absurd h hs
      · have : (cs n qs (m + 1)).length < (cs n qs m).length := by
          show ((cs n qs m).filter _).length < _
          rw [List.length_filter_lt_length_iff_exists]
          apply Classical.byContradiction
          intro hn
          refine hs fun x hx => ?_
          have : ¬ ¬ (endB qs (memB (cs n qs m)) x && midB qs (memB (cs n qs m)) x) = true := fun q => hn ⟨x, hx, q⟩
          simpa using this
        omega
theorem cs_end (n : Nat) (qs : R4) : Stab qs (cs n qs n) := by
  rcases cs_stab n qs n with h | h
  · exact h
  · have : cs n qs n = [] := List.eq_nil_of_length_eq_zero (by omega)
    rw [this]; intro x hx; cases hx
theorem cs_fair {n : Nat} {qs : R4} {x : Nat} (h : InCore n qs x) : ∀ m, x ∈ cs n qs m
  | 0 => List.mem_range.mpr (core_lt h)
  | m + 1 => by
    have h1 : ∀ y, InCore n qs y → memB (cs n qs m) y = true := fun y hy => by unfold memB; rw [decide_eq_true_eq]; exact cs_fair hy m
    have h2 := core_in h1 h
    show x ∈ (cs n qs m).filter _
    rw [List.mem_filter]
    exact ⟨cs_fair h m, by simp [h2.1, h2.2]⟩
theorem core_quads {n : Nat} {ps : List (Nat × Nat)} {x : Nat} : InCore n (quadsL n ps) x ↔ InCore n (r4 n (adjP ps)) x := by
  unfold InCore
  simp only [endB_quads, midB_quads]
theorem quads_ltR {n : Nat} {ps : List (Nat × Nat)} : ∀ r ∈ quadsL n ps, ltR n r := fun r h => r4_ltR r (mem_quads.mp h)
theorem cs_core (n : Nat) (ps : List (Nat × Nat)) : cs n (quadsL n ps) n = coreL n (r4 n (adjP ps)) := by
  obtain ⟨p, e⟩ := cs_form n (quadsL n ps) n
  have hst := cs_end n (quadsL n ps)
  rw [e]
  unfold coreL
  refine List.filter_congr fun x hx => ?_
  have hx := List.mem_range.mp hx
  have dq : ∀ P : Prop, @decide P (Classical.propDecidable _) = true ↔ P := fun P => by simp
  rw [Bool.eq_iff_iff, dq, ← core_quads]
  have hm : p x = true ↔ x ∈ cs n (quadsL n ps) n := by
    rw [e, List.mem_filter, List.mem_range]; simp [hx]
  rw [hm]
  constructor
  · intro q
    refine core_of quads_ltR (p := memB (cs n (quadsL n ps) n)) (fun y _ hl => ?_) hx (by unfold memB; rw [decide_eq_true_eq]; exact q)
    unfold memB at hl
    rw [decide_eq_true_eq] at hl
    exact hst y hl
  · intro q; exact cs_fair q n
end K

namespace K
open PySem DI Ev
@[simp] theorem run__law_int (k x : Nat) (M : Sto) : run pk.prg pk.fs (k + 1) F__law_int [.p (dn x)] M = .ok (.p false (.bl true)) M := by
  rw [run_eq fs__law_int _ rfl]
  simp (disch := (first | omega | (simp only [List.length_map, mkM_len, fnM_len, List.length_range, List.length_range', List.length_take, List.length_drop, List.length_append, List.length_cons, List.length_nil]; omega))) [b__law_int, n__law_int]
theorem run__law_same_row (k : Nat) (xs : List Nat) (M : Sto) (hl : xs.length ≤ 1000) :
    run pk.prg pk.fs (k + 2) F__law_same_row [.p (.tup (xs.map dn)), .p (.lst (xs.map dn))] M = .ok (.p false (.bl true)) M := by
  rw [run_eq fs__law_same_row _ rfl]
  simp (disch := (first | omega | (simp only [List.length_map, mkM_len, fnM_len, List.length_range, List.length_range', List.length_take, List.length_drop, List.length_append, List.length_cons, List.length_nil]; omega))) [b__law_same_row, n__law_same_row]
  rw [lc_map (fun i => (none : Option D)) (fun i hi => by
    have h := List.mem_range.mp hi
    have h1 : idxD (.tup (xs.map dn)) (dn i) = some (dn xs[i]) := idx_tup (by simp [h])
    have h2 : idxD (.lst (xs.map dn)) (dn i) = some (dn xs[i]) := idx_lst (by simp [h])
    simp (disch := (first | omega | (simp only [List.length_map, mkM_len, fnM_len, List.length_range, List.length_range', List.length_take, List.length_drop, List.length_append, List.length_cons, List.length_nil]; omega))) [h1, h2])]
  have e : (List.range xs.length).filterMap (fun _ => (none : Option D)) = [] := by simp
  rw [rb_ok, e, lstOf_ok (by simp)]
  simp (disch := (first | omega | (simp only [List.length_map, mkM_len, fnM_len, List.length_range, List.length_range', List.length_take, List.length_drop, List.length_append, List.length_cons, List.length_nil]; omega))) []
end K

namespace K
open PySem DI Ev
theorem pl_side (b : Bool) : plainD (sideS b) = true ∧ depD (sideS b) = 0 := by
  cases b
  · exact ⟨pl_back, rfl⟩
  · exact ⟨pl_front, rfl⟩
@[simp] theorem side_eqf (b : Bool) : cmpD .Eq (sideS b) (.str ("front" : Str)) = some b := by
  show deq _ _ = _
  rw [deq_ok (b := b) (pl_side b).1 pl_front (by rw [(pl_side b).2]; omega) (by decide) (by cases b <;> simp [sideS] <;> decide)]
@[simp] theorem side_eqb (b : Bool) : cmpD .Eq (sideS b) (.str ("back" : Str)) = some (!b) := by
  show deq _ _ = _
  rw [deq_ok (b := !b) (pl_side b).1 pl_back (by rw [(pl_side b).2]; omega) (by decide) (by cases b <;> simp [sideS] <;> decide)]
theorem pD_plain (q : Nat × Bool) : plainD (pD q) = true ∧ depD (pD q) ≤ 1 := by
  unfold pD
  have h := pl_side q.2
  refine ⟨?_, ?_⟩
  · show (plainD (dn q.1) && (plainD (sideS q.2) && true)) = true
    rw [h.1]; rfl
  · show max (depD (dn q.1)) (max (depD (sideS q.2)) 0) + 1 ≤ 1
    rw [h.2, show depD (dn q.1) = 0 from rfl]; decide
theorem pDs_plain : ∀ ts : List (Nat × Bool), plainDs (ts.map pD) = true ∧ depDs (ts.map pD) ≤ 1
  | [] => ⟨rfl, Nat.zero_le _⟩
  | q :: ts => by
    obtain ⟨h1, h2⟩ := pDs_plain ts
    obtain ⟨h3, h4⟩ := pD_plain q
    refine ⟨?_, ?_⟩
    · show (plainD (pD q) && plainDs (ts.map pD)) = true
      rw [h1, h3]; rfl
    · show max (depD (pD q)) (depDs (ts.map pD)) ≤ 1
      omega
theorem eq_pairs (ts : List (Nat × Bool)) : cmpD .Eq (.tup (ts.map pD)) (.tup (ts.map pD)) = some true := by
  obtain ⟨h1, h2⟩ := pDs_plain ts
  have h3 : depD (.tup (ts.map pD)) ≤ 60 := by show depDs (ts.map pD) + 1 ≤ 60; omega
  show deq _ _ = _
  exact deq_ok (b := true) h1 h1 h3 h3 (by simp)
theorem run__law_state (k n : Nat) (a : Nat → Nat → Bool) (ts : List (Nat × Bool)) (M : Sto) (j : Nat) (hn : n ≤ 60) (ht : ts.length ≤ 1000) (hg : M[j]? = some (.live (takeD n a ts))) :
    run pk.prg pk.fs (k + 3) F__law_state [.own j, .p (.lst ((leftL n ts).map dn)), .p (.lst (ts.map pD))] M = .ok (.p false (.bl true)) M := by
  rw [run_eq fs__law_state _ rfl]
  obtain ⟨l1, l2⟩ := tk_len ts
  have l3 : (leftL n ts).length ≤ 1000 := by
    have := List.length_filter_le (leftP ts) (List.range n)
    rw [List.length_range] at this
    unfold leftL; omega
  have i0 : ∀ q : Nat × Bool, idxD (pD q) (dn 0) = some (dn q.1) := fun q => idx_tup (by simp)
  have i1 : ∀ q : Nat × Bool, idxD (pD q) (dn 1) = some (sideS q.2) := fun q => idx_tup (by simp)
  have hL := propR_left (k + 1) n a ts M j hn ht hg
  have hR := propR_row (k + 1) n a ts M j hg
  have s1 := run__law_same_row k (leftL n ts) M l3
  have s2 := run__law_same_row k (frL ts) M (by omega)
  have s3 := run__law_same_row k (bkL ts) M (by omega)
  simp (disch := (first | omega | (simp only [List.length_map, mkM_len, fnM_len, List.length_range, List.length_range', List.length_take, List.length_drop, List.length_append, List.length_cons, List.length_nil]; omega))) [b__law_state, n__law_state]
  rw [lc_map (fun q => if q.2 = true then some (dn q.1) else none) (fun q _ => by cases z : q.2 <;> simp [i0, i1, z])]
  have e1 : ts.filterMap (fun q => if q.2 = true then some (dn q.1) else none) = (frL ts).map dn := by
    rw [filterMap_if (fun q : Nat × Bool => q.2) (fun q => dn q.1)]; simp [frL]
  rw [rb_ok, e1, lstOf_ok (by rw [List.length_map]; omega)]
  simp (disch := (first | omega | (simp only [List.length_map, mkM_len, fnM_len, List.length_range, List.length_range', List.length_take, List.length_drop, List.length_append, List.length_cons, List.length_nil]; omega))) []
  rw [lc_map (fun q => if (!q.2) = true then some (dn q.1) else none) (fun q _ => by cases z : q.2 <;> simp [i0, i1, z])]
  have e2 : ts.filterMap (fun q => if (!q.2) = true then some (dn q.1) else none) = (bkL ts).map dn := by
    rw [filterMap_if (fun q : Nat × Bool => !q.2) (fun q => dn q.1)]; simp [bkL]
  rw [rb_ok, e2, lstOf_ok (by rw [List.length_map]; omega)]
  simp (disch := (first | omega | (simp only [List.length_map, mkM_len, fnM_len, List.length_range, List.length_range', List.length_take, List.length_drop, List.length_append, List.length_cons, List.length_nil]; omega))) [hL, hR, s1, s2, s3, fldR_own _ _ _ hg, hg, eq_pairs]
end K

namespace K
open PySem DI Ev
theorem run_take_nothing (k n : Nat) (a : Nat → Nat → Bool) (ts : List (Nat × Bool)) (d s : D) (M : Sto) (j : Nat) (hn : n ≤ 60) (ht : ts.length ≤ 1000) (hg : M[j]? = some (.live (takeD n a ts))) (hd : fmtD d = true)
    (hb : run pk.prg pk.fs (k + 3) F_is_thing [.p (dn n), .p d] M = .ok (.p false (.bl false)) M) :
    run pk.prg pk.fs (k + 4) F_Taking_take [.own j, .p d, .p s] M = .exc (exBT d) M := by
  rw [run_eq fs_Taking_take M rfl]
  simp (disch := (first | omega | (simp only [List.length_map, mkM_len, fnM_len, List.length_range, List.length_range', List.length_take, List.length_drop, List.length_append, List.length_cons, List.length_nil]; omega))) [b_Taking_take, n_Taking_take, fldR_own _ _ _ hg, propR_left _ n a ts M j hn ht hg, hb, hd, hg]
theorem run_take_gone (k n : Nat) (a : Nat → Nat → Bool) (ts : List (Nat × Bool)) (x : Nat) (s : D) (M : Sto) (j : Nat) (hn : n ≤ 60) (ht : ts.length ≤ 1000) (hg : M[j]? = some (.live (takeD n a ts))) (hx : x < 1000) (hl : x ∉ leftL n ts) :
    run pk.prg pk.fs (k + 4) F_Taking_take [.own j, .p (dn x), .p s] M = .exc (exBT (dn x)) M := by
  have hd : fmtD (dn x) = true := fmt_dn (by omega)
  rw [run_eq fs_Taking_take M rfl]
  by_cases q : x < n
  · simp (disch := (first | omega | (simp only [List.length_map, mkM_len, fnM_len, List.length_range, List.length_range', List.length_take, List.length_drop, List.length_append, List.length_cons, List.length_nil]; omega))) [b_Taking_take, n_Taking_take, fldR_own _ _ _ hg, propR_left _ n a ts M j hn ht hg, q, hl, hd, hg]
  · simp (disch := (first | omega | (simp only [List.length_map, mkM_len, fnM_len, List.length_range, List.length_range', List.length_take, List.length_drop, List.length_append, List.length_cons, List.length_nil]; omega))) [b_Taking_take, n_Taking_take, fldR_own _ _ _ hg, propR_left _ n a ts M j hn ht hg, q, hd, hg]
theorem run_take_side (k n : Nat) (a : Nat → Nat → Bool) (ts : List (Nat × Bool)) (x : Nat) (s : D) (M : Sto) (j : Nat) (hn : n ≤ 60) (ht : ts.length ≤ 1000) (hg : M[j]? = some (.live (takeD n a ts))) (hx : x ∈ leftL n ts)
    (hs : cmpD .NotIn s (.tup [.non, .str ("front" : Str), .str ("back" : Str)]) = some true) :
    run pk.prg pk.fs (k + 4) F_Taking_take [.own j, .p (dn x), .p s] M = .exc exSide M := by
  rw [run_eq fs_Taking_take M rfl]
  have x1 := (left_lt.mp hx).1
  simp (disch := (first | omega | (simp only [List.length_map, mkM_len, fnM_len, List.length_range, List.length_range', List.length_take, List.length_drop, List.length_append, List.length_cons, List.length_nil]; omega))) [b_Taking_take, n_Taking_take, fldR_own _ _ _ hg, propR_left _ n a ts M j hn ht hg, x1, hx, hs, hg]
theorem isi_non : isiAny .non [("int" : Str)] = some false := by
  unfold isiAny isiD isiS isiAny
  rw [if_neg (by decide), if_pos (by decide)]; rfl
theorem isi_str (x : Str) : isiAny (.str x) [("int" : Str)] = some false := by
  unfold isiAny isiD isiS isiAny
  rw [if_neg (by decide), if_pos (by decide)]; rfl
theorem isi_int (i : Int) : isiAny (.int i) [("int" : Str)] = some true := by
  unfold isiAny isiD isiS
  rw [if_neg (by decide), if_pos (by decide)]; rfl
theorem isi_intb (i : Int) : isiAny (.int i) [("bool" : Str)] = some false := by
  unfold isiAny isiD isiS isiAny
  rw [if_pos (by decide)]; rfl
/-- the law's odd things: none is a thing -/
@[simp] theorem is_thing_non (k n : Nat) (M : Sto) : run pk.prg pk.fs (k + 2) F_is_thing [.p (dn n), .p .non] M = .ok (.p false (.bl false)) M := by
  have h : run pk.prg pk.fs (k + 1) F_is_int [.p .non] M = .ok (.p false (.bl false)) M := by
    rw [run_eq fs_is_int M rfl]
    simp (disch := (first | omega | (simp only [List.length_map, mkM_len, fnM_len, List.length_range, List.length_range', List.length_take, List.length_drop, List.length_append, List.length_cons, List.length_nil]; omega))) [b_is_int, n_is_int, isi_non, isi_str, isi_int, isi_intb]
  rw [run_eq fs_is_thing M rfl]
  simp (disch := (first | omega | (simp only [List.length_map, mkM_len, fnM_len, List.length_range, List.length_range', List.length_take, List.length_drop, List.length_append, List.length_cons, List.length_nil]; omega))) [b_is_thing, n_is_thing, h]
@[simp] theorem is_thing_str (k n : Nat) (x : Str) (M : Sto) : run pk.prg pk.fs (k + 2) F_is_thing [.p (dn n), .p (.str x)] M = .ok (.p false (.bl false)) M := by
  have h : run pk.prg pk.fs (k + 1) F_is_int [.p (.str x)] M = .ok (.p false (.bl false)) M := by
    rw [run_eq fs_is_int M rfl]
    simp (disch := (first | omega | (simp only [List.length_map, mkM_len, fnM_len, List.length_range, List.length_range', List.length_take, List.length_drop, List.length_append, List.length_cons, List.length_nil]; omega))) [b_is_int, n_is_int, isi_non, isi_str, isi_int, isi_intb]
  rw [run_eq fs_is_thing M rfl]
  simp (disch := (first | omega | (simp only [List.length_map, mkM_len, fnM_len, List.length_range, List.length_range', List.length_take, List.length_drop, List.length_append, List.length_cons, List.length_nil]; omega))) [b_is_thing, n_is_thing, h]
theorem is_thing_neg (k n : Nat) (i : Int) (hi : i < 0) (M : Sto) : run pk.prg pk.fs (k + 2) F_is_thing [.p (dn n), .p (.int i)] M = .ok (.p false (.bl false)) M := by
  have h : run pk.prg pk.fs (k + 1) F_is_int [.p (.int i)] M = .ok (.p false (.bl true)) M := by
    rw [run_eq fs_is_int M rfl]
    simp (disch := (first | omega | (simp only [List.length_map, mkM_len, fnM_len, List.length_range, List.length_range', List.length_take, List.length_drop, List.length_append, List.length_cons, List.length_nil]; omega))) [b_is_int, n_is_int, isi_non, isi_str, isi_int, isi_intb]
  have h2 : cmpD .LtE (dn 0) (.int i) = some false := by
    show some (decide ((0 : Int) ≤ i)) = _
    congr 1; simp; omega
  rw [run_eq fs_is_thing M rfl]
  simp (disch := (first | omega | (simp only [List.length_map, mkM_len, fnM_len, List.length_range, List.length_range', List.length_take, List.length_drop, List.length_append, List.length_cons, List.length_nil]; omega))) [b_is_thing, n_is_thing, h, h2]
end K

namespace K
open PySem DI Ev
@[simp] theorem side_isn (sd : Option Bool) : cmpD .IsNot (sdD sd) .non = some (decide (sd ≠ none)) := by
  rcases sd with _ | _ | _ <;> rfl
theorem memB_leftL {n : Nat} {ts : List (Nat × Bool)} {y : Nat} (h : y < n) : memB (leftL n ts) y = leftP ts y := by
  unfold memB
  rw [Bool.eq_iff_iff, decide_eq_true_eq, left_lt]
  simp [h]
theorem inR_congr {n : Nat} {p q : Nat → Bool} {r : Nat × Nat × Nat × Nat} (hr : ltR n r) (h : ∀ y, y < n → p y = q y) : inR p r = inR q r := by
  obtain ⟨h1, h2, h3, h4⟩ := hr
  unfold inR
  rw [h _ h1, h _ h2, h _ h3, h _ h4]
theorem endB_congr {n : Nat} {rows : R4} {p q : Nat → Bool} (hr : ∀ r ∈ rows, ltR n r) (h : ∀ y, y < n → p y = q y) (x : Nat) : endB rows p x = endB rows q x := by
  unfold endB
  rw [Bool.eq_iff_iff, List.any_eq_true, List.any_eq_true]
  constructor
  · rintro ⟨r, h1, h2⟩; exact ⟨r, h1, by rw [inR_congr (hr r h1) h] at h2; exact h2⟩
  · rintro ⟨r, h1, h2⟩; exact ⟨r, h1, by rw [inR_congr (hr r h1) h]; exact h2⟩
theorem midB_congr {n : Nat} {rows : R4} {p q : Nat → Bool} (hr : ∀ r ∈ rows, ltR n r) (h : ∀ y, y < n → p y = q y) (x : Nat) : midB rows p x = midB rows q x := by
  unfold midB
  rw [Bool.eq_iff_iff, List.any_eq_true, List.any_eq_true]
  constructor
  · rintro ⟨r, h1, h2⟩; exact ⟨r, h1, by rw [inR_congr (hr r h1) h] at h2; exact h2⟩
  · rintro ⟨r, h1, h2⟩; exact ⟨r, h1, by rw [inR_congr (hr r h1) h]; exact h2⟩
theorem eB_law (n : Nat) (ps : List (Nat × Nat)) (ts : List (Nat × Bool)) (x : Nat) : endB (quadsL n ps) (memB (leftL n ts)) x = eB n (adjP ps) ts x := by
  rw [endB_quads, endB_congr r4_ltR (fun y hy => memB_leftL hy)]; rfl
theorem mB_law (n : Nat) (ps : List (Nat × Nat)) (ts : List (Nat × Bool)) (x : Nat) : midB (quadsL n ps) (memB (leftL n ts)) x = mB n (adjP ps) ts x := by
  rw [midB_quads, midB_congr r4_ltR (fun y hy => memB_leftL hy)]; rfl
/-- what the law expects of a take of a thing that is left -/
def dueD (n : Nat) (a : Nat → Nat → Bool) (ts : List (Nat × Bool)) (x : Nat) (sd : Option Bool) : D :=
  if eB n a ts x = false ∧ ¬sd = some false then .lst [.str ("laid" : Str), .str ("front" : Str)]
  else if mB n a ts x = false ∧ ¬sd = some true then .lst [.str ("laid" : Str), .str ("back" : Str)]
  else .lst [.str ("none" : Str), .str ("take" : Str)]
theorem run__law_due (k n : Nat) (ps : List (Nat × Nat)) (ts : List (Nat × Bool)) (x : Nat) (sd : Option Bool) (M : Sto) (hn : n ≤ 30) (hx : x ∈ leftL n ts) :
    run pk.prg pk.fs (k + 3) F__law_due [.p (.lst ((quadsL n ps).map dq)), .p (.lst ((leftL n ts).map dn)), .p (dn x), .p (sdD sd)] M = .ok (.p true (dueD n (adjP ps) ts x sd)) M := by
  have hq : (quadsL n ps).length ≤ 1000000 := Nat.le_trans (quads_len n ps hn) (by omega)
  have h1 := run__law_no_end k (quadsL n ps) (leftL n ts) x M hq
  have h2 := run__law_no_middle k (quadsL n ps) (leftL n ts) x M hq
  rw [eB_law] at h1
  rw [mB_law] at h2
  rw [run_eq fs__law_due _ rfl]
  unfold dueD
  rcases sd with _ | _ | _ <;> cases q1 : eB n (adjP ps) ts x <;> cases q2 : mB n (adjP ps) ts x <;> simp (disch := (first | omega | (simp only [List.length_map, mkM_len, fnM_len, List.length_range, List.length_range', List.length_take, List.length_drop, List.length_append, List.length_cons, List.length_nil]; omega))) [b__law_due, n__law_due, hx, h1, h2, q1, q2]
end K

namespace K
open PySem DI Ev
@[simp] theorem hs1_no (a b : SRes) : hs1 (some false) a b = b := (rfl)
@[simp] theorem efl_thing (d : D) (M : Sto) : eflR pk.prg ("thing" : Str) (some (some (.exc (exBT d)))) M = .ok (.p false d) M := by rfl
@[simp] theorem efl_side (M : Sto) : eflR pk.prg ("name" : Str) (some (some (.exc exSide))) M = .ok (.p false (.str ("side" : Str))) M := by rfl
@[simp] theorem efl_take (M : Sto) : eflR pk.prg ("name" : Str) (some (some (.exc exTake))) M = .ok (.p false (.str ("take" : Str))) M := by rfl
@[simp] theorem exm_bt (d : D) : exmD pk.prg (exBT d).c X_BadThing = some true := by rfl
@[simp] theorem exm_side1 : exmD pk.prg exSide.c X_BadThing = some false := by rfl
@[simp] theorem exm_side2 : exmD pk.prg exSide.c X_BadNumber = some true := by rfl
@[simp] theorem exm_take1 : exmD pk.prg exTake.c X_BadThing = some false := by rfl
@[simp] theorem exm_take2 : exmD pk.prg exTake.c X_BadNumber = some false := by rfl
@[simp] theorem exm_take3 : exmD pk.prg exTake.c X_NoneSuch = some true := by rfl
/-- the takes behind a take that is asked -/
def tsN (n : Nat) (a : Nat → Nat → Bool) (ts : List (Nat × Bool)) (x : Nat) (sd : Option Bool) : List (Nat × Bool) :=
  if eB n a ts x = false ∧ ¬sd = some false then ts ++ [(x, true)]
  else if mB n a ts x = false ∧ ¬sd = some true then ts ++ [(x, false)]
  else ts
theorem run__law_told (k n : Nat) (a : Nat → Nat → Bool) (ts : List (Nat × Bool)) (x : Nat) (sd : Option Bool) (b : Bool) (M : Sto) (j : Nat) (hn : n ≤ 60) (ht : ts.length ≤ 1000) (hg : M[j]? = some (.live (takeD n a ts))) (hx : x ∈ leftL n ts) (hb : b = true → sd = none) :
    run pk.prg pk.fs (k + 5) F__law_told [.own j, .p (dn x), .p (sdD sd), .p (.bl b)] M = .ok (.p false (dueD n a ts x sd)) (M.set j (.live (takeD n a (tsN n a ts x sd)))) := by
  have hj : j < M.length := (List.getElem?_eq_some_iff.mp hg).1
  have hgg : M[j] = .live (takeD n a ts) := (List.getElem?_eq_some_iff.mp hg).2
  have hM : M.set j (.live (takeD n a ts)) = M := by rw [← hgg, List.set_getElem_self]
  have hr := run_take k n a ts x sd M j hn ht hg hx
  have hm : methD pk.prg ("take" : Str) (Cell.live (takeD n a ts)).d = some F_Taking_take := by rfl
  have fb : sideS true = .str ("front" : Str) ∧ sideS false = .str ("back" : Str) := ⟨rfl, rfl⟩
  rw [run_eq fs__law_told _ rfl]
  unfold dueD tsN
  by_cases q1 : eB n a ts x = false ∧ ¬sd = some false
  · rw [if_pos q1] at hr
    rw [if_pos q1, if_pos q1]
    cases b with
    | false => simp (disch := (first | omega | (simp only [List.length_map, mkM_len, fnM_len, List.length_range, List.length_range', List.length_take, List.length_drop, List.length_append, List.length_cons, List.length_nil]; omega))) [b__law_told, n__law_told, methR_own _ _ hg hm, hr, fb]
    | true =>
      cases hb rfl
      have hr' : run pk.prg pk.fs (k + 4) F_Taking_take [.own j, .p (dn x), .p .non] M = _ := hr
      simp (disch := (first | omega | (simp only [List.length_map, mkM_len, fnM_len, List.length_range, List.length_range', List.length_take, List.length_drop, List.length_append, List.length_cons, List.length_nil]; omega))) [b__law_told, n__law_told, methR_own _ _ hg hm, hr', fb]
  · rw [if_neg q1] at hr
    rw [if_neg q1, if_neg q1]
    by_cases q2 : mB n a ts x = false ∧ ¬sd = some true
    · rw [if_pos q2] at hr
      rw [if_pos q2, if_pos q2]
      cases b with
      | false => simp (disch := (first | omega | (simp only [List.length_map, mkM_len, fnM_len, List.length_range, List.length_range', List.length_take, List.length_drop, List.length_append, List.length_cons, List.length_nil]; omega))) [b__law_told, n__law_told, methR_own _ _ hg hm, hr, fb]
      | true =>
        cases hb rfl
        have hr' : run pk.prg pk.fs (k + 4) F_Taking_take [.own j, .p (dn x), .p .non] M = _ := hr
        simp (disch := (first | omega | (simp only [List.length_map, mkM_len, fnM_len, List.length_range, List.length_range', List.length_take, List.length_drop, List.length_append, List.length_cons, List.length_nil]; omega))) [b__law_told, n__law_told, methR_own _ _ hg hm, hr', fb]
    · rw [if_neg q2] at hr
      rw [if_neg q2, if_neg q2, hM]
      cases b with
      | false => simp (disch := (first | omega | (simp only [List.length_map, mkM_len, fnM_len, List.length_range, List.length_range', List.length_take, List.length_drop, List.length_append, List.length_cons, List.length_nil]; omega))) [b__law_told, n__law_told, methR_own _ _ hg hm, hr, fb]
      | true =>
        cases hb rfl
        have hr' : run pk.prg pk.fs (k + 4) F_Taking_take [.own j, .p (dn x), .p .non] M = _ := hr
        simp (disch := (first | omega | (simp only [List.length_map, mkM_len, fnM_len, List.length_range, List.length_range', List.length_take, List.length_drop, List.length_append, List.length_cons, List.length_nil]; omega))) [b__law_told, n__law_told, methR_own _ _ hg hm, hr', fb]
end K

namespace K
open PySem DI Ev
theorem told_thing (k n : Nat) (a : Nat → Nat → Bool) (ts : List (Nat × Bool)) (d s : D) (M : Sto) (j : Nat) (hg : M[j]? = some (.live (takeD n a ts))) (hr : run pk.prg pk.fs (k + 4) F_Taking_take [.own j, .p d, .p s] M = .exc (exBT d) M) :
    run pk.prg pk.fs (k + 5) F__law_told [.own j, .p d, .p s, .p (.bl false)] M = .ok (.p false (.lst [.str ("thing" : Str), d])) M := by
  have hm : methD pk.prg ("take" : Str) (Cell.live (takeD n a ts)).d = some F_Taking_take := by rfl
  rw [run_eq fs__law_told _ rfl]
  simp (disch := (first | omega | (simp only [List.length_map, mkM_len, fnM_len, List.length_range, List.length_range', List.length_take, List.length_drop, List.length_append, List.length_cons, List.length_nil]; omega))) [b__law_told, n__law_told, methR_own _ _ hg hm, hr]
theorem told_side (k n : Nat) (a : Nat → Nat → Bool) (ts : List (Nat × Bool)) (d s : D) (M : Sto) (j : Nat) (hg : M[j]? = some (.live (takeD n a ts))) (hr : run pk.prg pk.fs (k + 4) F_Taking_take [.own j, .p d, .p s] M = .exc exSide M) :
    run pk.prg pk.fs (k + 5) F__law_told [.own j, .p d, .p s, .p (.bl false)] M = .ok (.p false (.lst [.str ("number" : Str), .str ("side" : Str)])) M := by
  have hm : methD pk.prg ("take" : Str) (Cell.live (takeD n a ts)).d = some F_Taking_take := by rfl
  rw [run_eq fs__law_told _ rfl]
  simp (disch := (first | omega | (simp only [List.length_map, mkM_len, fnM_len, List.length_range, List.length_range', List.length_take, List.length_drop, List.length_append, List.length_cons, List.length_nil]; omega))) [b__law_told, n__law_told, methR_own _ _ hg hm, hr]
theorem due_thing (k : Nat) (qs left : List D) (d s : D) (M : Sto) (b : Bool) (hi : run pk.prg pk.fs (k + 2) F__law_int [.p d] M = .ok (.p false (.bl b)) M) (hb : b = true → cmpD .NotIn d (.lst left) = some true) :
    run pk.prg pk.fs (k + 3) F__law_due [.p (.lst qs), .p (.lst left), .p d, .p s] M = .ok (.p true (.lst [.str ("thing" : Str), d])) M := by
  rw [run_eq fs__law_due _ rfl]
  cases b with
  | false => simp (disch := (first | omega | (simp only [List.length_map, mkM_len, fnM_len, List.length_range, List.length_range', List.length_take, List.length_drop, List.length_append, List.length_cons, List.length_nil]; omega))) [b__law_due, n__law_due, hi]
  | true => simp (disch := (first | omega | (simp only [List.length_map, mkM_len, fnM_len, List.length_range, List.length_range', List.length_take, List.length_drop, List.length_append, List.length_cons, List.length_nil]; omega))) [b__law_due, n__law_due, hi, hb rfl]
end K

namespace K
open PySem DI Ev
theorem ne_self {d : D} (h : plainD d = true) (h2 : depD d ≤ 60) : cmpD .NotEq d d = some false := by
  show (deq d d).map (!·) = _
  rw [deq_ok (b := true) h h h2 h2 (by simp)]; rfl
theorem st_laid : plainD (.str ("laid" : Str)) = true := by show PyData.strOk _ = true; decide +kernel
theorem st_none : plainD (.str ("none" : Str)) = true := by show PyData.strOk _ = true; decide +kernel
theorem st_take : plainD (.str ("take" : Str)) = true := by show PyData.strOk _ = true; decide +kernel
theorem pl2 {x y : D} (h1 : plainD x = true) (h2 : plainD y = true) : plainD (.lst [x, y]) = true := by
  show (plainD x && (plainD y && true)) = true
  rw [h1, h2]; rfl
theorem eq_laid : cmpD .Eq (.str ("laid" : Str)) (.str ("laid" : Str)) = some true := deq_ok (b := true) st_laid st_laid (by decide) (by decide) (by simp)
theorem eq_none : cmpD .Eq (.str ("none" : Str)) (.str ("laid" : Str)) = some false := deq_ok (b := false) st_none st_laid (by decide) (by decide) (by simp; decide)
theorem leftL_snoc (n : Nat) (ts : List (Nat × Bool)) (x : Nat) (b : Bool) : leftL n (ts ++ [(x, b)]) = (leftL n ts).filter fun y => !decide (y = x) := by
  unfold leftL
  rw [List.filter_filter]
  refine List.filter_congr fun y _ => ?_
  rw [leftP_snoc, Bool.and_comm]
end K

namespace K
open PySem DI Ev
theorem run__law_step (k n : Nat) (ps : List (Nat × Nat)) (ts : List (Nat × Bool)) (x : Nat) (sd : Option Bool) (b : Bool) (M : Sto) (j : Nat) (hn : n ≤ 30) (ht : ts.length ≤ 900) (hg : M[j]? = some (.live (takeD n (adjP ps) ts))) (hx : x ∈ leftL n ts) (hb : b = true → sd = none) :
    run pk.prg pk.fs (k + 6) F__law_step [.own j, .p (.lst ((quadsL n ps).map dq)), .p (.lst ((leftL n ts).map dn)), .p (.lst (ts.map pD)), .p (dn x), .p (sdD sd), .p (.bl b)] M = .ok (.p true (.lst [.bl true, .lst ((leftL n (tsN n (adjP ps) ts x sd)).map dn), .lst ((tsN n (adjP ps) ts x sd).map pD)])) (M.set j (.live (takeD n (adjP ps) (tsN n (adjP ps) ts x sd)))) := by
  have hj : j < M.length := (List.getElem?_eq_some_iff.mp hg).1
  have hd := run__law_due (k + 2) n ps ts x sd M hn hx
  have hT := run__law_told k n (adjP ps) ts x sd b M j (by omega) (by omega) hg hx hb
  have l3 : (leftL n ts).length ≤ 1000 := by
    have := List.length_filter_le (leftP ts) (List.range n)
    rw [List.length_range] at this
    unfold leftL; omega
  have hl := List.length_filter_le (fun y => !decide (y = x)) (leftL n ts)
  have hS : ∀ us : List (Nat × Bool), us.length ≤ 1000 → run pk.prg pk.fs (k + 5) F__law_state [.own j, .p (.lst ((leftL n us).map dn)), .p (.lst (us.map pD))] (M.set j (.live (takeD n (adjP ps) us))) = .ok (.p false (.bl true)) (M.set j (.live (takeD n (adjP ps) us))) := fun us hu => run__law_state (k + 2) n (adjP ps) us _ j (by omega) hu (by simp [hj])
  rw [run_eq fs__law_step _ rfl]
  unfold dueD at hd hT
  unfold tsN at hT ⊢
  have i0 : ∀ u v : D, idxD (.lst [u, v]) (dn 0) = some u := fun u v => idx_lst (by simp)
  have i1 : ∀ u v : D, idxD (.lst [u, v]) (dn 1) = some v := fun u v => idx_lst (by simp)
  by_cases q1 : eB n (adjP ps) ts x = false ∧ ¬sd = some false
  · rw [if_pos q1] at hd
    rw [if_pos q1, if_pos q1] at hT
    rw [if_pos q1]
    have hne := ne_self (pl2 st_laid pl_front) (by decide)
    have hs := hS (ts ++ [(x, true)]) (by simp; omega)
    simp (disch := (first | omega | (simp only [List.length_map, mkM_len, fnM_len, List.length_range, List.length_range', List.length_take, List.length_drop, List.length_append, List.length_cons, List.length_nil]; omega))) [b__law_step, n__law_step, hd, hT, hne, i0, i1, eq_laid]
    have hp : pD (x, true) = .tup [dn x, .str ("front" : Str)] := rfl
    simp only [List.map_append, List.map_cons, List.map_nil, hp] at hs
    rw [lc_map (fun y => if (!decide (y = x)) = true then some (dn y) else none) (fun y _ => by by_cases q : y = x <;> simp [q])]
    rw [filterMap_if, rb_ok, lstOf_ok (by rw [List.length_map]; omega), ← leftL_snoc n ts x true]
    simp (disch := (first | omega | (simp only [List.length_map, mkM_len, fnM_len, List.length_range, List.length_range', List.length_take, List.length_drop, List.length_append, List.length_cons, List.length_nil]; omega))) [i1, hs, hp]
  · rw [if_neg q1] at hd
    rw [if_neg q1, if_neg q1] at hT
    rw [if_neg q1]
    by_cases q2 : mB n (adjP ps) ts x = false ∧ ¬sd = some true
    · rw [if_pos q2] at hd
      rw [if_pos q2, if_pos q2] at hT
      rw [if_pos q2]
      have hne := ne_self (pl2 st_laid pl_back) (by decide)
      have hs := hS (ts ++ [(x, false)]) (by simp; omega)
      simp (disch := (first | omega | (simp only [List.length_map, mkM_len, fnM_len, List.length_range, List.length_range', List.length_take, List.length_drop, List.length_append, List.length_cons, List.length_nil]; omega))) [b__law_step, n__law_step, hd, hT, hne, i0, i1, eq_laid]
      have hp : pD (x, false) = .tup [dn x, .str ("back" : Str)] := rfl
      simp only [List.map_append, List.map_cons, List.map_nil, hp] at hs
      rw [lc_map (fun y => if (!decide (y = x)) = true then some (dn y) else none) (fun y _ => by by_cases q : y = x <;> simp [q])]
      rw [filterMap_if, rb_ok, lstOf_ok (by rw [List.length_map]; omega), ← leftL_snoc n ts x false]
      simp (disch := (first | omega | (simp only [List.length_map, mkM_len, fnM_len, List.length_range, List.length_range', List.length_take, List.length_drop, List.length_append, List.length_cons, List.length_nil]; omega))) [i1, hs, hp]
    · rw [if_neg q2] at hd
      rw [if_neg q2, if_neg q2] at hT
      rw [if_neg q2]
      have hne := ne_self (pl2 st_none st_take) (by decide)
      have hs := hS ts (by omega)
      simp (disch := (first | omega | (simp only [List.length_map, mkM_len, fnM_len, List.length_range, List.length_range', List.length_take, List.length_drop, List.length_append, List.length_cons, List.length_nil]; omega))) [b__law_step, n__law_step, hd, hT, hne, i0, i1, eq_none, hs]
end K

namespace K
open PySem DI Ev
theorem isi_intn (i : Int) : isiAny (.int i) [("int" : Str)] = some true := isi_int i
theorem law_int_i (k : Nat) (i : Int) (M : Sto) : run pk.prg pk.fs (k + 1) F__law_int [.p (.int i)] M = .ok (.p false (.bl true)) M := by
  rw [run_eq fs__law_int _ rfl]
  simp (disch := (first | omega | (simp only [List.length_map, mkM_len, fnM_len, List.length_range, List.length_range', List.length_take, List.length_drop, List.length_append, List.length_cons, List.length_nil]; omega))) [b__law_int, n__law_int, isi_int, isi_intb]
theorem law_int_b (k : Nat) (b : Bool) (M : Sto) : run pk.prg pk.fs (k + 1) F__law_int [.p (.bl b)] M = .ok (.p false (.bl false)) M := by
  rw [run_eq fs__law_int _ rfl]
  simp (disch := (first | omega | (simp only [List.length_map, mkM_len, fnM_len, List.length_range, List.length_range', List.length_take, List.length_drop, List.length_append, List.length_cons, List.length_nil]; omega))) [b__law_int, n__law_int]
theorem law_int_non (k : Nat) (M : Sto) : run pk.prg pk.fs (k + 1) F__law_int [.p .non] M = .ok (.p false (.bl false)) M := by
  rw [run_eq fs__law_int _ rfl]
  simp (disch := (first | omega | (simp only [List.length_map, mkM_len, fnM_len, List.length_range, List.length_range', List.length_take, List.length_drop, List.length_append, List.length_cons, List.length_nil]; omega))) [b__law_int, n__law_int, isi_non]
theorem law_int_str (k : Nat) (x : Str) (M : Sto) : run pk.prg pk.fs (k + 1) F__law_int [.p (.str x)] M = .ok (.p false (.bl false)) M := by
  rw [run_eq fs__law_int _ rfl]
  simp (disch := (first | omega | (simp only [List.length_map, mkM_len, fnM_len, List.length_range, List.length_range', List.length_take, List.length_drop, List.length_append, List.length_cons, List.length_nil]; omega))) [b__law_int, n__law_int, isi_str]
theorem notin_neg (i : Int) (hi : i < 0) (xs : List Nat) : cmpD .NotIn (.int i) (.lst (xs.map dn)) = some true := by
  show (din (.int i) (xs.map dn)).map (!·) = _
  have h2 := enc_deps (e := dn) xs
  rw [din_ok (b := false) rfl (enc_plains xs) (by simp [depD]) (by omega)]
  · rfl
  · simp only [Bool.false_eq_true, false_iff, List.mem_map, not_exists, not_and]
    intro x _ h
    unfold dn at h
    injection h with h
    omega
theorem st_thing : plainD (.str ("thing" : Str)) = true := by show PyData.strOk _ = true; decide +kernel
theorem st_zero : plainD (.str ("0" : Str)) = true := by show PyData.strOk _ = true; decide +kernel
theorem st_number : plainD (.str ("number" : Str)) = true := by show PyData.strOk _ = true; decide +kernel
theorem st_side : plainD (.str ("side" : Str)) = true := by show PyData.strOk _ = true; decide +kernel
theorem eq_thing : cmpD .Eq (.str ("thing" : Str)) (.str ("laid" : Str)) = some false := deq_ok (b := false) st_thing st_laid (by decide) (by decide) (by simp; decide)
theorem eq_number : cmpD .Eq (.str ("number" : Str)) (.str ("laid" : Str)) = some false := deq_ok (b := false) st_number st_laid (by decide) (by decide) (by simp; decide)
/-- what is no thing that is left -/
structure Odd (n : Nat) (left : List Nat) (d : D) : Prop where
  int : ∃ b, (∀ (k : Nat) (M : Sto), run pk.prg pk.fs (k + 1) F__law_int [.p d] M = .ok (.p false (.bl b)) M) ∧ (b = true → cmpD .NotIn d (.lst (left.map dn)) = some true)
  eq : cmpD .NotEq (.lst [.str ("thing" : Str), d]) (.lst [.str ("thing" : Str), d]) = some false
  take : ∀ (k : Nat) (a : Nat → Nat → Bool) (ts : List (Nat × Bool)) (s : D) (M : Sto) (j : Nat), n ≤ 60 → ts.length ≤ 1000 → leftL n ts = left → M[j]? = some (.live (takeD n a ts)) → run pk.prg pk.fs (k + 4) F_Taking_take [.own j, .p d, .p s] M = .exc (exBT d) M
theorem odd_of {n : Nat} {left : List Nat} {d : D} (hi : ∃ b, (∀ (k : Nat) (M : Sto), run pk.prg pk.fs (k + 1) F__law_int [.p d] M = .ok (.p false (.bl b)) M) ∧ (b = true → cmpD .NotIn d (.lst (left.map dn)) = some true)) (hq : cmpD .NotEq (.lst [.str ("thing" : Str), d]) (.lst [.str ("thing" : Str), d]) = some false) (hf : fmtD d = true) (hb : ∀ (k : Nat) (M : Sto), run pk.prg pk.fs (k + 2) F_is_thing [.p (dn n), .p d] M = .ok (.p false (.bl false)) M) : Odd n left d :=
  ⟨hi, hq, fun k a ts s M j hn ht _ hg => run_take_nothing k n a ts d s M j hn ht hg hf (hb (k + 1) M)⟩
theorem odd_non (n : Nat) (left : List Nat) : Odd n left .non :=
  odd_of ⟨false, fun k M => law_int_non k M, by simp⟩ (ne_self (pl2 st_thing rfl) (by decide)) rfl fun k M => is_thing_non k n M
theorem odd_str (n : Nat) (left : List Nat) : Odd n left (.str ("0" : Str)) :=
  odd_of ⟨false, fun k M => law_int_str k _ M, by simp⟩ (ne_self (pl2 st_thing st_zero) (by decide)) rfl fun k M => is_thing_str k n _ M
theorem odd_bl (n : Nat) (left : List Nat) (b : Bool) : Odd n left (.bl b) :=
  odd_of ⟨false, fun k M => law_int_b k _ M, by simp⟩ (by cases b <;> decide +kernel) rfl fun k M => run_is_thing_b k n b M
theorem odd_neg (n : Nat) (left : List Nat) (i : Int) (hi : i < 0) (h2 : -1000 < i) : Odd n left (.int i) :=
  odd_of ⟨true, fun k M => law_int_i k _ M, fun _ => notin_neg i hi left⟩ (ne_self (pl2 st_thing rfl) (by simp [depD, depDs])) (by unfold fmtD; simp only [Bool.and_eq_true, decide_eq_true_eq]; omega) fun k M => is_thing_neg k n i hi M
theorem odd_gone (n : Nat) (left : List Nat) (x : Nat) (hx : x < 1000) (h : x ∉ left) : Odd n left (dn x) where
  int := ⟨true, fun k M => law_int_i k x M, fun _ => by rw [notin_dn]; simp [h]⟩
  eq := ne_self (pl2 st_thing rfl) (by rw [show depD (.lst [.str ("thing" : Str), dn x]) = 1 from rfl]; decide)
  take := fun k a ts s M j hn ht hl hg => run_take_gone k n a ts x s M j hn ht hg hx (by rw [hl]; exact h)
theorem step_ref (k n : Nat) (a : Nat → Nat → Bool) (qs : List D) (ts : List (Nat × Bool)) (d s u v : D) (f : Bool) (M : Sto) (j : Nat) (hn : n ≤ 30) (ht : ts.length ≤ 900) (hg : M[j]? = some (.live (takeD n a ts)))
    (hd : run pk.prg pk.fs (k + 5) F__law_due [.p (.lst qs), .p (.lst ((leftL n ts).map dn)), .p d, .p s] M = .ok (.p f (.lst [u, v])) M)
    (hT : run pk.prg pk.fs (k + 5) F__law_told [.own j, .p d, .p s, .p (.bl false)] M = .ok (.p false (.lst [u, v])) M)
    (hq : cmpD .NotEq (.lst [u, v]) (.lst [u, v]) = some false) (hu : cmpD .Eq u (.str ("laid" : Str)) = some false) :
    run pk.prg pk.fs (k + 6) F__law_step [.own j, .p (.lst qs), .p (.lst ((leftL n ts).map dn)), .p (.lst (ts.map pD)), .p d, .p s, .p (.bl false)] M = .ok (.p true (.lst [.bl true, .lst ((leftL n ts).map dn), .lst (ts.map pD)])) M := by
  have hS := run__law_state (k + 2) n a ts M j (by omega) (by omega) hg
  have i0 : ∀ u v : D, idxD (.lst [u, v]) (dn 0) = some u := fun u v => idx_lst (by simp)
  rw [run_eq fs__law_step _ rfl]
  simp (disch := (first | omega | (simp only [List.length_map, mkM_len, fnM_len, List.length_range, List.length_range', List.length_take, List.length_drop, List.length_append, List.length_cons, List.length_nil]; omega))) [b__law_step, n__law_step, hd, hT, hq, i0, hu, hS]
theorem step_odd (k n : Nat) (a : Nat → Nat → Bool) (qs : List D) (ts : List (Nat × Bool)) (d s : D) (M : Sto) (j : Nat) (hn : n ≤ 30) (ht : ts.length ≤ 900) (hg : M[j]? = some (.live (takeD n a ts))) (h : Odd n (leftL n ts) d) :
    run pk.prg pk.fs (k + 6) F__law_step [.own j, .p (.lst qs), .p (.lst ((leftL n ts).map dn)), .p (.lst (ts.map pD)), .p d, .p s, .p (.bl false)] M = .ok (.p true (.lst [.bl true, .lst ((leftL n ts).map dn), .lst (ts.map pD)])) M := by
  obtain ⟨b, h1, h2⟩ := h.int
  have hd := due_thing (k + 2) qs ((leftL n ts).map dn) d s M b (h1 _ M) h2
  have hT := told_thing k n a ts d s M j hg (h.take k a ts s M j (by omega) (by omega) rfl hg)
  exact step_ref k n a qs ts d s _ _ _ M j hn ht hg hd hT h.eq eq_thing
/-- a side that is none -/
structure BadS (s : D) : Prop where
  notin : cmpD .NotIn s (.tup [.non, .str ("front" : Str), .str ("back" : Str)]) = some true
  non : cmpD .IsNot s .non = some true
  nf : cmpD .NotEq s (.str ("front" : Str)) = some true
  nb : cmpD .NotEq s (.str ("back" : Str)) = some true
theorem bad_top : BadS (.str ("top" : Str)) := ⟨by decide +kernel, by decide +kernel, by decide +kernel, by decide +kernel⟩
theorem bad_zero : BadS (dn 0) := ⟨by decide +kernel, by decide +kernel, by decide +kernel, by decide +kernel⟩
theorem bad_Front : BadS (.str ("Front" : Str)) := ⟨by decide +kernel, by decide +kernel, by decide +kernel, by decide +kernel⟩
theorem bad_true : BadS (.bl true) := ⟨by decide +kernel, by decide +kernel, by decide +kernel, by decide +kernel⟩
theorem due_side (k : Nat) (qs : List D) (left : List Nat) (x : Nat) (s : D) (M : Sto) (h : BadS s) (hx : x ∈ left) :
    run pk.prg pk.fs (k + 3) F__law_due [.p (.lst qs), .p (.lst (left.map dn)), .p (dn x), .p s] M = .ok (.p true (.lst [.str ("number" : Str), .str ("side" : Str)])) M := by
  rw [run_eq fs__law_due _ rfl]
  simp (disch := (first | omega | (simp only [List.length_map, mkM_len, fnM_len, List.length_range, List.length_range', List.length_take, List.length_drop, List.length_append, List.length_cons, List.length_nil]; omega))) [b__law_due, n__law_due, hx, h.non, h.nf, h.nb]
theorem step_side (k n : Nat) (a : Nat → Nat → Bool) (qs : List D) (ts : List (Nat × Bool)) (x : Nat) (s : D) (M : Sto) (j : Nat) (hn : n ≤ 30) (ht : ts.length ≤ 900) (hg : M[j]? = some (.live (takeD n a ts))) (h : BadS s) (hx : x ∈ leftL n ts) :
    run pk.prg pk.fs (k + 6) F__law_step [.own j, .p (.lst qs), .p (.lst ((leftL n ts).map dn)), .p (.lst (ts.map pD)), .p (dn x), .p s, .p (.bl false)] M = .ok (.p true (.lst [.bl true, .lst ((leftL n ts).map dn), .lst (ts.map pD)])) M := by
  have hd := due_side (k + 2) qs (leftL n ts) x s M h hx
  have hT := told_side k n a ts (dn x) s M j hg (run_take_side k n a ts x s M j (by omega) (by omega) hg hx h.notin)
  exact step_ref k n a qs ts _ s _ _ _ M j hn ht hg hd hT (ne_self (pl2 st_number st_side) (by decide)) eq_number
theorem fair_tsN {n : Nat} {a : Nat → Nat → Bool} {ts : List (Nat × Bool)} {x : Nat} {sd : Option Bool} (h : Fair n a ts) : Fair n a (tsN n a ts x sd) ∧ (tsN n a ts x sd).length ≤ ts.length + 1 := by
  unfold tsN
  split
  · rename_i q; exact ⟨fair_snoc h (Or.inl q.1), by simp⟩
  · split
    · rename_i q; exact ⟨fair_snoc h (Or.inr q.1), by simp⟩
    · exact ⟨h, by omega⟩
/-- a step of the walk -/
def StepOk (n : Nat) (ps : List (Nat × Nat)) (ts : List (Nat × Bool)) (j : Nat) (M : Sto) (r : Res RV) : Prop := ∃ us : List (Nat × Bool), Fair n (adjP ps) us ∧ us.length ≤ ts.length + 1 ∧ r = .ok (.p true (.lst [.bl true, .lst ((leftL n us).map dn), .lst (us.map pD)])) (M.set j (.live (takeD n (adjP ps) us)))
theorem set_self {M : Sto} {j : Nat} {x : Cell} (h : M[j]? = some x) : M.set j x = M := by
  have hgg := (List.getElem?_eq_some_iff.mp h).2
  rw [← hgg, List.set_getElem_self]
theorem step_any (k n : Nat) (ps : List (Nat × Nat)) (ts : List (Nat × Bool)) (d s : D) (M : Sto) (j : Nat) (hn : n ≤ 30) (ht : ts.length ≤ 900) (hf : Fair n (adjP ps) ts) (hg : M[j]? = some (.live (takeD n (adjP ps) ts)))
    (hd : (∃ x, x < n ∧ d = dn x) ∨ Odd n (leftL n ts) d) (hs : BadS s ∨ ∃ sd, s = sdD sd) :
    StepOk n ps ts j M (run pk.prg pk.fs (k + 6) F__law_step [.own j, .p (.lst ((quadsL n ps).map dq)), .p (.lst ((leftL n ts).map dn)), .p (.lst (ts.map pD)), .p d, .p s, .p (.bl false)] M) := by
  have same : ∀ r : Res RV, r = .ok (.p true (.lst [.bl true, .lst ((leftL n ts).map dn), .lst (ts.map pD)])) M → StepOk n ps ts j M r := fun r h => ⟨ts, hf, by omega, by rw [set_self hg]; exact h⟩
  rcases hd with ⟨x, hx, rfl⟩ | hd
  · by_cases q : x ∈ leftL n ts
    · rcases hs with hs | ⟨sd, rfl⟩
      · exact same _ (step_side k n (adjP ps) _ ts x s M j hn ht hg hs q)
      · have h := fair_tsN (x := x) (sd := sd) hf
        exact ⟨_, h.1, h.2, run__law_step k n ps ts x sd false M j hn ht hg q (by simp)⟩
    · exact same _ (step_odd k n (adjP ps) _ ts _ s M j hn ht hg (odd_gone n _ x (by omega) q))
  · exact same _ (step_odd k n (adjP ps) _ ts d s M j hn ht hg hd)
end K

namespace K
open PySem DI Ev
@[simp] theorem op_neg1 : opD .Sub (dn 0) (dn 1) = some (.int (-1)) := (rfl)
theorem op_neg (n : Nat) : opD .Sub (dn 0) (dn n) = some (.int (-(n : Int))) := by
  show some (D.int ((0 : Int) - n)) = _
  rw [Int.zero_sub]
def oddL (n : Nat) : List D := [.int (-1), dn n, .non, .str ("0" : Str), .bl true, .bl false, .int (-(n : Int))]
def sidL : List D := [.non, .str ("front" : Str), .str ("back" : Str), .str ("front" : Str), .str ("back" : Str), .non, .str ("top" : Str), dn 0, .str ("Front" : Str), .bl true]
theorem left_out {n : Nat} {ts : List (Nat × Bool)} : n ∉ leftL n ts := fun h => by have := (left_lt.mp h).1; omega
theorem odd_at (n t : Nat) (h0 : 0 < n) (hn : n ≤ 30) (h : t < 7) : ∃ d, idxD (.lst (oddL n)) (dn t) = some d ∧ ∀ ts, Odd n (leftL n ts) d := by
  have c : t = 0 ∨ t = 1 ∨ t = 2 ∨ t = 3 ∨ t = 4 ∨ t = 5 ∨ t = 6 := by omega
  rcases c with rfl | rfl | rfl | rfl | rfl | rfl | rfl
  · exact ⟨_, idx_lst rfl, fun ts => odd_neg n _ _ (by decide) (by decide)⟩
  · exact ⟨_, idx_lst rfl, fun ts => odd_gone n _ n (by omega) left_out⟩
  · exact ⟨_, idx_lst rfl, fun ts => odd_non n _⟩
  · exact ⟨_, idx_lst rfl, fun ts => odd_str n _⟩
  · exact ⟨_, idx_lst rfl, fun ts => odd_bl n _ _⟩
  · exact ⟨_, idx_lst rfl, fun ts => odd_bl n _ _⟩
  · exact ⟨_, idx_lst rfl, fun ts => odd_neg n _ _ (by omega) (by omega)⟩
theorem sid_at (t : Nat) (h : t < 10) : ∃ s, idxD (.lst sidL) (dn t) = some s ∧ (BadS s ∨ ∃ sd, s = sdD sd) := by
  have c : t = 0 ∨ t = 1 ∨ t = 2 ∨ t = 3 ∨ t = 4 ∨ t = 5 ∨ t = 6 ∨ t = 7 ∨ t = 8 ∨ t = 9 := by omega
  rcases c with rfl | rfl | rfl | rfl | rfl | rfl | rfl | rfl | rfl | rfl
  · exact ⟨_, idx_lst rfl, Or.inr ⟨none, rfl⟩⟩
  · exact ⟨_, idx_lst rfl, Or.inr ⟨some true, rfl⟩⟩
  · exact ⟨_, idx_lst rfl, Or.inr ⟨some false, rfl⟩⟩
  · exact ⟨_, idx_lst rfl, Or.inr ⟨some true, rfl⟩⟩
  · exact ⟨_, idx_lst rfl, Or.inr ⟨some false, rfl⟩⟩
  · exact ⟨_, idx_lst rfl, Or.inr ⟨none, rfl⟩⟩
  · exact ⟨_, idx_lst rfl, Or.inl bad_top⟩
  · exact ⟨_, idx_lst rfl, Or.inl bad_zero⟩
  · exact ⟨_, idx_lst rfl, Or.inl bad_Front⟩
  · exact ⟨_, idx_lst rfl, Or.inl bad_true⟩
theorem idx_l30 (x y z : D) : idxD (.lst [x, y, z]) (dn 0) = some x := idx_lst (by simp)
theorem idx_l31 (x y z : D) : idxD (.lst [x, y, z]) (dn 1) = some y := idx_lst (by simp)
theorem idx_l32 (x y z : D) : idxD (.lst [x, y, z]) (dn 2) = some z := idx_lst (by simp)
/-- the able things -/
theorem able_eq (n : Nat) (ps : List (Nat × Nat)) (ts : List (Nat × Bool)) : ((leftL n ts).filter fun x => !endB (quadsL n ps) (memB (leftL n ts)) x || !midB (quadsL n ps) (memB (leftL n ts)) x) = freeL n (adjP ps) ts := by
  unfold freeL
  have : ∀ x, (!endB (quadsL n ps) (memB (leftL n ts)) x || !midB (quadsL n ps) (memB (leftL n ts)) x) = (!eB n (adjP ps) ts x || !mB n (adjP ps) ts x) := fun x => by rw [eB_law, mB_law]
  rw [List.filter_congr fun x _ => this x]
  unfold leftL
  rw [List.filter_filter]
  refine List.filter_congr fun x _ => ?_
  rw [Bool.and_comm]
theorem leftL_len (n : Nat) (ts : List (Nat × Bool)) : (leftL n ts).length ≤ n := by
  have := List.length_filter_le (leftP ts) (List.range n)
  rw [List.length_range] at this
  exact this
theorem run_able (k n : Nat) (ps : List (Nat × Nat)) (ts : List (Nat × Bool)) (M : Sto) (hn : n ≤ 30) :
    run pk.prg pk.fs (k + 3) F__law_able [.p (.lst ((quadsL n ps).map dq)), .p (.lst ((leftL n ts).map dn))] M = .ok (.p true (.lst ((freeL n (adjP ps) ts).map dn))) M := by
  rw [run__law_able k (quadsL n ps) (leftL n ts) M (Nat.le_trans (quads_len n ps hn) (by omega)) (Nat.le_trans (leftL_len n ts) (by omega)), able_eq]
theorem free_ok {n : Nat} {a : Nat → Nat → Bool} {ts : List (Nat × Bool)} {x : Nat} (h : x ∈ freeL n a ts) : x ∈ leftL n ts ∧ (eB n a ts x = false ∨ mB n a ts x = false) := by
  unfold freeL at h
  rw [List.mem_filter] at h
  obtain ⟨h1, h2⟩ := h
  simp only [Bool.and_eq_true, Bool.or_eq_true, Bool.not_eq_true'] at h2
  exact ⟨left_lt.mpr ⟨List.mem_range.mp h1, h2.1⟩, h2.2⟩
/-- a free thing taken: fewer are left -/
theorem tsN_less {n : Nat} {a : Nat → Nat → Bool} {ts : List (Nat × Bool)} {x : Nat} (h : x ∈ freeL n a ts) : (leftL n (tsN n a ts x none)).length + 1 ≤ (leftL n ts).length := by
  obtain ⟨h1, h2⟩ := free_ok h
  unfold tsN
  split
  · exact left_less h1
  · rename_i q1
    rw [if_pos]
    · exact left_less h1
    · refine ⟨?_, by simp⟩
      rcases h2 with h2 | h2
      · exact absurd ⟨h2, by simp⟩ q1
      · exact h2
def OkWalk (n : Nat) (ps : List (Nat × Nat)) (L : Sto) (r : Res RV) : Prop := ∃ ds' : List Nat, r = .ok (.p true (.lst [.bl true, .lst ((coreL n (r4 n (adjP ps))).map dn)])) (DM ds' L)
def WalkI (n : Nat) (ps : List (Nat × Nat)) (L : Sto) (P : List (Nat × Bool) → Prop) (sl : Slots) (M' : Sto) : Prop := ∃ (ds : List Nat) (ts : List (Nat × Bool)) (v9 v10 v11 v12 v13 : Option DV), P ts ∧ Fair n (adjP ps) ts ∧ sl = [some (.own 0), some (.p (webD n (adjP ps))), some (.p (dn n)), some (.p (.lst ((quadsL n ps).map dq))), some (.own (L.length + 1)), some (.p (.lst ((leftL n ts).map dn))), some (.p (.lst (ts.map pD))), some (.p (.lst (oddL n))), some (.p (.lst sidL)), v9, v10, v11, v12, v13, none] ∧ M' = DM ds (L ++ [.live (takeD n (adjP ps) ts)])
@[simp] theorem setR_tk (i n : Nat) (a : Nat → Nat → Bool) (fr bk : List Nat) (ts : List (Nat × Bool)) (sl : Slots) (M : Sto) : setR i true (.p true (tkD n a fr bk ts)) sl M = .nx (sl.set i (some (.own M.length))) (M ++ [.live (tkD n a fr bk ts)]) := by rfl
theorem leftL_nil (n : Nat) : leftL n [] = List.range n := List.filter_eq_self.mpr fun x _ => by simp [leftP, tkn, frL, bkL]
theorem it_same {n : Nat} {a : Nat → Nat → Bool} {ts : List (Nat × Bool)} (h : freeL n a ts = []) : ∀ m, itT n a m ts = ts
  | 0 => rfl
  | m + 1 => by
    show stepT n a (itT n a m ts) = ts
    rw [it_same h m]; unfold stepT; rw [h]
theorem run__law_walk (k n : Nat) (ps : List (Nat × Nat)) (ds : List Nat) (L : Sto) (h0 : 0 < n) (hn : n ≤ 30) :
    OkWalk n ps L (run pk.prg pk.fs (k + 7) F__law_walk [.own 0, .p (webD n (adjP ps)), .p (dn n), .p (.lst ((quadsL n ps).map dq))] (DM ds L)) := by
  rw [run_eq fs__law_walk _ rfl]
  have mk := make_taking (k + 2) n (adjP ps) (DM ds L) false (by omega)
  have hj : ∀ (ds : List Nat) (ts : List (Nat × Bool)), (DM ds (L ++ [.live (takeD n (adjP ps) ts)]))[L.length + 1]? = some (.live (takeD n (adjP ps) ts)) := fun ds ts => by rw [DM_getS]; simp
  simp (disch := (first | omega | (simp only [List.length_map, mkM_len, fnM_len, List.length_range, List.length_range', List.length_take, List.length_drop, List.length_append, List.length_cons, List.length_nil]; omega))) [b__law_walk, n__law_walk, mk]
  rw [lc_map (fun x => some (dn x)) (fun x _ => by simp), filterMap_some, rb_ok, lstOf_ok (by simp; omega)]
  simp (disch := (first | omega | (simp only [List.length_map, mkM_len, fnM_len, List.length_range, List.length_range', List.length_take, List.length_drop, List.length_append, List.length_cons, List.length_nil]; omega))) [op_neg]
  with_reducible refine for_P (OkWalk n ps L) (fun pre => WalkI n ps L fun ts => ts.length ≤ pre.length) ?_ ?_ ?_
  · exact ⟨ds, [], none, none, none, none, none, Nat.le_refl _, fair_nil n _, by rw [leftL_nil]; rfl, rfl⟩
  · rintro pre x post hx sl M' ⟨ds, ts, v9, v10, v11, v12, v13, h1, h2, rfl, rfl⟩
    have hpp := (range_pre hx).1
    have t1 := tk_lt ds h0
    obtain ⟨s, s1, s2⟩ := sid_at (tk ds.dropLast 10) (tk_lt _ (by decide))
    simp (disch := (first | omega | (simp only [List.length_map, mkM_len, fnM_len, List.length_range, List.length_range', List.length_take, List.length_drop, List.length_append, List.length_cons, List.length_nil]; omega))) [b__law_walk_1, s1]
    have fin : ∀ (d : D) (ds : List Nat), (∃ x, x < n ∧ d = dn x) ∨ Odd n (leftL n ts) d → StepOk n ps ts (L.length + 1) (DM ds (L ++ [.live (takeD n (adjP ps) ts)])) (run pk.prg pk.fs (k + 6) F__law_step [.own (L.length + 1), .p (.lst ((quadsL n ps).map dq)), .p (.lst ((leftL n ts).map dn)), .p (.lst (ts.map pD)), .p d, .p s, .p (.bl false)] (DM ds (L ++ [.live (takeD n (adjP ps) ts)]))) := fun d ds hd =>
      step_any k n ps ts d s _ _ hn (by omega) h2 (hj ds ts) hd s2
    by_cases c : tk ds.dropLast.dropLast 6 = 5
    · obtain ⟨d, o1, o2⟩ := odd_at n (tk ds.dropLast.dropLast.dropLast 7) h0 hn (tk_lt _ (by decide))
      obtain ⟨us, u1, u2, u3⟩ := fin d ds.dropLast.dropLast.dropLast.dropLast (Or.inr (o2 ts))
      simp (disch := (first | omega | (simp only [List.length_map, mkM_len, fnM_len, List.length_range, List.length_range', List.length_take, List.length_drop, List.length_append, List.length_cons, List.length_nil]; omega))) [c, o1, u3, idx_l30, idx_l31, idx_l32]
      exact ⟨_, us, _, _, _, _, _, by omega, u1, rfl, rfl⟩
    · obtain ⟨us, u1, u2, u3⟩ := fin (dn (tk ds n)) ds.dropLast.dropLast.dropLast (Or.inl ⟨_, t1, rfl⟩)
      simp (disch := (first | omega | (simp only [List.length_map, mkM_len, fnM_len, List.length_range, List.length_range', List.length_take, List.length_drop, List.length_append, List.length_cons, List.length_nil]; omega))) [c, u3, idx_l30, idx_l31, idx_l32]
      exact ⟨_, us, _, _, _, _, _, by omega, u1, rfl, rfl⟩
  · rintro sl' M' ⟨ds, ts, v9, v10, v11, v12, v13, h1, h2, rfl, rfl⟩
    rw [List.length_range] at h1
    simp (disch := (first | omega | (simp only [List.length_map, mkM_len, fnM_len, List.length_range, List.length_range', List.length_take, List.length_drop, List.length_append, List.length_cons, List.length_nil]; omega))) []
    with_reducible refine for_P (OkWalk n ps L) (fun pre => WalkI n ps L fun us => us.length ≤ 200 + pre.length ∧ (freeL n (adjP ps) us = [] ∨ (leftL n us).length + pre.length ≤ n)) ?_ ?_ ?_
    · exact ⟨ds, ts, _, _, _, _, _, ⟨by omega, Or.inr (leftL_len n ts)⟩, h2, rfl, rfl⟩
    · rintro pre x post hx sl M' ⟨ds, us, v9, v10, v11, v12, v13, ⟨h1, h3⟩, h2, rfl, rfl⟩
      have hpp := (range_pre hx).1
      have ra := fun M => run_able (k + 3) n ps us M hn
      simp (disch := (first | omega | (simp only [List.length_map, mkM_len, fnM_len, List.length_range, List.length_range', List.length_take, List.length_drop, List.length_append, List.length_cons, List.length_nil]; omega))) [b__law_walk_2, ra]
      by_cases c : freeL n (adjP ps) us = []
      · simp (disch := (first | omega | (simp only [List.length_map, mkM_len, fnM_len, List.length_range, List.length_range', List.length_take, List.length_drop, List.length_append, List.length_cons, List.length_nil]; omega))) [c]
        exact ⟨ds, us, _, _, _, _, _, ⟨by omega, Or.inl c⟩, h2, rfl, rfl⟩
      · have hl : 0 < (freeL n (adjP ps) us).length := List.length_pos_iff.mpr c
        have ht := tk_lt ds hl
        have hs : ∀ x, x ∈ leftL n us → run pk.prg pk.fs (k + 6) F__law_step [.own (L.length + 1), .p (.lst ((quadsL n ps).map dq)), .p (.lst ((leftL n us).map dn)), .p (.lst (us.map pD)), .p (dn x), .p .non, .p (.bl true)] (DM ds.dropLast (L ++ [.live (takeD n (adjP ps) us)])) = _ := fun x hx => run__law_step k n ps us x none true _ _ hn (by omega) (hj ds.dropLast us) hx (by simp)
        generalize ht0 : tk ds (freeL n (adjP ps) us).length = t at ht
        have hm : (freeL n (adjP ps) us)[t] ∈ freeL n (adjP ps) us := List.getElem_mem ht
        have h3' : (leftL n us).length + pre.length ≤ n := h3.resolve_left c
        have hle := tsN_less hm
        have hfa := fair_tsN (x := (freeL n (adjP ps) us)[t]) (sd := none) h2
        have hs1 := hs _ (free_ok hm).1
        simp (disch := (first | omega | (simp only [List.length_map, mkM_len, fnM_len, List.length_range, List.length_range', List.length_take, List.length_drop, List.length_append, List.length_cons, List.length_nil]; omega))) [c, hl, ht0, ht, hs1, idx_l30, idx_l31, idx_l32]
        exact ⟨_, tsN n (adjP ps) us (freeL n (adjP ps) us)[t] none, _, _, _, _, _, ⟨by omega, Or.inr (by omega)⟩, hfa.1, rfl, rfl⟩
    · rintro sl' M' ⟨ds, us, v9, v10, v11, v12, v13, ⟨h1, h3⟩, h2, rfl, rfl⟩
      rw [List.length_range] at h1 h3
      have hz : freeL n (adjP ps) us = [] := by
        rcases h3 with h3 | h3
        · exact h3
        · have h4 : leftL n us = [] := List.eq_nil_of_length_eq_zero (by omega)
          refine List.eq_nil_iff_forall_not_mem.mpr fun x hx => ?_
          have := free_sub hx
          rw [h4] at this; cases this
      have hc := done_core h2 hz
      have hta := run_take_all (k + 1) n (adjP ps) us _ _ (by omega) (by omega) (hj ds us)
      rw [it_same hz n, set_self (hj ds us)] at hta
      have hmm : methD pk.prg ("take_all" : Str) (Cell.live (takeD n (adjP ps) us)).d = some F_Taking_take_all := by rfl
      have hsr := fun M => run__law_same_row (k + 4) (leftL n us) M (Nat.le_trans (leftL_len n us) (by omega))
      have hst := run__law_state (k + 3) n (adjP ps) us _ _ (by omega) (by omega) (hj ds us)
      refine ⟨ds, ?_⟩
      simp (disch := (first | omega | (simp only [List.length_map, mkM_len, fnM_len, List.length_range, List.length_range', List.length_take, List.length_drop, List.length_append, List.length_cons, List.length_nil]; omega))) [methR_own _ _ (hj ds us) hmm, hta, hsr, hst]
      rw [hc]
end K

namespace K
open PySem DI Ev
theorem eq_tup_dp (xs : List (Nat × Nat)) : cmpD .Eq (.tup (xs.map dp)) (.tup (xs.map dp)) = some true := by
  show deq _ _ = _
  rw [deq_tup (e := dp)]; simp
theorem run_web_eq (k n : Nat) (a : Nat → Nat → Bool) (M : Sto) : run pk.prg pk.fs (k + 1) F_Web___eq__ [.p (webD n a), .p (webD n a)] M = .ok (.p false (.bl true)) M := by
  rw [run_eq fs_Web___eq__ _ rfl]
  have h : iscD pk.prg C_Web (some (webD n a)) = some true := by rfl
  simp (disch := (first | omega | (simp only [List.length_map, mkM_len, fnM_len, List.length_range, List.length_range', List.length_take, List.length_drop, List.length_append, List.length_cons, List.length_nil]; omega))) [b_Web___eq__, n_Web___eq__, h, eq_tup_dp]
theorem eqo_web (k n : Nat) (a : Nat → Nat → Bool) (f g : Bool) (M : Sto) : eqoR pk.prg (run pk.prg pk.fs (k + 1)) (.p f (webD n a)) (.p g (webD n a)) M = .ok (.p false (.bl true)) M := by
  have h : eqoD pk.prg (webD n a) (webD n a) = some F_Web___eq__ := by rfl
  have h2 := run_web_eq k n a M
  have h3 : callR pk.prg (run pk.prg pk.fs (k + 1)) F_Web___eq__ [.p (webD n a), .p (webD n a)] M = .ok (.p false (.bl true)) M := by rw [call_Web___eq__]; exact h2
  unfold eqoR
  simp only [get_p, h, dv_p, h3]
/-- the takes that the law begins with -/
def Bgn (n : Nat) (a : Nat → Nat → Bool) (ts : List (Nat × Bool)) : Prop := ts = [] ∨ ∃ x b, ts = [(x, b)] ∧ x ∈ leftL n [] ∧ (b = true → eB n a [] x = false) ∧ (b = false → mB n a [] x = false)
theorem run_no_end (k n : Nat) (ps : List (Nat × Nat)) (ts : List (Nat × Bool)) (x : Nat) (M : Sto) (hn : n ≤ 30) :
    run pk.prg pk.fs (k + 2) F__law_no_end [.p (.lst ((quadsL n ps).map dq)), .p (.lst ((leftL n ts).map dn)), .p (dn x)] M = .ok (.p false (.bl (!eB n (adjP ps) ts x))) M := by
  rw [run__law_no_end k (quadsL n ps) (leftL n ts) x M (Nat.le_trans (quads_len n ps hn) (by omega)), eB_law]
theorem run_no_middle (k n : Nat) (ps : List (Nat × Nat)) (ts : List (Nat × Bool)) (x : Nat) (M : Sto) (hn : n ≤ 30) :
    run pk.prg pk.fs (k + 2) F__law_no_middle [.p (.lst ((quadsL n ps).map dq)), .p (.lst ((leftL n ts).map dn)), .p (dn x)] M = .ok (.p false (.bl (!mB n (adjP ps) ts x))) M := by
  rw [run__law_no_middle k (quadsL n ps) (leftL n ts) x M (Nat.le_trans (quads_len n ps hn) (by omega)), mB_law]
def LfS (n : Nat) (ps : List (Nat × Nat)) (M : Sto) (v6 : Option DV) (ts0 ts : List (Nat × Bool)) (sl : Slots) (M' : Sto) : Prop := ∃ (v7 v8 v9 v11 : Option DV), sl = [some (.p (webD n (adjP ps))), some (.p (dn n)), some (.p (.lst ((quadsL n ps).map dq))), some (.p (.lst (ts.map pD))), some (.own M.length), some (.p (.lst ((leftL n ts).map dn))), v6, v7, v8, v9, none, v11] ∧ M' = M ++ [.live (takeD n (adjP ps) ts0)]
theorem it_len' (n : Nat) (a : Nat → Nat → Bool) (ts : List (Nat × Bool)) (m : Nat) (h : ts.length ≤ 100) (hm : m ≤ 30) : (itT n a m ts).length ≤ 200 := by
  have := itT_len n a ts m; omega
/-- behind the takes that are begun with -/
theorem least_rest (k n : Nat) (ps : List (Nat × Nat)) (ts0 : List (Nat × Bool)) (M : Sto) (sl : Slots) (v6 : Option DV) (hn : n ≤ 30) (h1 : ts0.length ≤ 2) (hsl : LfS n ps M v6 ts0 ts0 sl (M ++ [.live (takeD n (adjP ps) ts0)])) :
    endR M.length ((execS pk.prg (run pk.prg pk.fs (k + 6)) (.for_ (.name 7) (.rng1 (.var 1)) b__law_least_first_2) sl (M ++ [.live (takeD n (adjP ps) ts0)])).next (execSs pk.prg (run pk.prg pk.fs (k + 6)) ((.cons (.for_ (.name 8) (.rng1 (.lit (.int 2))) b__law_least_first_3)
    (.cons (.ret (.eqo (.fld (.var 4) ("web" : Str)) (.var 0)))
    .nil))))) = .ok (.p false (.bl true)) M := by
  have hj : ∀ (ts : List (Nat × Bool)), (M ++ [.live (takeD n (adjP ps) ts)])[M.length]? = some (.live (takeD n (adjP ps) ts)) := fun ts => by simp
  obtain ⟨v7, v8, v9, v11, rfl, _⟩ := hsl
  simp (disch := (first | omega | (simp only [List.length_map, mkM_len, fnM_len, List.length_range, List.length_range', List.length_take, List.length_drop, List.length_append, List.length_cons, List.length_nil]; omega))) []
  with_reducible refine for_end (fun pre => LfS n ps M v6 ts0 (itT n (adjP ps) pre.length ts0)) ?_ ?_ ?_
  · exact ⟨v7, v8, v9, v11, rfl, rfl⟩
  · rintro pre x post hx sl M' ⟨v7, v8, v9, v11, rfl, rfl⟩
    have hpp := (range_pre hx).1
    have hl := it_len' n (adjP ps) ts0 pre.length (by omega) (by omega)
    have hs : itT n (adjP ps) (pre.length + 1) ts0 = stepT n (adjP ps) (itT n (adjP ps) pre.length ts0) := rfl
    generalize itT n (adjP ps) pre.length ts0 = us at hl hs
    have ra := fun M => run_able (k + 3) n ps us M hn
    have re := fun x M => run_no_end (k + 4) n ps us x M hn
    simp (disch := (first | omega | (simp only [List.length_map, mkM_len, fnM_len, List.length_range, List.length_range', List.length_take, List.length_drop, List.length_append, List.length_cons, List.length_nil]; omega))) [b__law_least_first_2, ra]
    cases ef : freeL n (adjP ps) us with
    | nil =>
      have es : stepT n (adjP ps) us = us := by unfold stepT; rw [ef]
      simp (disch := (first | omega | (simp only [List.length_map, mkM_len, fnM_len, List.length_range, List.length_range', List.length_take, List.length_drop, List.length_append, List.length_cons, List.length_nil]; omega))) []
      exact ⟨_, _, _, _, by rw [hs, es], rfl⟩
    | cons y ys =>
      have es : stepT n (adjP ps) us = us ++ [(y, !eB n (adjP ps) us y)] := by unfold stepT; rw [ef]
      have hi : idxD (D.lst (dn y :: List.map dn ys)) (dn 0) = some (dn y) := idx_lst (by simp)
      have ll := leftL_len n us
      cases q : eB n (adjP ps) us y with
      | true =>
        rw [q] at es
        simp (disch := (first | omega | (simp only [List.length_map, mkM_len, fnM_len, List.length_range, List.length_range', List.length_take, List.length_drop, List.length_append, List.length_cons, List.length_nil]; omega))) [hi, re, q]
        rw [lc_map (fun z => if (!decide (z = y)) = true then some (dn z) else none) (fun z _ => by by_cases q : z = y <;> simp [q, hi]), filterMap_if, rb_ok, lstOf_ok (by rw [List.length_map]; exact Nat.le_trans (List.length_filter_le _ _) (by omega)), ← leftL_snoc n us y false]
        simp (disch := (first | omega | (simp only [List.length_map, mkM_len, fnM_len, List.length_range, List.length_range', List.length_take, List.length_drop, List.length_append, List.length_cons, List.length_nil]; omega))) [hi]
        exact ⟨_, _, _, _, by rw [hs, es, List.map_append]; rfl, rfl⟩
      | false =>
        rw [q] at es
        simp (disch := (first | omega | (simp only [List.length_map, mkM_len, fnM_len, List.length_range, List.length_range', List.length_take, List.length_drop, List.length_append, List.length_cons, List.length_nil]; omega))) [hi, re, q]
        rw [lc_map (fun z => if (!decide (z = y)) = true then some (dn z) else none) (fun z _ => by by_cases q : z = y <;> simp [q, hi]), filterMap_if, rb_ok, lstOf_ok (by rw [List.length_map]; exact Nat.le_trans (List.length_filter_le _ _) (by omega)), ← leftL_snoc n us y true]
        simp (disch := (first | omega | (simp only [List.length_map, mkM_len, fnM_len, List.length_range, List.length_range', List.length_take, List.length_drop, List.length_append, List.length_cons, List.length_nil]; omega))) [hi]
        exact ⟨_, _, _, _, by rw [hs, es, List.map_append]; rfl, rfl⟩
  · rintro sl' M' ⟨v7, v8, v9, v11, rfl, rfl⟩
    rw [List.length_range]
    have hl := it_len' n (adjP ps) ts0 n (by omega) (by omega)
    have hz := it_end n (adjP ps) ts0
    generalize hus : itT n (adjP ps) n ts0 = us at hl hz
    simp (disch := (first | omega | (simp only [List.length_map, mkM_len, fnM_len, List.length_range, List.length_range', List.length_take, List.length_drop, List.length_append, List.length_cons, List.length_nil]; omega))) []
    have turn : ∀ (ts : List (Nat × Bool)) (v7 v8 v9 v11 : Option DV) (x : Nat), ts.length ≤ 200 → itT n (adjP ps) n ts = us → loopR pk.prg (run pk.prg pk.fs (k + 6)) (.name 8) b__law_least_first_3 (dn x) [some (.p (webD n (adjP ps))), some (.p (dn n)), some (.p (.lst ((quadsL n ps).map dq))), some (.p (.lst (us.map pD))), some (.own M.length), some (.p (.lst ((leftL n us).map dn))), v6, v7, v8, v9, none, v11] (M ++ [.live (takeD n (adjP ps) ts)]) = .nx [some (.p (webD n (adjP ps))), some (.p (dn n)), some (.p (.lst ((quadsL n ps).map dq))), some (.p (.lst (us.map pD))), some (.own M.length), some (.p (.lst ((leftL n us).map dn))), v6, v7, some (.p (dn x)), v9, none, v11] (M ++ [.live (takeD n (adjP ps) us)]) := by
      intro ts v7 v8 v9 v11 x ht hi
      have hta := run_take_all (k + 1) n (adjP ps) ts _ _ (by omega) (by omega) (hj ts)
      rw [hi] at hta
      have hmm : methD pk.prg ("take_all" : Str) (Cell.live (takeD n (adjP ps) ts)).d = some F_Taking_take_all := by rfl
      have hsr := fun M => run__law_same_row (k + 4) (leftL n us) M (Nat.le_trans (leftL_len n us) (by omega))
      have hst := run__law_state (k + 3) n (adjP ps) us _ _ (by omega) (by omega) (hj us)
      have hM : (M ++ [Cell.live (takeD n (adjP ps) ts)]).set M.length (.live (takeD n (adjP ps) us)) = M ++ [Cell.live (takeD n (adjP ps) us)] := by simp
      rw [hM] at hta
      simp (disch := (first | omega | (simp only [List.length_map, mkM_len, fnM_len, List.length_range, List.length_range', List.length_take, List.length_drop, List.length_append, List.length_cons, List.length_nil]; omega))) [b__law_least_first_3, methR_own _ _ (hj ts) hmm, hta, hsr, hst]
    rw [show (List.range 2).map dn = [dn 0, dn 1] from rfl, forGo_c, turn ts0 v7 v8 v9 v11 0 (by omega) hus, lpN_nx, forGo_c, turn us v7 _ v9 v11 1 hl (it_same hz n), lpN_nx, forGo_n]
    simp (disch := (first | omega | (simp only [List.length_map, mkM_len, fnM_len, List.length_range, List.length_range', List.length_take, List.length_drop, List.length_append, List.length_cons, List.length_nil]; omega))) [fldR_own _ _ _ (hj us), eqo_web]
end K

namespace K
open PySem DI Ev
theorem run__law_least_first (k n : Nat) (ps : List (Nat × Nat)) (ts0 : List (Nat × Bool)) (M : Sto) (hn : n ≤ 30) (hb : Bgn n (adjP ps) ts0) :
    run pk.prg pk.fs (k + 7) F__law_least_first [.p (webD n (adjP ps)), .p (dn n), .p (.lst ((quadsL n ps).map dq)), .p (.lst (ts0.map pD))] M = .ok (.p false (.bl true)) M := by
  rw [run_eq fs__law_least_first _ rfl]
  have mk := make_taking (k + 2) n (adjP ps) M false (by omega)
  have hj : ∀ (ts : List (Nat × Bool)), (M ++ [.live (takeD n (adjP ps) ts)])[M.length]? = some (.live (takeD n (adjP ps) ts)) := fun ts => by simp
  have hr := least_rest k n ps ts0 M
  have i0 : ∀ q : Nat × Bool, idxD (pD q) (dn 0) = some (dn q.1) := fun q => idx_tup (by simp)
  have i1 : ∀ q : Nat × Bool, idxD (pD q) (dn 1) = some (sideS q.2) := fun q => idx_tup (by simp)
  have hlen : ts0.length ≤ 2 := by
    rcases hb with rfl | ⟨x, b, rfl, _⟩ <;> simp
  simp (disch := (first | omega | (simp only [List.length_map, mkM_len, fnM_len, List.length_range, List.length_range', List.length_take, List.length_drop, List.length_append, List.length_cons, List.length_nil]; omega))) [b__law_least_first, n__law_least_first, mk]
  rw [lc_map (fun x => some (dn x)) (fun x _ => by simp), filterMap_some, rb_ok, lstOf_ok (by simp; omega)]
  simp (disch := (first | omega | (simp only [List.length_map, mkM_len, fnM_len, List.length_range, List.length_range', List.length_take, List.length_drop, List.length_append, List.length_cons, List.length_nil]; omega))) []
  with_reducible refine for_end (fun pre sl M' => ∃ v6, sl = [some (.p (webD n (adjP ps))), some (.p (dn n)), some (.p (.lst ((quadsL n ps).map dq))), some (.p (.lst (ts0.map pD))), some (.own M.length), some (.p (.lst ((leftL n pre).map dn))), v6, none, none, none, none, none] ∧ M' = M ++ [.live (takeD n (adjP ps) pre)]) ?_ ?_ ?_
  · exact ⟨none, by rw [leftL_nil], rfl⟩
  · rintro pre ⟨x, b⟩ post hx sl M' ⟨v6, rfl, rfl⟩
    rcases hb with rfl | ⟨x', b', rfl, h1, h2, h3⟩
    · simp at hx
    · have hp : pre = [] ∧ x' = x ∧ b' = b := by
        cases pre with
        | nil => simp at hx; exact ⟨rfl, hx.1.1, hx.1.2⟩
        | cons y ys => simp at hx
      obtain ⟨rfl, rfl, rfl⟩ := hp
      have ht := run__law_told (k + 1) n (adjP ps) [] x' (some b') false (M ++ [.live (takeD n (adjP ps) [])]) M.length (by omega) (by simp) (hj []) h1 (by simp)
      have hd : dueD n (adjP ps) [] x' (some b') = .lst [.str ("laid" : Str), sideS b'] ∧ tsN n (adjP ps) [] x' (some b') = [(x', b')] := by
        unfold dueD tsN
        cases b' with
        | true => simp [h2 rfl, sideS]
        | false => simp [h3 rfl, sideS]
      rw [hd.1, hd.2] at ht
      have hne : cmpD .NotEq (.lst [.str ("laid" : Str), sideS b']) (.lst [.str ("laid" : Str), sideS b']) = some false := ne_self (pl2 st_laid (pl_side b').1) (by cases b' <;> decide)
      have hs : sdD (some b') = sideS b' := rfl
      rw [hs] at ht
      have ll := leftL_len n []
      simp (disch := (first | omega | (simp only [List.length_map, mkM_len, fnM_len, List.length_range, List.length_range', List.length_take, List.length_drop, List.length_append, List.length_cons, List.length_nil]; omega))) [b__law_least_first_1, i0, i1]
      rw [lc_map (fun z => if (!decide (z = x')) = true then some (dn z) else none) (fun z _ => by by_cases q : z = x' <;> simp [q, i0]), filterMap_if, rb_ok, lstOf_ok (by rw [List.length_map]; exact Nat.le_trans (List.length_filter_le _ _) (by omega)), ← leftL_snoc n [] x' b']
      simp (disch := (first | omega | (simp only [List.length_map, mkM_len, fnM_len, List.length_range, List.length_range', List.length_take, List.length_drop, List.length_append, List.length_cons, List.length_nil]; omega))) [i0, i1, ht, hne]
  · rintro sl' M' ⟨v6, rfl, rfl⟩
    rw [ss_cons]
    exact hr _ v6 hn hlen ⟨none, none, none, none, rfl, rfl⟩
end K

namespace K
open PySem DI Ev
@[simp] theorem slc_to (xs : List D) (i : Nat) (h : i ≤ xs.length) : slcD (.lst xs) none (some (i : Int)) = some (.lst (xs.take i)) := by
  show some (D.lst (cutD xs none (some (i : Int)))) = _
  unfold cutD
  rw [HT.sIx_none, HT.sIx_nat]
  simp [Nat.min_eq_left h]
@[simp] theorem slc_from (xs : List D) (i : Nat) (h : i ≤ xs.length) : slcD (.lst xs) (some (i : Int)) none = some (.lst (xs.drop i)) := by
  show some (D.lst (cutD xs (some (i : Int)) none)) = _
  unfold cutD
  rw [HT.sIx_none, HT.sIx_nat, Nat.min_eq_left h]
  rw [List.take_of_length_le (by simp)]
theorem run__law_moved (k n w p : Nat) (row : List Nat) (M : Sto) (hn : n ≤ 1000) (hr : Row n row) (hw : w < n) (hp : p < n) : ∃ row' : List Nat, Row n row' ∧ run pk.prg pk.fs (k + 1) F__law_moved [.p (.lst (row.map dn)), .p (dn w), .p (dn p)] M = .ok (.p true (.lst (row'.map dn))) M := by
  have hl := hr.2.1
  have hw' : w < row.length := by omega
  have hd := dropAt_len hw'
  refine ⟨(dropAt row w).take p ++ [row.getD w 0] ++ (dropAt row w).drop p, row_perm ?_, ?_⟩
  · have h1 := dropAt_perm hw'
    have h2 : ((dropAt row w).take p ++ [row.getD w 0] ++ (dropAt row w).drop p).Perm (row.getD w 0 :: dropAt row w) := by
      rw [List.append_assoc, List.singleton_append]
      refine List.Perm.trans List.perm_middle ?_
      rw [List.take_append_drop]
    have h3 : row.Perm (List.range n) := by
      rw [List.perm_ext_iff_of_nodup hr.1 List.nodup_range]
      intro x; rw [hr.2.2, List.mem_range]
    exact h2.trans (h1.symm.trans h3)
  · have hg : row[w] = row.getD w 0 := by simp [hw']
    generalize row.getD w 0 = g at hg
    rw [run_eq fs__law_moved _ rfl]
    simp (disch := (first | omega | (simp only [List.length_map, mkM_len, fnM_len, List.length_range, List.length_range', List.length_take, List.length_drop, List.length_append, List.length_cons, List.length_nil]; omega))) [b__law_moved, n__law_moved]
    rw [lc_map (fun j => if (!decide (j = w)) = true then some (dn (row.getD j 0)) else none) ?h]
    case h =>
      intro j hj
      have hj := List.mem_range.mp hj
      by_cases e : j = w
      · subst e; simp (disch := (first | omega | (simp only [List.length_map, mkM_len, fnM_len, List.length_range, List.length_range', List.length_take, List.length_drop, List.length_append, List.length_cons, List.length_nil]; omega))) []
      · simp (disch := (first | omega | (simp only [List.length_map, mkM_len, fnM_len, List.length_range, List.length_range', List.length_take, List.length_drop, List.length_append, List.length_cons, List.length_nil]; omega))) [e, hj]
    have hd2 : List.map (fun j => dn (row.getD j 0)) ((List.range row.length).filter fun j => !decide (j = w)) = (dropAt row w).map dn := by
      unfold dropAt; rw [List.map_map]; rfl
    rw [filterMap_if, hd2, rb_ok, lstOf_ok (by rw [List.length_map]; omega)]
    simp (disch := (first | omega | (simp only [List.length_map, mkM_len, fnM_len, List.length_range, List.length_range', List.length_take, List.length_drop, List.length_append, List.length_cons, List.length_nil]; omega))) [hg]
theorem run__law_small (k : Nat) (ds : List Nat) (L : Sto) : ∃ (n : Nat) (ps : List (Nat × Nat)) (ds' : List Nat), 1 ≤ n ∧ n ≤ 4 ∧ ltP n ps ∧ ps.length ≤ 4 ∧ run pk.prg pk.fs (k + 2) F__law_small [.own 0] (DM ds L) = .ok (.p true (caseD n ps (List.range n))) (DM ds' L) := by
  have t1 := tk_lt ds (m := 4) (by omega)
  refine ⟨1 + tk ds 4, if tk ds.dropLast 3 = 1 then [] else (List.range (tk ds 4)).map fun x => (x, x + 1), ds.dropLast.dropLast, by omega, by omega, ?_, ?_, ?_⟩
  · split
    · intro q hq; cases hq
    · have := ltP_line (1 + tk ds 4)
      rwa [show 1 + tk ds 4 - 1 = tk ds 4 by omega] at this
  · split
    · simp
    · simp; omega
  · rw [run_eq fs__law_small _ rfl]
    by_cases c : tk ds.dropLast 3 = 1
    · simp (disch := (first | omega | (simp only [List.length_map, mkM_len, fnM_len, List.length_range, List.length_range', List.length_take, List.length_drop, List.length_append, List.length_cons, List.length_nil]; omega))) [b__law_small, n__law_small, c]
      rw [lc_map (fun x => some (dn x)) (fun x _ => by simp), filterMap_some, rb_ok, lstOf_ok (by simp; omega)]
      simp (disch := (first | omega | (simp only [List.length_map, mkM_len, fnM_len, List.length_range, List.length_range', List.length_take, List.length_drop, List.length_append, List.length_cons, List.length_nil]; omega))) [caseD]
    · simp (disch := (first | omega | (simp only [List.length_map, mkM_len, fnM_len, List.length_range, List.length_range', List.length_take, List.length_drop, List.length_append, List.length_cons, List.length_nil]; omega))) [b__law_small, n__law_small, c, run__law_line]
      rw [lc_map (fun x => some (dn x)) (fun x _ => by simp), filterMap_some, rb_ok, lstOf_ok (by simp; omega)]
      simp (disch := (first | omega | (simp only [List.length_map, mkM_len, fnM_len, List.length_range, List.length_range', List.length_take, List.length_drop, List.length_append, List.length_cons, List.length_nil]; omega))) [caseD]
end K

namespace K
open PySem DI Ev
@[simp] theorem idx_cs0 (n : Nat) (ps : List (Nat × Nat)) (row : List Nat) : idxD (caseD n ps row) (dn 0) = some (dn n) := by rfl
@[simp] theorem idx_cs1 (n : Nat) (ps : List (Nat × Nat)) (row : List Nat) : idxD (caseD n ps row) (dn 1) = some (.lst (ps.map dp)) := by rfl
@[simp] theorem idx_cs2 (n : Nat) (ps : List (Nat × Nat)) (row : List Nat) : idxD (caseD n ps row) (dn 2) = some (.lst (row.map dn)) := by rfl
theorem idx_pr0 (q : Nat × Nat) : idxD (dp q) (dn 0) = some (dn q.1) := by rfl
theorem idx_pr1 (q : Nat × Nat) : idxD (dp q) (dn 1) = some (dn q.2) := by rfl
def SdI (N b : Nat) (M : Sto) (v0 v1 v2 : Option DV) (sl : Slots) (M' : Sto) : Prop := ∃ (qs : List (Nat × Nat)) (v4 v6 v7 : Option DV), ltP N qs ∧ qs.length ≤ b ∧ sl = [v0, v1, v2, some (.own M.length), v4, none, v6, v7] ∧ M' = M ++ [.live (.lst (qs.map dp))]
def OkCs (N : Nat) (M : Sto) (r : Res RV) : Prop := ∃ (ps : List (Nat × Nat)) (row : List Nat), ltP N ps ∧ Row N row ∧ r = .ok (.p true (caseD N ps row)) M
theorem range_add' (a b : Nat) : List.range a ++ (List.range b).map (a + ·) = List.range (a + b) := by rw [List.range_add]
theorem run__law_sides (k n1 n2 : Nat) (ps1 ps2 : List (Nat × Nat)) (b : Bool) (M : Sto) (h1 : n1 ≤ 4) (h2 : n2 ≤ 4) (hp1 : ltP n1 ps1) (hp2 : ltP n2 ps2) (l1 : ps1.length ≤ 4) (l2 : ps2.length ≤ 4) :
    OkCs (n1 + n2) M (run pk.prg pk.fs (k + 1) F__law_sides [.p (caseD n1 ps1 (List.range n1)), .p (caseD n2 ps2 (List.range n2)), .p (.bl b)] M) := by
  rw [run_eq fs__law_sides _ rfl]
  have fin : ∀ sl M', SdI (n1 + n2) 100 M (some (.p (caseD n1 ps1 (List.range n1)))) (some (.p (caseD n2 ps2 (List.range n2)))) (some (.p (.bl b))) sl M' → OkCs (n1 + n2) M (endR M.length (execSs pk.prg (run pk.prg pk.fs k) (.cons (.set 5 false (.bin .Add (.bi ("list" : Str) (.cons (.idx (.var 0) (.lit (dn 2))) .nil)) (.lc [(("y" : Str), 7)] (.name 7) (.seq (.idx (.var 1) (.lit (dn 2)))) .yes (.bin .Add (.idx (.var 0) (.lit (dn 0))) (.var 7)))))
    (.cons (.ret (.lst (.cons (.bin .Add (.idx (.var 0) (.lit (dn 0))) (.idx (.var 1) (.lit (dn 0)))) (.cons (.bi ("sorted" : Str) (.cons (.var 3) .nil)) (.cons (.var 5) .nil)))))
    .nil)) sl M')) := by
    rintro sl M' ⟨qs, v4, v6, v7, q1, q2, rfl, rfl⟩
    obtain ⟨rs, r1, r2⟩ := sort_dp qs
    refine ⟨rs, List.range (n1 + n2), fun q hq => q1 q (r1.mem_iff.mp hq), row_range _, ?_⟩
    simp (disch := (first | omega | (simp only [List.length_map, mkM_len, fnM_len, List.length_range, List.length_range', List.length_take, List.length_drop, List.length_append, List.length_cons, List.length_nil]; omega))) []
    rw [lc_map (fun y => some (dn (n1 + y))) (fun y _ => by simp), filterMap_some, rb_ok, lstOf_ok (by simp; omega)]
    have e : List.map (fun x => dn x) (List.range n1) ++ List.map (fun y => dn (n1 + y)) (List.range n2) = (List.range (n1 + n2)).map dn := by
      rw [← range_add', List.map_append, List.map_map]; rfl
    simp (disch := (first | omega | (simp only [List.length_map, mkM_len, fnM_len, List.length_range, List.length_range', List.length_take, List.length_drop, List.length_append, List.length_cons, List.length_nil]; omega))) [r2]
    unfold caseD
    rw [← e]
  simp (disch := (first | omega | (simp only [List.length_map, mkM_len, fnM_len, List.length_range, List.length_range', List.length_take, List.length_drop, List.length_append, List.length_cons, List.length_nil]; omega))) [b__law_sides, n__law_sides]
  with_reducible refine for_P (OkCs (n1 + n2) M) (fun pre => SdI (n1 + n2) (4 + pre.length) M (some (.p (caseD n1 ps1 (List.range n1)))) (some (.p (caseD n2 ps2 (List.range n2)))) (some (.p (.bl b)))) ?_ ?_ ?_
  · exact ⟨ps1, none, none, none, fun q hq => by have := hp1 q hq; omega, by simpa using l1, rfl, rfl⟩
  · rintro pre q post hx sl M' ⟨qs, v4, v6, v7, q1, q2, rfl, rfl⟩
    have hq := hp2 q (by simp [hx])
    have hl := congrArg List.length hx
    simp at hl
    simp (disch := (first | omega | (simp only [List.length_map, mkM_len, fnM_len, List.length_range, List.length_range', List.length_take, List.length_drop, List.length_append, List.length_cons, List.length_nil]; omega))) [b__law_sides_1, idx_pr0, idx_pr1]
    exact ⟨qs ++ [(q.1 + n1, q.2 + n1)], _, _, _, ltP_snoc q1 (by omega) (by omega), by simp; omega, rfl, by simp⟩
  · rintro sl M' ⟨qs, v4, v6, v7, q1, q2, rfl, rfl⟩
    rw [ss_cons]
    generalize execSs pk.prg (run pk.prg pk.fs k) (.cons (.set 5 false (.bin .Add (.bi ("list" : Str) (.cons (.idx (.var 0) (.lit (dn 2))) .nil)) (.lc [(("y" : Str), 7)] (.name 7) (.seq (.idx (.var 1) (.lit (dn 2)))) .yes (.bin .Add (.idx (.var 0) (.lit (dn 0))) (.var 7)))))
    (.cons (.ret (.lst (.cons (.bin .Add (.idx (.var 0) (.lit (dn 0))) (.idx (.var 1) (.lit (dn 0)))) (.cons (.bi ("sorted" : Str) (.cons (.var 3) .nil)) (.cons (.var 5) .nil)))))
    .nil)) = K at fin ⊢
    cases b with
    | false =>
      simp (disch := (first | omega | (simp only [List.length_map, mkM_len, fnM_len, List.length_range, List.length_range', List.length_take, List.length_drop, List.length_append, List.length_cons, List.length_nil]; omega))) []
      exact fin _ _ ⟨qs, _, _, _, q1, by omega, rfl, rfl⟩
    | true =>
      simp (disch := (first | omega | (simp only [List.length_map, mkM_len, fnM_len, List.length_range, List.length_range', List.length_take, List.length_drop, List.length_append, List.length_cons, List.length_nil]; omega))) []
      with_reducible refine for_P (OkCs (n1 + n2) M) (fun pre => SdI (n1 + n2) (8 + pre.length * 4) M (some (.p (caseD n1 ps1 (List.range n1)))) (some (.p (caseD n2 ps2 (List.range n2)))) (some (.p (.bl true)))) ?_ ?_ ?_
      · exact ⟨qs, _, _, _, q1, by omega, rfl, rfl⟩
      · rintro pre x post hx sl M' ⟨qs, v4, v6, v7, q1, q2, rfl, rfl⟩
        have hxx := range_pre hx
        have hx1 := hxx.1
        have hx2 := hxx.2
        simp (disch := (first | omega | (simp only [List.length_map, mkM_len, fnM_len, List.length_range, List.length_range', List.length_take, List.length_drop, List.length_append, List.length_cons, List.length_nil]; omega))) [b__law_sides_3]
        with_reducible refine for_goes0 (fun pre2 sl M' => SdI (n1 + n2) (8 + pre.length * 4 + pre2.length) M (some (.p (caseD n1 ps1 (List.range n1)))) (some (.p (caseD n2 ps2 (List.range n2)))) (some (.p (.bl true))) sl M' ∧ sl[6]? = some (some (.p (dn x)))) ?_ ?_ ?_
        · exact ⟨⟨qs, _, _, _, q1, by omega, rfl, rfl⟩, rfl⟩
        · rintro pre2 y post2 hy sl M' ⟨⟨qs, v4, v6, v7, q1, q2, rfl, rfl⟩, h6⟩
          simp at h6
          subst h6
          have hyy := range_pre hy
          have hy1 := hyy.1
          have hy2 := hyy.2
          simp (disch := (first | omega | (simp only [List.length_map, mkM_len, fnM_len, List.length_range, List.length_range', List.length_take, List.length_drop, List.length_append, List.length_cons, List.length_nil]; omega))) [b__law_sides_2]
          exact ⟨qs ++ [(x, n1 + y)], _, _, _, ltP_snoc q1 (by omega) (by omega), by simp; omega, rfl, by simp⟩
        · rintro sl M' ⟨⟨qs, v4, v6, v7, q1, q2, rfl, rfl⟩, h6⟩
          rw [List.length_range] at q2
          exact ⟨qs, _, _, _, q1, by omega, rfl, rfl⟩
      · rintro sl M' ⟨qs, v4, v6, v7, q1, q2, rfl, rfl⟩
        rw [List.length_range] at q2
        exact fin _ _ ⟨qs, _, _, _, q1, by omega, rfl, rfl⟩
end K

namespace K
open PySem DI Ev
/-- a case with a number of things of its own -/
def OkMade (most : Nat) (L : Sto) (r : Res RV) : Prop := ∃ (n : Nat) (ps : List (Nat × Nat)) (row ds' : List Nat), 2 ≤ n ∧ n ≤ most ∧ ltP n ps ∧ Row n row ∧ r = .ok (.p true (caseD n ps row)) (DM ds' L)
def TwI (most : Nat) (L : Sto) (v0 v1 v2 : Option DV) (l : Nat) (sl : Slots) (M' : Sto) : Prop := ∃ (ds : List Nat) (n : Nat) (ps : List (Nat × Nat)) (row : List Nat) (L2 : Sto) (v6 v7 v8 v9 : Option DV), 2 ≤ n ∧ n ≤ most ∧ ltP n ps ∧ ps.length ≤ 100 + l * 20 ∧ Row n row ∧ L2.take L.length = L ∧ sl = [v0, v1, v2, some (.p (dn n)), some (.p (.lst (ps.map dp))), some (.p (.lst (row.map dn))), v6, v7, v8, v9, none] ∧ M' = DM ds L2
theorem ltP_twin {n : Nat} {ps : List (Nat × Nat)} {near : List Nat} (h : ltP n ps) (h2 : ∀ x ∈ near, x < n) : ltP (n + 1) (ps ++ near.map fun x => (x, n)) := by
  intro q hq
  rcases List.mem_append.mp hq with k | k
  · have := h q k; omega
  · obtain ⟨x, hx, rfl⟩ := List.mem_map.mp k
    have := h2 x hx
    exact ⟨this, by simp⟩
theorem row_twin {n p : Nat} {row : List Nat} (h : Row n row) : Row (n + 1) (row.take p ++ [n] ++ row.drop p) := by
  refine row_perm ?_
  have h3 : row.Perm (List.range n) := by
    rw [List.perm_ext_iff_of_nodup h.1 List.nodup_range]
    intro x; rw [h.2.2, List.mem_range]
  rw [List.range_succ, List.append_assoc, List.singleton_append]
  refine List.Perm.trans List.perm_middle ?_
  rw [List.take_append_drop]
  exact (h3.cons n).trans (List.perm_append_singleton n _).symm
theorem run__law_twins (k n most : Nat) (ps : List (Nat × Nat)) (row ds : List Nat) (L : Sto) (h2 : 2 ≤ n) (hn : n ≤ most) (hm : most ≤ 20) (hp : ltP n ps) (hl : ps.length ≤ 100) (hr : Row n row) :
    OkMade most L (run pk.prg pk.fs (k + 2) F__law_twins [.own 0, .p (caseD n ps row), .p (dn most)] (DM ds L)) := by
  rw [run_eq fs__law_twins _ rfl]
  simp (disch := (first | omega | (simp only [List.length_map, mkM_len, fnM_len, List.length_range, List.length_range', List.length_take, List.length_drop, List.length_append, List.length_cons, List.length_nil]; omega))) [b__law_twins, n__law_twins]
  with_reducible refine for_P (OkMade most L) (fun pre => TwI most L (some (.own 0)) (some (.p (caseD n ps row))) (some (.p (dn most))) pre.length) ?_ ?_ ?_
  · exact ⟨ds, n, ps, row, L, none, none, none, none, h2, hn, hp, by omega, hr, List.take_length, rfl, rfl⟩
  · rintro pre t post hx sl M' ⟨ds, n, ps, row, L2, v6, v7, v8, v9, h2, hn, hp, hl, hr, hL, rfl, rfl⟩
    have hxx := (range_pre hx).1
    have ht := tk_lt ds (m := n) (by omega)
    have hmem : tk ds n ∈ row := (hr.2.2 _).mpr ht
    have hrl := hr.2.1
    have hpos : pos row (tk ds n) + 1 ≤ row.length := List.findIdx_lt_length_of_exists ⟨tk ds n, hmem, by simp⟩
    have hL2 : L.length ≤ L2.length := by
      have := congrArg List.length hL
      simp at this; omega
    have hnear := run__law_near k n (tk ds n) ps
    have hnl := nr_len n ps (tk ds n)
    have hnm : ∀ x ∈ nr n ps (tk ds n), x < n := fun x hx => by
      unfold nr at hx; rw [List.mem_filter] at hx; exact List.mem_range.mp hx.1
    have hN : ∀ M, run pk.prg pk.fs (k + 1) F__law_near [.p (dn n), .p (.lst (ps.map dp)), .p (dn (tk ds n))] M = .ok (.p true (.lst ((nr n ps (tk ds n)).map dn))) M := fun M => hnear M (by omega) hp
    have hI' : ∀ (f g : Bool) M, mtD ("index" : Str) (.p f (.lst (row.map dn))) [.p g (dn (tk ds n))] M = .ok (.p false (dn (pos row (tk ds n)))) M := fun f g M => mt_pos f g row _ M hmem
    obtain ⟨p, hP⟩ : ∃ p, pos row (tk ds n) + 1 = p := ⟨_, rfl⟩
    rw [hP] at hpos
    generalize hnr : nr n ps (tk ds n) = near at hnl hnm hN
    by_cases c : n < most
    · by_cases c4 : 0 < tk ds.dropLast 4
      · by_cases c2 : tk ds.dropLast.dropLast 2 = 1
        · simp (disch := (first | omega | (simp only [List.length_map, mkM_len, fnM_len, List.length_range, List.length_range', List.length_take, List.length_drop, List.length_append, List.length_cons, List.length_nil]; omega))) [b__law_twins_1, c, c4, c2, hN]
          rw [show List.map dn near ++ [dn (tk ds n)] = (near ++ [tk ds n]).map dn by simp, lc_map (fun x => some (dp (x, n))) (fun x _ => by simp), filterMap_some, rb_ok, lstOf_ok (by (first | omega | (simp only [List.length_map, mkM_len, fnM_len, List.length_range, List.length_range', List.length_take, List.length_drop, List.length_append, List.length_cons, List.length_nil]; omega) | (simp; omega)))]
          simp (disch := (first | omega | (simp only [List.length_map, mkM_len, fnM_len, List.length_range, List.length_range', List.length_take, List.length_drop, List.length_append, List.length_cons, List.length_nil]; omega))) [hI', hP, hpos]
          exact ⟨ds.dropLast.dropLast.dropLast, n + 1, ps ++ (near ++ [tk ds n]).map (fun x => (x, n)), row.take p ++ [n] ++ row.drop p, L2 ++ [.dead (.lst ((near ++ [tk ds n]).map dn))], some (.p (dn t)), some (.p (dn (tk ds n))), some (.own (L2.length + 1)), some (.p (dn p)), by omega, by omega, ltP_twin hp (fun x hx => by rcases List.mem_append.mp hx with z | z; exact hnm x z; simp at z; omega), by (first | omega | (simp only [List.length_map, mkM_len, fnM_len, List.length_range, List.length_range', List.length_take, List.length_drop, List.length_append, List.length_cons, List.length_nil]; omega) | (simp; omega)), row_twin hr, by rw [List.take_append_of_le_length hL2]; exact hL, by simp, by simp⟩
        · simp (disch := (first | omega | (simp only [List.length_map, mkM_len, fnM_len, List.length_range, List.length_range', List.length_take, List.length_drop, List.length_append, List.length_cons, List.length_nil]; omega))) [b__law_twins_1, c, c4, c2, hN]
          rw [lc_map (fun x => some (dp (x, n))) (fun x _ => by simp), filterMap_some, rb_ok, lstOf_ok (by (first | omega | (simp only [List.length_map, mkM_len, fnM_len, List.length_range, List.length_range', List.length_take, List.length_drop, List.length_append, List.length_cons, List.length_nil]; omega) | (simp; omega)))]
          simp (disch := (first | omega | (simp only [List.length_map, mkM_len, fnM_len, List.length_range, List.length_range', List.length_take, List.length_drop, List.length_append, List.length_cons, List.length_nil]; omega))) [hI', hP, hpos]
          exact ⟨ds.dropLast.dropLast.dropLast, n + 1, ps ++ (near).map (fun x => (x, n)), row.take p ++ [n] ++ row.drop p, L2 ++ [.dead (.lst ((near).map dn))], some (.p (dn t)), some (.p (dn (tk ds n))), some (.own (L2.length + 1)), some (.p (dn p)), by omega, by omega, ltP_twin hp hnm, by (first | omega | (simp only [List.length_map, mkM_len, fnM_len, List.length_range, List.length_range', List.length_take, List.length_drop, List.length_append, List.length_cons, List.length_nil]; omega) | (simp; omega)), row_twin hr, by rw [List.take_append_of_le_length hL2]; exact hL, by simp, by simp⟩
      · simp (disch := (first | omega | (simp only [List.length_map, mkM_len, fnM_len, List.length_range, List.length_range', List.length_take, List.length_drop, List.length_append, List.length_cons, List.length_nil]; omega))) [b__law_twins_1, c, c4]
        exact ⟨_, n, ps, row, L2, _, _, _, _, h2, hn, hp, by omega, hr, hL, rfl, rfl⟩
    · simp (disch := (first | omega | (simp only [List.length_map, mkM_len, fnM_len, List.length_range, List.length_range', List.length_take, List.length_drop, List.length_append, List.length_cons, List.length_nil]; omega))) [b__law_twins_1, c]
      exact ⟨_, n, ps, row, L2, _, _, _, _, h2, hn, hp, by omega, hr, hL, rfl, rfl⟩
  · rintro sl' M' ⟨ds, n, ps, row, L2, v6, v7, v8, v9, h2, hn, hp, hl, hr, hL, rfl, rfl⟩
    obtain ⟨qs, r1, r2⟩ := sort_dp ps
    refine ⟨n, qs, row, ds, h2, hn, fun q hq => hp q (r1.mem_iff.mp hq), hr, ?_⟩
    simp (disch := (first | omega | (simp only [List.length_map, mkM_len, fnM_len, List.length_range, List.length_range', List.length_take, List.length_drop, List.length_append, List.length_cons, List.length_nil]; omega))) [r2, hL, caseD]
end K

namespace K
open PySem DI Ev
def d3 (r : Nat × Nat × Nat) : D := .tup [dn r.1, dn r.2.1, dn r.2.2]
instance : Enc d3 := ⟨fun a b h => by
    unfold d3 at h; simp only [D.tup.injEq, List.cons.injEq] at h
    obtain ⟨a1, a2, a3⟩ := a
    obtain ⟨b1, b2, b3⟩ := b
    have := dn_inj h.1; have := dn_inj h.2.1; have := dn_inj h.2.2.1
    simp_all, fun a => rfl, fun a => (show (1 : Nat) ≤ 20 by decide)⟩
@[simp] theorem mk_d3 (a b c : Nat) : D.tup [dn a, dn b, dn c] = d3 (a, b, c) := (rfl)
@[simp] theorem idx_d30 (q : Nat × Nat × Nat) : idxD (d3 q) (dn 0) = some (dn q.1) := (rfl)
@[simp] theorem idx_d31 (q : Nat × Nat × Nat) : idxD (d3 q) (dn 1) = some (dn q.2.1) := (rfl)
@[simp] theorem idx_d32 (q : Nat × Nat × Nat) : idxD (d3 q) (dn 2) = some (dn q.2.2) := (rfl)
theorem sort_d3 (ps : List (Nat × Nat × Nat)) : ∃ qs : List (Nat × Nat × Nat), qs.Perm ps ∧ biD ("sorted" : Str) [.lst (ps.map d3)] = some (.p true (.lst (qs.map d3))) := by
  have hb : sortB (ps.map d3) = true := by
    unfold sortB
    rw [Bool.or_eq_true, Bool.or_eq_true]; left; right
    rw [List.all_eq_true]
    intro x hx
    obtain ⟨p, _, rfl⟩ := List.mem_map.mp hx
    rfl
  have hp : (sortD (ps.map d3)).Perm (ps.map d3) := List.mergeSort_perm _ _
  obtain ⟨qs, h1, h2⟩ := perm_map (f := d3) (g := fun d => match d with | .tup [.int i, .int j, .int k] => (i.toNat, j.toNat, k.toNat) | _ => (0, 0, 0)) (fun x => by show ((x.1 : Int).toNat, (x.2.1 : Int).toNat, (x.2.2 : Int).toNat) = x; simp) hp
  exact ⟨qs, h1, by rw [bi_sorted _ hb, h2]⟩
theorem range_pre' {n x : Nat} {pre post : List Nat} (h : List.range n = pre ++ x :: post) : pre = List.range x ∧ pre.length = x := by
  have h1 : pre.length < n := (range_pre h).1
  have h2 : (List.range n)[pre.length]? = some x := by rw [h]; simp
  rw [List.getElem?_range h1] at h2
  injection h2 with h2
  refine ⟨?_, h2⟩
  have h3 : (List.range n).take pre.length = pre := by rw [h]; simp
  rw [← h3, List.take_range, h2]
  congr 1; omega
theorem DM_get1 (ds : List Nat) (L X : Sto) (x : Cell) : (DM ds (L ++ x :: X))[L.length + 1]? = some x := by rw [DM_getS]; simp
theorem DM_get2 (ds : List Nat) (L X : Sto) (x y : Cell) : (DM ds (L ++ x :: y :: X))[L.length + 1 + 1]? = some y := by rw [DM_getS]; simp
def StI (n : Nat) (L : Sto) (pre : List Nat) (sl : Slots) (M' : Sto) : Prop := ∃ (ds : List Nat) (sp : List (Nat × Nat × Nat)) (v3 v5 : Option DV), sp.map (·.2.2) = pre ∧ sl = [some (.own 0), some (.p (dn n)), some (.own (L.length + 1)), v3, none, v5, none, none] ∧ M' = DM ds (L ++ [.live (.lst (sp.map d3))])
def StJ (n : Nat) (ds : List Nat) (sp : List (Nat × Nat × Nat)) (L : Sto) (l : Nat) (sl : Slots) (M' : Sto) : Prop := ∃ (ps : List (Nat × Nat)) (v3 v5 v6 : Option DV), ps.length ≤ l ∧ ltP n ps ∧ sl = [some (.own 0), some (.p (dn n)), some (.own (L.length + 1)), v3, some (.own (L.length + 1 + 1)), v5, v6, none] ∧ M' = DM ds (L ++ [.live (.lst (sp.map d3)), .live (.lst (ps.map dp))])
theorem run__law_stretches (k n : Nat) (ds : List Nat) (L : Sto) (hn : n ≤ 1000) : OkCase n L (run pk.prg pk.fs (k + 2) F__law_stretches [.own 0, .p (dn n)] (DM ds L)) := by
  have hnn : n * n ≤ 1000 * 1000 := mul_le hn hn
  rw [run_eq fs__law_stretches _ rfl]
  simp (disch := (first | omega | (simp only [List.length_map, mkM_len, fnM_len, List.length_range, List.length_range', List.length_take, List.length_drop, List.length_append, List.length_cons, List.length_nil]; omega))) [b__law_stretches, n__law_stretches]
  with_reducible refine for_P (OkCase n L) (fun pre => StI n L pre) ?_ ?_ ?_
  · exact ⟨ds, [], none, none, rfl, rfl, by simp⟩
  · rintro pre x post hx sl M' ⟨ds, sp, v3, v5, h1, rfl, rfl⟩
    have hxx := (range_pre hx).1
    have hl := congrArg List.length h1
    rw [List.length_map] at hl
    simp (disch := (first | omega | (simp only [List.length_map, mkM_len, fnM_len, List.length_range, List.length_range', List.length_take, List.length_drop, List.length_append, List.length_cons, List.length_nil]; omega))) [b__law_stretches_1]
    exact ⟨ds.dropLast.dropLast, sp ++ [(tk ds 7, tk ds 7 + tk ds.dropLast 4, x)], _, _, by simp [h1], rfl, by simp⟩
  · rintro sl M' ⟨ds, sp, v3, v5, h1, rfl, rfl⟩
    have hl := congrArg List.length h1
    rw [List.length_map, List.length_range] at hl
    simp (disch := (first | omega | (simp only [List.length_map, mkM_len, fnM_len, List.length_range, List.length_range', List.length_take, List.length_drop, List.length_append, List.length_cons, List.length_nil]; omega))) []
    with_reducible refine for_P (OkCase n L) (fun pre => StJ n ds sp L (pre.length * n)) ?_ ?_ ?_
    · exact ⟨[], v3, v5, none, by simp, (by intro q hq; simp at hq), rfl, by simp⟩
    · rintro pre x post hx sl M' ⟨ps, v3, v5, v6, h2, h3, rfl, rfl⟩
      have hpp := range_pre hx
      have p1 := hpp.1
      have p2 := hpp.2
      have hb : pre.length * n + n ≤ n * n := by
        have := Nat.mul_le_mul_right n p1
        rw [Nat.succ_mul] at this; exact this
      have hb2 : (pre ++ [x]).length * n = pre.length * n + n := by simp [Nat.succ_mul]
      rw [hb2]
      simp (disch := (first | omega | (simp only [List.length_map, mkM_len, fnM_len, List.length_range, List.length_range', List.length_take, List.length_drop, List.length_append, List.length_cons, List.length_nil]; omega))) [b__law_stretches_3, next_id]
      with_reducible refine for_goes0 (fun pre2 sl M' => StJ n ds sp L (pre.length * n + pre2.length) sl M' ∧ sl[3]? = some (some (.p (dn x)))) ?_ ?_ ?_
      · exact ⟨⟨ps, _, _, _, by simpa using h2, h3, rfl, rfl⟩, rfl⟩
      · rintro pre2 y post2 hy sl M' ⟨⟨ps, v3, v5, v6, h2, h3, rfl, rfl⟩, h4⟩
        simp at h4
        subst h4
        have hqq := range'_pre hy
        have q1 := hqq.1
        have q2 := hqq.2.1
        have q3 := hqq.2.2
        have g1 := DM_get1 ds L [.live (.lst (ps.map dp))] (.live (.lst (sp.map d3)))
        have g2 : mtOk ("append" : Str) (.own (L.length + 1 + 1)) (DM ds (L ++ [.live (.lst (sp.map d3)), .live (.lst (ps.map dp))])) = true := mtOk_own (DM_get2 ds L [] _ _)
        simp (disch := (first | omega | (simp only [List.length_map, mkM_len, fnM_len, List.length_range, List.length_range', List.length_take, List.length_drop, List.length_append, List.length_cons, List.length_nil]; omega))) [b__law_stretches_2, idxR_own g1, g1, g2]
        split
        · simp (disch := (first | omega | (simp only [List.length_map, mkM_len, fnM_len, List.length_range, List.length_range', List.length_take, List.length_drop, List.length_append, List.length_cons, List.length_nil]; omega))) []
          exact ⟨ps ++ [(x, y)], _, _, _, by (first | omega | (simp only [List.length_map, mkM_len, fnM_len, List.length_range, List.length_range', List.length_take, List.length_drop, List.length_append, List.length_cons, List.length_nil]; omega) | (simp; omega)), ltP_snoc h3 (by omega) (by omega), rfl, by simp⟩
        · simp (disch := (first | omega | (simp only [List.length_map, mkM_len, fnM_len, List.length_range, List.length_range', List.length_take, List.length_drop, List.length_append, List.length_cons, List.length_nil]; omega))) []
          exact ⟨ps, _, _, _, by omega, h3, rfl, rfl⟩
      · rintro sl' M' ⟨⟨ps, v3, v5, v6, h2, h3, rfl, rfl⟩, h4⟩
        exact ⟨ps, _, _, _, by simp at h2; omega, h3, rfl, rfl⟩
    · rintro sl' M' ⟨ps, v3, v5, v6, h2, h3, rfl, rfl⟩
      obtain ⟨qs, r1, r2⟩ := sort_d3 sp
      have hr : Row n (qs.map (·.2.2)) := by
        refine row_perm ?_
        rw [← h1]
        exact r1.map _
      refine ⟨ps, qs.map (·.2.2), ds, h3, by simpa using h2, hr, ?_⟩
      have g1 := DM_get1 ds L [.live (.lst (ps.map dp))] (.live (.lst (sp.map d3)))
      simp (disch := (first | omega | (simp only [List.length_map, mkM_len, fnM_len, List.length_range, List.length_range', List.length_take, List.length_drop, List.length_append, List.length_cons, List.length_nil]; omega))) [r2, g1]
      rw [lc_map (fun q => some (dn q.2.2)) (fun q _ => by simp), filterMap_some, rb_ok, lstOf_ok (by rw [List.length_map, r1.length_eq]; omega)]
      simp (disch := (first | omega | (simp only [List.length_map, mkM_len, fnM_len, List.length_range, List.length_range', List.length_take, List.length_drop, List.length_append, List.length_cons, List.length_nil]; omega))) [caseD]
end K

namespace K
open PySem DI Ev
theorem okMade_of {most n : Nat} {L : Sto} {r : Res RV} (h : OkCase n L r) (h1 : 2 ≤ n) (h2 : n ≤ most) : OkMade most L r := by
  obtain ⟨ps, row, ds', a, b, c, d⟩ := h
  exact ⟨n, ps, row, ds', h1, h2, a, c, d⟩
theorem okMade_rt {most : Nat} {L M : Sto} {sl : Slots} {r : Res RV} (h : OkMade most L r) : OkMade most L (endR (L.length + 1) (r.st sl fun a M1 => .rt a M1)) := by
  obtain ⟨n, ps, row, ds', h1, h2, h3, h4, rfl⟩ := h
  exact ⟨n, ps, row, ds', h1, h2, h3, h4, by simp⟩
theorem ltP_lines (m : Nat) : ltP (4 + m) ((List.range (3 + m)).map fun x => (x, x + 1)) := by
  have := ltP_line (4 + m)
  rwa [show 4 + m - 1 = 3 + m by omega] at this
theorem run__law_made (k most : Nat) (ds : List Nat) (L : Sto) (hm : 6 ≤ most ∧ most ≤ 8) : OkMade most L (run pk.prg pk.fs (k + 4) F__law_made [.own 0, .p (dn most)] (DM ds L)) := by
  rw [run_eq fs__law_made _ rfl]
  have t1 := tk_lt ds (m := 12) (by omega)
  have t2 := tk_lt ds.dropLast (m := most - 3) (by omega)
  obtain ⟨w, hw⟩ : ∃ w, w = tk ds 12 := ⟨_, rfl⟩
  obtain ⟨m, hm2⟩ : ∃ m, m = tk ds.dropLast (most - 3) := ⟨_, rfl⟩
  rw [← hw] at t1
  rw [← hm2] at t2
  simp (disch := (first | omega | (simp only [List.length_map, mkM_len, fnM_len, List.length_range, List.length_range', List.length_take, List.length_drop, List.length_append, List.length_cons, List.length_nil]; omega))) [b__law_made, n__law_made, ← hw, ← hm2]
  rw [lc_map (fun x => some (dn x)) (fun x _ => by simp), filterMap_some, rb_ok, lstOf_ok (by simp; omega)]
  have c : w = 0 ∨ w = 1 ∨ w = 2 ∨ w = 3 ∨ w = 4 ∨ w = 5 ∨ w = 6 ∨ w = 7 ∨ w = 8 ∨ w = 9 ∨ w = 10 ∨ w = 11 := by omega
  rcases c with c | c | c | c | c | c | c | c | c | c | c | c
  · simp (disch := (first | omega | (simp only [List.length_map, mkM_len, fnM_len, List.length_range, List.length_range', List.length_take, List.length_drop, List.length_append, List.length_cons, List.length_nil]; omega))) [c, run__law_line]
    exact ⟨4, _, [0, 1, 2, 3], _, by omega, by omega, ltP_line 4, row_range 4, rfl⟩
  · obtain ⟨ps, e1, e2⟩ := run__law_ring (k + 2) (4 + m) (DM ds.dropLast.dropLast L) (by omega) (by omega)
    obtain ⟨row, e3, e4⟩ := run__law_ring_row (k + 2) (4 + m) (DM ds.dropLast.dropLast L) (by omega)
    simp (disch := (first | omega | (simp only [List.length_map, mkM_len, fnM_len, List.length_range, List.length_range', List.length_take, List.length_drop, List.length_append, List.length_cons, List.length_nil]; omega))) [c, e2, e4]
    exact ⟨4 + m, ps, row, _, by omega, by omega, ltP_ring (by omega) e1, e3, rfl⟩
  · obtain ⟨ps, e1, e2⟩ := run__law_ring (k + 2) (max (4 + m) 5) (DM ds.dropLast.dropLast L) (by omega) (by omega)
    obtain ⟨row, e3, e4⟩ := run__law_ring_row (k + 2) (max (4 + m) 5) (DM ds.dropLast.dropLast L) (by omega)
    have e5 := run__law_contrary (k + 2) (max (4 + m) 5) ps (DM ds.dropLast.dropLast L) (by omega) (ltP_ring (by omega) e1)
    simp (disch := (first | omega | (simp only [List.length_map, mkM_len, fnM_len, List.length_range, List.length_range', List.length_take, List.length_drop, List.length_append, List.length_cons, List.length_nil]; omega))) [c, e2, e4, e5]
    exact ⟨max (4 + m) 5, _, row, _, by omega, by omega, ltP_prs _ _, e3, rfl⟩
  · simp (disch := (first | omega | (simp only [List.length_map, mkM_len, fnM_len, List.length_range, List.length_range', List.length_take, List.length_drop, List.length_append, List.length_cons, List.length_nil]; omega))) [c, run__law_line]
    exact ⟨4 + m, (List.range (3 + m)).map fun x => (x, x + 1), _, ds.dropLast.dropLast, by omega, by omega, ltP_lines m, row_range _, by simp [caseD]⟩
  · have h := okMade_of (most := most) (run__law_stretches (k + 1) (4 + m) ds.dropLast.dropLast L (by omega)) (by omega) (by omega)
    obtain ⟨n, ps, row, ds', h1, h2, h3, h4, h5⟩ := h
    simp (disch := (first | omega | (simp only [List.length_map, mkM_len, fnM_len, List.length_range, List.length_range', List.length_take, List.length_drop, List.length_append, List.length_cons, List.length_nil]; omega))) [c, h5]
    exact ⟨n, ps, row, ds', h1, h2, h3, h4, rfl⟩
  · have h := okMade_of (most := most) (run__law_falling k (4 + m) ds.dropLast.dropLast L (by omega)) (by omega) (by omega)
    obtain ⟨n, ps, row, ds', h1, h2, h3, h4, h5⟩ := h
    simp (disch := (first | omega | (simp only [List.length_map, mkM_len, fnM_len, List.length_range, List.length_range', List.length_take, List.length_drop, List.length_append, List.length_cons, List.length_nil]; omega))) [c, h5]
    exact ⟨n, ps, row, ds', h1, h2, h3, h4, rfl⟩
  · have h := okMade_of (most := most) (run__law_free (k + 1) (4 + m) 2 ds.dropLast.dropLast L (by omega)) (by omega) (by omega)
    obtain ⟨n, ps, row, ds', h1, h2, h3, h4, h5⟩ := h
    simp (disch := (first | omega | (simp only [List.length_map, mkM_len, fnM_len, List.length_range, List.length_range', List.length_take, List.length_drop, List.length_append, List.length_cons, List.length_nil]; omega))) [c, h5]
    exact ⟨n, ps, row, ds', h1, h2, h3, h4, rfl⟩
  · obtain ⟨n1, ps1, d1, a1, a2, a3, a4, a5⟩ := run__law_small (k + 1) ds.dropLast.dropLast L
    obtain ⟨n2, ps2, d2, b1, b2, b3, b4, b5⟩ := run__law_small (k + 1) d1 L
    by_cases q : most < n1 + n2
    · have h := run__law_sides (k + 2) n1 1 ps1 [] true (DM d2 L) a2 (by omega) a3 (by intro q hq; cases hq) a4 (by simp)
      obtain ⟨qs, row, c1, c2, c3⟩ := h
      have e : caseD 1 [] (List.range 1) = .lst [dn 1, .lst [], .lst [dn 0]] := rfl
      rw [e] at c3
      simp (disch := (first | omega | (simp only [List.length_map, mkM_len, fnM_len, List.length_range, List.length_range', List.length_take, List.length_drop, List.length_append, List.length_cons, List.length_nil]; omega))) [c, a5, b5, q, c3]
      exact ⟨n1 + 1, qs, row, d2, by omega, by omega, c1, c2, rfl⟩
    · have h := run__law_sides (k + 2) n1 n2 ps1 ps2 true (DM d2 L) a2 b2 a3 b3 a4 b4
      obtain ⟨qs, row, c1, c2, c3⟩ := h
      simp (disch := (first | omega | (simp only [List.length_map, mkM_len, fnM_len, List.length_range, List.length_range', List.length_take, List.length_drop, List.length_append, List.length_cons, List.length_nil]; omega))) [c, a5, b5, q, c3]
      exact ⟨n1 + n2, qs, row, d2, by omega, by omega, c1, c2, rfl⟩
  · obtain ⟨n1, ps1, d1, a1, a2, a3, a4, a5⟩ := run__law_small (k + 1) ds.dropLast.dropLast L
    obtain ⟨n2, ps2, d2, b1, b2, b3, b4, b5⟩ := run__law_small (k + 1) d1 L
    by_cases q : most < n1 + n2
    · have h := run__law_sides (k + 2) n1 1 ps1 [] false (DM d2 L) a2 (by omega) a3 (by intro q hq; cases hq) a4 (by simp)
      obtain ⟨qs, row, c1, c2, c3⟩ := h
      have e : caseD 1 [] (List.range 1) = .lst [dn 1, .lst [], .lst [dn 0]] := rfl
      rw [e] at c3
      simp (disch := (first | omega | (simp only [List.length_map, mkM_len, fnM_len, List.length_range, List.length_range', List.length_take, List.length_drop, List.length_append, List.length_cons, List.length_nil]; omega))) [c, a5, b5, q, c3]
      exact ⟨n1 + 1, qs, row, d2, by omega, by omega, c1, c2, rfl⟩
    · have h := run__law_sides (k + 2) n1 n2 ps1 ps2 false (DM d2 L) a2 b2 a3 b3 a4 b4
      obtain ⟨qs, row, c1, c2, c3⟩ := h
      simp (disch := (first | omega | (simp only [List.length_map, mkM_len, fnM_len, List.length_range, List.length_range', List.length_take, List.length_drop, List.length_append, List.length_cons, List.length_nil]; omega))) [c, a5, b5, q, c3]
      exact ⟨n1 + n2, qs, row, d2, by omega, by omega, c1, c2, rfl⟩
  · have h := run__law_twins (k + 1) 4 most ((List.range 3).map fun x => (x, x + 1)) [0, 1, 2, 3] ds.dropLast.dropLast L (by omega) (by omega) (by omega) (ltP_line 4) (by simp) (row_range 4)
    have e : caseD 4 ((List.range 3).map fun x => (x, x + 1)) [0, 1, 2, 3] = .lst [dn 4, .lst [dp (0, 1), dp (1, 2), dp (2, 3)], .lst [dn 0, dn 1, dn 2, dn 3]] := rfl
    rw [e] at h
    obtain ⟨n, ps, row, ds', h1, h2, h3, h4, h5⟩ := h
    have e4 := run__law_line (k + 2) 4 (DM ds.dropLast.dropLast L) (by omega) (by omega)
    rw [show (((List.range (4 - 1)).map fun x => (x, x + 1)).map dp) = [dp (0, 1), dp (1, 2), dp (2, 3)] from rfl] at e4
    simp (disch := (first | omega | (simp only [List.length_map, mkM_len, fnM_len, List.length_range, List.length_range', List.length_take, List.length_drop, List.length_append, List.length_cons, List.length_nil]; omega))) [c, e4, h5]
    exact ⟨n, ps, row, ds', h1, h2, h3, h4, rfl⟩
  · obtain ⟨ps, e1, e2⟩ := run__law_ring (k + 2) 5 (DM ds.dropLast.dropLast L) (by omega) (by omega)
    obtain ⟨qs, e3, e4⟩ := sort_dp (ps ++ [(0, 2)])
    have e6 : ltP 5 qs := by
      intro q hq
      rcases List.mem_append.mp (e3.mem_iff.mp hq) with z | z
      · exact ltP_ring (by omega) e1 q z
      · simp at z; subst z; exact ⟨by simp, by simp⟩
    have e7 : ps.length ≤ 25 := len_ring (n := 5) (by omega) e1
    rw [List.map_append, List.map_cons, List.map_nil] at e4
    simp (disch := (first | omega | (simp only [List.length_map, mkM_len, fnM_len, List.length_range, List.length_range', List.length_take, List.length_drop, List.length_append, List.length_cons, List.length_nil]; omega))) [c, e2, e4]
    exact ⟨5, qs, [0, 2, 1, 3, 4], _, by omega, by omega, e6, row_perm (by decide), rfl⟩
  · have h := okMade_of (most := most) (run__law_free (k + 1) (4 + m) 0 ds.dropLast.dropLast L (by omega)) (by omega) (by omega)
    obtain ⟨n, ps, row, ds', h1, h2, h3, h4, h5⟩ := h
    simp (disch := (first | omega | (simp only [List.length_map, mkM_len, fnM_len, List.length_range, List.length_range', List.length_take, List.length_drop, List.length_append, List.length_cons, List.length_nil]; omega))) [c, h5]
    exact ⟨n, ps, row, ds', h1, h2, h3, h4, rfl⟩
theorem run__law_case (k most : Nat) (ds : List Nat) (L : Sto) (hm : 6 ≤ most ∧ most ≤ 8) : OkMade most L (run pk.prg pk.fs (k + 5) F__law_case [.own 0, .p (dn most)] (DM ds L)) := by
  rw [run_eq fs__law_case _ rfl]
  obtain ⟨n, ps, row, d1, h1, h2, h3, h4, h5⟩ := run__law_made k most ds L hm
  have t1 := tk_lt d1 (m := 4) (by omega)
  obtain ⟨w, hw⟩ : ∃ w, w = tk d1 4 := ⟨_, rfl⟩
  rw [← hw] at t1
  have c : w = 0 ∨ w = 3 ∨ (w ≠ 0 ∧ w ≠ 3) := by omega
  rcases c with c | c | c
  · obtain ⟨w1, hw1⟩ : ∃ w1, w1 = (n - 1 + tk d1.dropLast n) % n := ⟨_, rfl⟩
    obtain ⟨w2, hw2⟩ : ∃ w2, w2 = (1 + tk d1.dropLast.dropLast n) % n := ⟨_, rfl⟩
    have l1 : w1 < n := by rw [hw1]; exact Nat.mod_lt _ (by omega)
    have l2 : w2 < n := by rw [hw2]; exact Nat.mod_lt _ (by omega)
    obtain ⟨row', r1, r2⟩ := run__law_moved (k + 3) n w1 w2 row (DM d1.dropLast.dropLast.dropLast L) (by omega) h4 l1 l2
    simp (disch := (first | omega | (simp only [List.length_map, mkM_len, fnM_len, List.length_range, List.length_range', List.length_take, List.length_drop, List.length_append, List.length_cons, List.length_nil]; omega))) [b__law_case, n__law_case, h5, ← hw, c, ← hw1, ← hw2, r2]
    exact ⟨n, ps, row', _, h1, h2, h3, r1, rfl⟩
  · obtain ⟨row', d2, r1, r2⟩ := run__law_row (k + 2) n d1.dropLast L (by omega)
    simp (disch := (first | omega | (simp only [List.length_map, mkM_len, fnM_len, List.length_range, List.length_range', List.length_take, List.length_drop, List.length_append, List.length_cons, List.length_nil]; omega))) [b__law_case, n__law_case, h5, ← hw, c, r2]
    exact ⟨n, ps, row', d2, h1, h2, h3, r1, rfl⟩
  · simp (disch := (first | omega | (simp only [List.length_map, mkM_len, fnM_len, List.length_range, List.length_range', List.length_take, List.length_drop, List.length_append, List.length_cons, List.length_nil]; omega))) [b__law_case, n__law_case, h5, ← hw, c]
    exact ⟨n, ps, row, _, h1, h2, h3, h4, rfl⟩
end K

namespace K
open PySem DI Ev
theorem law_true (k : Nat) (ns : List Int) (hns : ns.length ≤ 63) : ∃ fr M, run pk.prg pk.fs (k + 8) F_law [.p (.scr ns)] [] = .ok (.p fr (.bl true)) M := by
  obtain ⟨ds, h1⟩ := run__law_draws (k + 6) ns [] hns
  have t0 := tk_lt ds (m := 2) (by omega)
  have e : ([.live (.lst (ds.map dn))] : Sto) = DM ds [] := rfl
  obtain ⟨most, hm, hm1⟩ : ∃ most, (6 ≤ most ∧ most ≤ 8) ∧ most = if tk ds.dropLast 24 = 23 then 8 else 6 + tk ds 2 := ⟨_, by split <;> omega, rfl⟩
  obtain ⟨n, ps, row, ds1, h2, h3, h4, h5, h6⟩ := run__law_case (k + 2) most ds.dropLast.dropLast [] hm
  have hp : ∀ (M : Sto), makeR pk.prg (run pk.prg pk.fs (k + 7)) C_Web [.p false (dn n), .p false (.lst (ps.map dp))] M = .ok (.p true (webD n (adjP ps))) M := fun M => make_web (k + 3) n ps _ M false false (by omega) (Or.inl rfl) (ltP_ok h4)
  have hq := run__law_quads (k + 5) n ps (DM ds1 []) (by omega) h4
  have hc := run__law_core (k + 6) n (quadsL n ps) (DM ds1 []) (by omega) (Nat.le_trans (quads_len n ps (by omega)) (by omega))
  rw [cs_core] at hc
  have hco := fun M => run_core (k + 1) n (adjP ps) M (by omega)
  rw [it_core (fair_nil n _)] at hco
  have hcl : (coreL n (r4 n (adjP ps))).length ≤ 1000 := by
    have : (coreL n (r4 n (adjP ps))).length ≤ (List.range n).length := List.length_filter_le _ _
    rw [List.length_range] at this; omega
  have hsr := fun M => run__law_same_row (k + 5) (coreL n (r4 n (adjP ps))) M hcl
  have i0 : ∀ u v : D, idxD (.lst [u, v]) (dn 0) = some u := fun u v => idx_lst (by simp)
  have i1 : ∀ u v : D, idxD (.lst [u, v]) (dn 1) = some v := fun u v => idx_lst (by simp)
  obtain ⟨ds2, w1⟩ := run__law_walk k n ps ds1 [] (by omega) (by omega)
  obtain ⟨ds3, w2⟩ := run__law_walk k n ps ds2 [] (by omega) (by omega)
  have hab := run_able (k + 4) n ps [] (DM ds3 []) (by omega)
  rw [leftL_nil] at hab
  have hnm := fun x M => run_no_middle (k + 5) n ps [] x M (by omega)
  rw [leftL_nil] at hnm
  have hlf := fun ts M hb => run__law_least_first k n ps ts M (by omega) hb
  refine ⟨false, [], ?_⟩
  rw [run_eq fs_law _ rfl]
  by_cases c0 : tk ds.dropLast 24 = 23
  case' pos => rw [if_pos c0] at hm1
  case' neg => rw [if_neg c0] at hm1
  all_goals
    subst hm1
    simp (disch := (first | omega | (simp only [List.length_map, mkM_len, fnM_len, List.length_range, List.length_range', List.length_take, List.length_drop, List.length_append, List.length_cons, List.length_nil]; omega))) [b_law, n_law, h1, e, c0, h6, hp, hq, hc, hco, hsr]
    have hne : cmpD .NotEq (.lst ((coreL n (r4 n (adjP ps))).map dn)) (.lst ((coreL n (r4 n (adjP ps))).map dn)) = some false := by rw [ne_lstn]; simp
    generalize coreL n (r4 n (adjP ps)) = cl at *
    rw [show (List.range 2).map dn = [dn 0, dn 1] from rfl, forGo_c]
    simp (disch := (first | omega | (simp only [List.length_map, mkM_len, fnM_len, List.length_range, List.length_range', List.length_take, List.length_drop, List.length_append, List.length_cons, List.length_nil]; omega))) [b_law_1, w1, i0, i1]
    rw [forGo_c]
    simp (disch := (first | omega | (simp only [List.length_map, mkM_len, fnM_len, List.length_range, List.length_range', List.length_take, List.length_drop, List.length_append, List.length_cons, List.length_nil]; omega))) [b_law_1, w2, i0, i1]
    rw [forGo_n]
    simp (disch := (first | omega | (simp only [List.length_map, mkM_len, fnM_len, List.length_range, List.length_range', List.length_take, List.length_drop, List.length_append, List.length_cons, List.length_nil]; omega))) []
    rw [lc_map (fun x => some (dn x)) (fun x _ => by simp), filterMap_some, rb_ok, lstOf_ok (by simp; omega)]
    simp (disch := (first | omega | (simp only [List.length_map, mkM_len, fnM_len, List.length_range, List.length_range', List.length_take, List.length_drop, List.length_append, List.length_cons, List.length_nil]; omega))) [hab]
    have end0 : run pk.prg pk.fs (k + 7) F__law_least_first [.p (webD n (adjP ps)), .p (dn n), .p (.lst ((quadsL n ps).map dq)), .p (.lst [])] (DM ds3 []) = .ok (.p false (.bl true)) (DM ds3 []) := hlf [] (DM ds3 []) (Or.inl rfl)
    have end1 : ∀ x d, x ∈ freeL n (adjP ps) [] → mB n (adjP ps) [] x = false → run pk.prg pk.fs (k + 7) F__law_least_first [.p (webD n (adjP ps)), .p (dn n), .p (.lst ((quadsL n ps).map dq)), .p (.lst [.tup [dn x, .str ("back" : Str)]])] (DM d []) = .ok (.p false (.bl true)) (DM d []) := fun x d hx hm => hlf [(x, false)] (DM d []) (Or.inr ⟨x, false, rfl, (free_ok hx).1, by simp, fun _ => hm⟩)
    have end2 : ∀ x d, x ∈ freeL n (adjP ps) [] → mB n (adjP ps) [] x = true → run pk.prg pk.fs (k + 7) F__law_least_first [.p (webD n (adjP ps)), .p (dn n), .p (.lst ((quadsL n ps).map dq)), .p (.lst [.tup [dn x, .str ("front" : Str)]])] (DM d []) = .ok (.p false (.bl true)) (DM d []) := fun x d hx hm => hlf [(x, true)] (DM d []) (Or.inr ⟨x, true, rfl, (free_ok hx).1, fun _ => (free_ok hx).2.resolve_right (by rw [hm]; simp), by simp⟩)
    by_cases q : 0 < (freeL n (adjP ps) []).length
    · by_cases q2 : tk ds3 2 = 1
      · have ht := tk_lt ds3.dropLast q
        generalize ht0 : tk ds3.dropLast (freeL n (adjP ps) []).length = t at ht
        have hmem : (freeL n (adjP ps) [])[t] ∈ freeL n (adjP ps) [] := List.getElem_mem ht
        cases q3 : mB n (adjP ps) [] (freeL n (adjP ps) [])[t] with
        | false => simp (disch := (first | omega | (simp only [List.length_map, mkM_len, fnM_len, List.length_range, List.length_range', List.length_take, List.length_drop, List.length_append, List.length_cons, List.length_nil]; omega))) [q, q2, ht0, ht, hnm, q3, end1 _ _ hmem q3, hco, hsr]
        | true => simp (disch := (first | omega | (simp only [List.length_map, mkM_len, fnM_len, List.length_range, List.length_range', List.length_take, List.length_drop, List.length_append, List.length_cons, List.length_nil]; omega))) [q, q2, ht0, ht, hnm, q3, end2 _ _ hmem q3, hco, hsr]
      · have end3 : ∀ d, run pk.prg pk.fs (k + 7) F__law_least_first [.p (webD n (adjP ps)), .p (dn n), .p (.lst ((quadsL n ps).map dq)), .p (.lst [])] (DM d []) = .ok (.p false (.bl true)) (DM d []) := fun d => hlf [] (DM d []) (Or.inl rfl)
        simp (disch := (first | omega | (simp only [List.length_map, mkM_len, fnM_len, List.length_range, List.length_range', List.length_take, List.length_drop, List.length_append, List.length_cons, List.length_nil]; omega))) [q, q2, end3, hco, hsr]
    · simp (disch := (first | omega | (simp only [List.length_map, mkM_len, fnM_len, List.length_range, List.length_range', List.length_take, List.length_drop, List.length_append, List.length_cons, List.length_nil]; omega))) [q, end0, hco, hsr]
end K

namespace KH
open PySem DI
abbrev R : PySem.W.OpenRow := PySem.W.OpenLaw.row PySem.Challenge.rw_perfectorders_k79_one_core_however_taken
def l0 : List PySem.Str := ["_wall", "OrdersError", "BadForm", "BadNumber", "BadWeb", "BadThing", "UnmetNeed", "NoneSuch", "is_int", "is_thing", "check_number", "check_thing", "mask_of", "whole_mask", "members"]
def l1 : List PySem.Str := ["is_pair", "clash_masks", "clash_pairs", "gap_pairs", "pairs_beside", "Web", "rows_from", "rows_of_four", "end_and_middle_masks", "Taking", "core", "_law_draws", "_law_take", "_law_int", "_law_clash"]
def l2 : List PySem.Str := ["_law_contrary", "_law_near", "_law_moved", "_law_line", "_law_ring", "_law_ring_row", "_law_sides", "_law_small", "_law_twins", "_law_stretches", "_law_row", "_law_free", "_law_falling", "_law_made", "_law_case"]
def l3 : List PySem.Str := ["_law_quads", "_law_core", "_law_inside", "_law_no_end", "_law_no_middle", "_law_same_row", "_law_told", "_law_due", "_law_state", "_law_step", "_law_able", "_law_walk", "_law_least_first"]
def loose : List PySem.Str := l0 ++ l1 ++ l2 ++ l3
def a0 : List Addr := [2, 3, 30, 31, 43, 44, 50, 61, 62, 64, 65, 71, 82, 83, 85, 86, 92, 103, 104, 106, 107, 118, 119, 125, 136, 137, 139, 140, 148, 149]
def a1 : List Addr := [155, 156, 157, 163, 164, 177, 178, 184, 185, 189, 190, 196, 197, 201, 202, 206, 207, 225, 226, 232, 233, 388, 389, 419, 420, 430, 431, 435, 436, 442]
def a2 : List Addr := [443, 456, 457, 461, 462, 463, 469, 470, 471, 472, 478, 479, 485, 486, 488, 489, 499, 500, 506, 507, 513, 514, 520, 521, 527, 528, 534, 535, 539, 540]
def a3 : List Addr := [544, 545, 549, 550, 554, 555, 559, 560, 564, 565, 569, 570, 574, 575, 579, 580, 584, 585, 589, 590, 594, 595, 599, 600, 606, 607, 613, 614, 618, 619]
def a4 : List Addr := [623, 624, 628, 629, 633, 634, 638, 639, 645, 646, 652, 653, 657, 658, 662, 663, 667, 668, 672, 673, 677, 678, 682, 683]
def as : List Addr := a0 ++ a1 ++ a2 ++ a3 ++ a4
theorem headrun (w : World) : HandSHeadRun.RunEq R (PySem.W.view R.prog [64]) (hkD K.pk as) (obD K.pk as) 8000 loose w := by
  intro os
  kernel_rfl
theorem says : DI.Says K.pk K.F_law 7 := fun ns h => K.law_true 0 ns h
end KH
open PySem PySem.W PySem.Calls PyProof.Rows
theorem PySem.Challenge.cw_perfectorders_k79_one_core_however_taken_holds : PySem.Challenge.rw_perfectorders_k79_one_core_however_taken.Holds := by
  w_on; o_law
  refine HandSHeadRun.head_any (r := OpenLaw.row PySem.Challenge.rw_perfectorders_k79_one_core_however_taken) (q := view (OpenLaw.row PySem.Challenge.rw_perfectorders_k79_one_core_however_taken).prog [64]) (H := DI.hkD K.pk KH.as) (ob := DI.obD K.pk KH.as) (M := 8000) (loose := KH.loose) (d := HandSHeadRun.topDef (OpenLaw.row PySem.Challenge.rw_perfectorders_k79_one_core_however_taken).prog 64) (kwd := []) (DI.obD_eq _ _)
    (by kernel_rfl) (fun s => by kernel_rfl) KH.headrun (by kernel_rfl) (by kernel_rfl) (by kernel_rfl) (by rfl) (by first | assumption | decide +kernel) (by decide +kernel) ⟨rfl, rfl, rfl, rfl, rfl, by decide +kernel⟩ ?hw ?hc
  case hw => w_witness2
  case hc =>
    refine L2.walk_ofE (l := PySem.Challenge.rw_perfectorders_k79_one_core_however_taken) (n := 63) (k := 24) (x := "script") (CX := L2.CX0) rfl (by decide) (by kernel_rfl) ⟨rfl, by decide, by decide⟩ ?F (fun _ _ _ _ z => z)
    intro w mg fa h Y G hmg0
    obtain ⟨K1, KX, c⟩ := Y
    have hmg : mg ("law" : PySem.Str) = some (.ref fa) := by
      have e : (HandSHeadRun.topDef (OpenLaw.row PySem.Challenge.rw_perfectorders_k79_one_core_however_taken).prog 64).name = ("law" : PySem.Str) := by kernel_rfl
      rw [← e]
      exact hmg0
    obtain ⟨fd, sp, h1, h2, h3⟩ := DI.law_facts (P := (PySem.Challenge.rw_perfectorders_k79_one_core_however_taken).prog) (w := w) (p := K.pk) (f := K.F_law) (n := 7) (d := K.d_law) (lw := "law") KX G hmg ⟨by kernel_rfl, by kernel_rfl⟩ c rfl rfl rfl rfl rfl KH.says
    exact ⟨K1, fd, (fun vs H Q _ => sp vs H Q fun _ _ _ => False), KX, h1, fun H a ns hl hO hS => h2 H a ns hl hO hS, fun base k1 k2 => DI.calm_ok (h3 base k1 k2)⟩
